import PyProof.Rows.All
import Wide.All
import OpenK.AllK
import Wide.FinOn
import HandS.ForMost
import HandS.EndBits
import HandS.Flow
import HandS.Conv
import HandS.Style
import HandS.TupAny
import HandS.TupMul
import HandS.IsInst
import HandS.Wide
import HandS.Defaults
import HandS.WordsExc
import PyProof.P3In
import HandS.NoneIn
import HandS.Walk
import HandS.Zip
import PyProof.ReprRoads
import HandS.RaiseMore
import PySem.Challenge.RW_kerbtruth_k10_signs_hour_by_hour
set_option Elab.async false
set_option linter.all false
set_option maxRecDepth 100000
set_option maxHeartbeats 4000000
namespace ZZ
open PySem PySem.Spec L2
abbrev SS := L2.St

/-! ### outcomes -/
abbrev D := PyData
inductive Sl where
  | un | fz (d : D) | op (d : D)
abbrev En := List Sl
structure Exn where
  cls : Str
  val : D
inductive Out (α : Type) where
  | ok (a : α) (e : En) | exc (x : Exn) (e : En) | no
abbrev M (α : Type) := En → Out α
def bnd {α β : Type} (m : M α) (f : α → M β) : M β := fun e => match m e with
  | .ok a e1 => f a e1
  | .exc x e1 => .exc x e1
  | .no => .no
def ret {α : Type} (a : α) : M α := fun e => .ok a e
def lft {α : Type} (o : Option α) : M α := fun e => match o with
  | some a => .ok a e
  | none => .no

/-! ### what stands for data -/
def FzL (K : PySem.W.Frag) (H : Hp) (a : Addr) (xs : List V) : Prop :=
  (∃ o, H a = some (.frz o (.lst xs))) ∨
    ∃ (its : Array Value) (n : Nat), K.lookup a = some { cls := .type "list", data := .seq its n } ∧ its.size ≤ sizeLine ∧ Vals xs its.toList
theorem FzL.sq {K : PySem.W.Frag} {H : Hp} {a : Addr} {xs : List V} (h : FzL K H a xs) : SqL K H a xs := by
  rcases h with ⟨o, h⟩ | ⟨its, n, h, hz, r⟩
  · exact .inl (.inr ⟨o, h⟩)
  · exact .inr ⟨_, its, n, h, rfl, rfl, rfl, hz, r⟩
def kD : Key → D
  | .inl i => .int i
  | .inr x => .str x
mutual
inductive Rp (K : PySem.W.Frag) (H : Hp) : V → D → Prop
  | non : Rp K H .non .none
  | bl (b : Bool) : Rp K H (.bl b) (.bool b)
  | int (i : Int) : Rp K H (.int i) (.int i)
  | str (x : Str) : Rp K H (.str x) (.str x)
  | lst {a : Addr} {xs : List V} {ds : List D} : FzL K H a xs → RpA K H xs ds → Rp K H (.ref a) (.list ds)
  | tup {a : Addr} {xs : List V} {ds : List D} : SqT K H a xs → RpA K H xs ds → Rp K H (.ref a) (.tuple ds)
  | dic {a : Addr} {o : Obj} {kvs : List (Key × V)} {ds : List (D × D)} : H a = some (.frz o (.dK kvs)) → RpK K H kvs ds → Rp K H (.ref a) (.dict ds)
inductive RpA (K : PySem.W.Frag) (H : Hp) : List V → List D → Prop
  | nil : RpA K H [] []
  | cons {v : V} {vs : List V} {d : D} {ds : List D} : Rp K H v d → RpA K H vs ds → RpA K H (v :: vs) (d :: ds)
inductive RpK (K : PySem.W.Frag) (H : Hp) : List (Key × V) → List (D × D) → Prop
  | nil : RpK K H [] []
  | cons {k : Key} {v : V} {vs : List (Key × V)} {d : D} {ds : List (D × D)} : Rp K H v d → RpK K H vs ds → RpK K H ((k, v) :: vs) ((kD k, d) :: ds)
end
structure Mono (H H' : Hp) : Prop where
  tups : ∀ b xs, H b = some (.tup xs) → H' b = some (.tup xs)
  frzs : ∀ b o u, H b = some (.frz o u) → H' b = some (.frz o u)
theorem Mono.refl {H : Hp} : Mono H H := ⟨fun _ _ h => h, fun _ _ _ h => h⟩
theorem Mono.trans {H H1 H2 : Hp} (a : Mono H H1) (b : Mono H1 H2) : Mono H H2 := ⟨fun c x h => b.tups c x (a.tups c x h), fun c o x h => b.frzs c o x (a.frzs c o x h)⟩
theorem Mono.same {H H' : Hp} (s : Same H H') : Mono H H' := ⟨fun b xs h => s b _ h, fun b o u h => s b _ h⟩
theorem Mono.sqT {K : PySem.W.Frag} {H H' : Hp} (m : Mono H H') {a : Addr} {xs : List V} (h : SqT K H a xs) : SqT K H' a xs := by
  rcases h with (h | ⟨o, h⟩) | h
  · exact .inl (.inl (m.tups _ _ h))
  · exact .inl (.inr ⟨o, m.frzs _ _ _ h⟩)
  · exact .inr h
theorem Mono.fzL {K : PySem.W.Frag} {H H' : Hp} (m : Mono H H') {a : Addr} {xs : List V} (h : FzL K H a xs) : FzL K H' a xs := by
  rcases h with ⟨o, h⟩ | h
  · exact .inl ⟨o, m.frzs _ _ _ h⟩
  · exact .inr h
mutual
theorem Rp.mono {K : PySem.W.Frag} {H H' : Hp} (m : Mono H H') : ∀ {v : V} {d : D}, Rp K H v d → Rp K H' v d
  | _, _, .non => .non
  | _, _, .bl b => .bl b
  | _, _, .int i => .int i
  | _, _, .str x => .str x
  | _, _, .lst h r => .lst (m.fzL h) (RpA.mono m r)
  | _, _, .tup h r => .tup (m.sqT h) (RpA.mono m r)
  | _, _, .dic h r => .dic (m.frzs _ _ _ h) (RpK.mono m r)
theorem RpA.mono {K : PySem.W.Frag} {H H' : Hp} (m : Mono H H') : ∀ {v : List V} {d : List D}, RpA K H v d → RpA K H' v d
  | _, _, .nil => .nil
  | _, _, .cons r t => .cons (Rp.mono m r) (RpA.mono m t)
theorem RpK.mono {K : PySem.W.Frag} {H H' : Hp} (m : Mono H H') : ∀ {v : List (Key × V)} {d : List (D × D)}, RpK K H v d → RpK K H' v d
  | _, _, .nil => .nil
  | _, _, .cons r t => .cons (Rp.mono m r) (RpK.mono m t)
end
theorem RpA.length {K : PySem.W.Frag} {H : Hp} : ∀ {vs : List V} {ds : List D}, RpA K H vs ds → vs.length = ds.length
  | _, _, .nil => rfl
  | _, _, .cons _ t => congrArg (· + 1) (RpA.length t)
theorem RpA.get {K : PySem.W.Frag} {H : Hp} : ∀ {vs : List V} {ds : List D}, RpA K H vs ds → ∀ (i : Nat) (d : D), ds[i]? = some d → ∃ v, vs[i]? = some v ∧ Rp K H v d
  | _, _, .nil, i, d, h => by simp at h
  | _, _, .cons r t, 0, d, h => by simp at h; subst h; exact ⟨_, rfl, r⟩
  | _, _, .cons r t, i + 1, d, h => by
    obtain ⟨v, e, q⟩ := RpA.get t i d (by simpa using h)
    exact ⟨v, by simpa using e, q⟩
theorem RpA.append {K : PySem.W.Frag} {H : Hp} : ∀ {vs ws : List V} {ds es : List D}, RpA K H vs ds → RpA K H ws es → RpA K H (vs ++ ws) (ds ++ es)
  | _, _, _, _, .nil, s => s
  | _, _, _, _, .cons r t, s => .cons r (RpA.append t s)
theorem RpA.take {K : PySem.W.Frag} {H : Hp} : ∀ {vs : List V} {ds : List D} (n : Nat), RpA K H vs ds → RpA K H (vs.take n) (ds.take n)
  | _, _, 0, _ => .nil
  | _, _, _ + 1, .nil => .nil
  | _, _, n + 1, .cons r t => .cons r (RpA.take n t)
theorem RpA.drop {K : PySem.W.Frag} {H : Hp} : ∀ {vs : List V} {ds : List D} (n : Nat), RpA K H vs ds → RpA K H (vs.drop n) (ds.drop n)
  | _, _, 0, r => r
  | _, _, _ + 1, .nil => .nil
  | _, _, n + 1, .cons _ t => RpA.drop n t
theorem RpA.set {K : PySem.W.Frag} {H : Hp} {v : V} {d : D} (r : Rp K H v d) : ∀ {vs : List V} {ds : List D} (i : Nat), RpA K H vs ds → RpA K H (vs.set i v) (ds.set i d)
  | _, _, _, .nil => .nil
  | _, _, 0, .cons _ t => .cons r t
  | _, _, i + 1, .cons q t => .cons q (RpA.set r i t)
theorem RpA.reverse {K : PySem.W.Frag} {H : Hp} : ∀ {vs : List V} {ds : List D}, RpA K H vs ds → RpA K H vs.reverse ds.reverse
  | _, _, .nil => .nil
  | _, _, .cons r t => by
    rw [List.reverse_cons, List.reverse_cons]
    exact RpA.append (RpA.reverse t) (.cons r .nil)
mutual
theorem Rp.dp {K : PySem.W.Frag} {H : Hp} : ∀ {v : V} {d : D}, Rp K H v d → PyData.canLay0 d = true → Dp K H v d
  | _, _, .non, _ => .non
  | _, _, .bl b, _ => .bl b
  | _, _, .int i, _ => .int i
  | _, _, .str x, _ => .str x
  | _, _, .lst h r, s => .lst h.sq (RpA.dp r (by simpa only [PyData.canLay0] using s))
  | _, _, .tup h r, s => .tup h (RpA.dp r (by simpa only [PyData.canLay0] using s))
  | _, _, .dic h r, s => by simp only [PyData.canLay0] at s; cases s
theorem RpA.dp {K : PySem.W.Frag} {H : Hp} : ∀ {v : List V} {d : List D}, RpA K H v d → PyData.canLayAll0 d = true → DpAll K H v d
  | _, _, .nil, _ => .nil
  | _, _, .cons r t, s => by
    simp only [PyData.canLayAll0, Bool.and_eq_true] at s
    exact .cons (Rp.dp r s.1) (RpA.dp t s.2)
end

/-! ### the state of a def: its slots -/
structure ZC where
  Hb : Hp
  ios : List Nat
  adr : Nat → Addr
  tmp : List (Addr × HO)
  W : Exn → En → SS → Hp → Prop
def Opn (K : PySem.W.Frag) (H : Hp) (a : Addr) : D → Prop
  | .list ds => ∃ xs, H a = some (.lst xs) ∧ RpA K H xs ds
  | .dict ds => ∃ kvs, H a = some (.dK kvs) ∧ RpK K H kvs ds
  | _ => False
theorem Opn.there {K : PySem.W.Frag} {H : Hp} {a : Addr} {d : D} (h : Opn K H a d) : ∃ u, H a = some u ∧ Mut (some u) := by
  cases d with
  | list ds => obtain ⟨xs, h, _⟩ := h; exact ⟨_, h, trivial⟩
  | dict ds => obtain ⟨xs, h, _⟩ := h; exact ⟨_, h, trivial⟩
  | _ => exact h.elim
theorem Opn.mono {K : PySem.W.Frag} {H H' : Hp} {a : Addr} {d : D} (h : Opn K H a d) (m : Mono H H') (e : H' a = H a) : Opn K H' a d := by
  cases d with
  | list ds => obtain ⟨xs, h, r⟩ := h; exact ⟨xs, e.trans h, r.mono m⟩
  | dict ds => obtain ⟨xs, h, r⟩ := h; exact ⟨xs, e.trans h, r.mono m⟩
  | _ => exact h.elim
/-- what is locked now is data -/
theorem Opn.lock {K : PySem.W.Frag} {H : Hp} {a : Addr} {d : D} {u : HO} (h : Opn K H a d) (e : H a = some u) (m : ∀ od, Mono H (upd H a (.frz od u))) (od : Obj) : Rp K (upd H a (.frz od u)) (.ref a) d := by
  cases d with
  | list ds =>
    obtain ⟨xs, h, r⟩ := h
    rw [e] at h; cases h
    exact .lst (.inl ⟨od, upd_same⟩) (r.mono (m od))
  | dict ds =>
    obtain ⟨xs, h, r⟩ := h
    rw [e] at h; cases h
    exact .dic (o := od) upd_same (r.mono (m od))
  | _ => exact h.elim
theorem mono_upd {H : Hp} {a : Addr} {u o : HO} (e : H a = some u) (mu : Mut (some u)) : Mono H (upd H a o) := by
  refine ⟨fun b xs h => ?_, fun b ob x h => ?_⟩
  · rw [upd_ne]; exact h
    rintro rfl; rw [e] at h; cases h; exact mu
  · rw [upd_ne]; exact h
    rintro rfl; rw [e] at h; cases h; exact mu
structure Rel (K : PySem.W.Frag) (Z : ZC) (σ : SS) (H : Hp) (e : En) : Prop where
  len : e.length = σ.length
  fz : ∀ (i : Nat) (d : D), e[i]? = some (.fz d) → ∃ v, σ[i]? = some (some v) ∧ Rp K H v d
  op : ∀ (i : Nat) (d : D), e[i]? = some (.op d) → ∃ a : Addr, σ[i]? = some (some (.ref a)) ∧ Opn K H a d ∧ (Z.Hb a = none ∨ (i ∈ Z.ios ∧ a = Z.adr i))
  inj : ∀ (i j : Nat) (d f : D) (a : Addr), e[i]? = some (.op d) → e[j]? = some (.op f) → σ[i]? = some (some (.ref a)) → σ[j]? = some (some (.ref a)) → i = j
  fr : ∀ b o, Z.Hb b = some o → (∀ i ∈ Z.ios, b ≠ Z.adr i) → H b = some o
  io : ∀ i ∈ Z.ios, (∃ u, H (Z.adr i) = some u) ∧ σ[i]? = some (some (.ref (Z.adr i)))
  tp : ∀ p ∈ Z.tmp, H p.1 = some p.2 ∧ Mut (some p.2) ∧ Z.Hb p.1 = none ∧ ∀ (i : Nat) (d : D), e[i]? = some (.op d) → σ[i]? ≠ some (some (.ref p.1))
section
variable {K : PySem.W.Frag} {Z : ZC} {σ : SS} {H H' : Hp} {e : En}
theorem Rel.same (R : Rel K Z σ H e) (s : Same H H') : Rel K Z σ H' e where
  len := R.len
  fz := fun i d h => let ⟨v, h1, h2⟩ := R.fz i d h; ⟨v, h1, h2.mono (.same s)⟩
  op := fun i d h => by
    obtain ⟨a, h1, h2, h3⟩ := R.op i d h
    obtain ⟨u, hu, _⟩ := h2.there
    exact ⟨a, h1, h2.mono (.same s) ((s a u hu).trans hu.symm), h3⟩
  inj := R.inj
  fr := fun b o h n => s b o (R.fr b o h n)
  io := fun i hi => let ⟨⟨u, hu⟩, h⟩ := R.io i hi; ⟨⟨u, s _ _ hu⟩, h⟩
  tp := fun p hp => let ⟨h, q⟩ := R.tp p hp; ⟨s _ _ h, q⟩
/-- an open one is locked, or changed: all else stays -/
theorem Rel.fresh (R : Rel K Z σ H e) {a : Addr} (h : H a = none) : Z.Hb a = none ∧ (∀ (i : Nat) (d : D), e[i]? = some (.op d) → σ[i]? ≠ some (some (.ref a))) ∧ ∀ p ∈ Z.tmp, p.1 ≠ a := by
  refine ⟨?_, fun i d hi hs => ?_, fun p hp z => ?_⟩
  · cases q : Z.Hb a with
    | none => rfl
    | some o =>
      by_cases hn : ∃ i, i ∈ Z.ios ∧ a = Z.adr i
      · obtain ⟨i, hi, rfl⟩ := hn
        obtain ⟨⟨u, hu⟩, _⟩ := R.io i hi
        rw [h] at hu; cases hu
      · have := R.fr a o q fun i hi e => hn ⟨i, hi, e⟩
        rw [h] at this; cases this
  · obtain ⟨b, h1, h2, _⟩ := R.op i d hi
    rw [hs] at h1; cases h1
    obtain ⟨u, hu, _⟩ := h2.there
    rw [h] at hu; cases hu
  · have := (R.tp p hp).1
    rw [z, h] at this; cases this
/-- an address that is no slot's and not of the entry may change -/
theorem Rel.other (R : Rel K Z σ H e) {a : Addr} {u o : HO} (hu : H a = some u) (mu : Mut (some u)) (hb : Z.Hb a = none) (hs : ∀ (i : Nat) (d : D), e[i]? = some (.op d) → σ[i]? ≠ some (some (.ref a))) (ht : ∀ p ∈ Z.tmp, p.1 ≠ a) : Rel K Z σ (upd H a o) e where
  len := R.len
  fz := fun i d h => let ⟨v, h1, h2⟩ := R.fz i d h; ⟨v, h1, h2.mono (mono_upd hu mu)⟩
  op := fun i d h => by
    obtain ⟨b, h1, h2, h3⟩ := R.op i d h
    refine ⟨b, h1, h2.mono (mono_upd hu mu) (upd_ne ?_), h3⟩
    rintro rfl
    exact hs i d h h1
  inj := R.inj
  fr := fun b o' h n => by
    rw [upd_ne]; exact R.fr b o' h n
    rintro rfl; rw [hb] at h; cases h
  io := fun i hi => by
    obtain ⟨⟨v, hv⟩, h⟩ := R.io i hi
    by_cases e : Z.adr i = a
    · exact ⟨⟨o, by rw [e, upd_same]⟩, h⟩
    · exact ⟨⟨v, by rw [upd_ne e]; exact hv⟩, h⟩
  tp := fun p hp => let ⟨h, q⟩ := R.tp p hp; ⟨by rw [upd_ne (ht p hp)]; exact h, q⟩
theorem lt_of_get {α : Type} {l : List α} {i : Nat} {x : α} (h : l[i]? = some x) : i < l.length := (List.getElem?_eq_some_iff.mp h).1
theorem Rel.setF (R : Rel K Z σ H e) {i : Nat} (hi : i < e.length) (hio : i ∉ Z.ios) {v : V} {d : D} (r : Rp K H v d) : Rel K Z (σ.set i (some v)) H (e.set i (.fz d)) where
  len := by rw [List.length_set, List.length_set]; exact R.len
  fz := fun j d' h => by
    by_cases hj : i = j
    · subst hj
      rw [List.getElem?_set_self hi] at h; cases h
      exact ⟨v, by rw [List.getElem?_set_self (by rw [← R.len]; exact hi)], r⟩
    · rw [List.getElem?_set_ne hj] at h
      rw [List.getElem?_set_ne hj]
      exact R.fz j d' h
  op := fun j d' h => by
    by_cases hj : i = j
    · subst hj
      rw [List.getElem?_set_self hi] at h; cases h
    · rw [List.getElem?_set_ne hj] at h
      rw [List.getElem?_set_ne hj]
      exact R.op j d' h
  inj := fun j k d1 d2 a h1 h2 h3 h4 => by
    have nj : i ≠ j := by rintro rfl; rw [List.getElem?_set_self hi] at h1; cases h1
    have nk : i ≠ k := by rintro rfl; rw [List.getElem?_set_self hi] at h2; cases h2
    rw [List.getElem?_set_ne nj] at h1 h3
    rw [List.getElem?_set_ne nk] at h2 h4
    exact R.inj j k d1 d2 a h1 h2 h3 h4
  fr := R.fr
  io := fun j hj => by
    have nj : i ≠ j := by rintro rfl; exact hio hj
    rw [List.getElem?_set_ne nj]
    exact R.io j hj
  tp := fun p hp => by
    obtain ⟨h1, h2, h3, h4⟩ := R.tp p hp
    refine ⟨h1, h2, h3, fun j f hj => ?_⟩
    have nj : i ≠ j := by rintro rfl; rw [List.getElem?_set_self hi] at hj; cases hj
    rw [List.getElem?_set_ne nj] at hj ⊢
    exact h4 j f hj
theorem Rel.setO (R : Rel K Z σ H e) {i : Nat} (hi : i < e.length) (hio : i ∉ Z.ios) {a : Addr} {d : D} (r : Opn K H a d) (hb : Z.Hb a = none) (hs : ∀ (j : Nat) (f : D), e[j]? = some (.op f) → σ[j]? ≠ some (some (.ref a))) (ht : ∀ p ∈ Z.tmp, p.1 ≠ a) : Rel K Z (σ.set i (some (.ref a))) H (e.set i (.op d)) where
  len := by rw [List.length_set, List.length_set]; exact R.len
  fz := fun j d' h => by
    by_cases hj : i = j
    · subst hj
      rw [List.getElem?_set_self hi] at h; cases h
    · rw [List.getElem?_set_ne hj] at h
      rw [List.getElem?_set_ne hj]
      exact R.fz j d' h
  op := fun j d' h => by
    by_cases hj : i = j
    · subst hj
      rw [List.getElem?_set_self hi] at h; cases h
      exact ⟨a, by rw [List.getElem?_set_self (by rw [← R.len]; exact hi)], r, .inl hb⟩
    · rw [List.getElem?_set_ne hj] at h
      rw [List.getElem?_set_ne hj]
      exact R.op j d' h
  inj := fun j k d1 d2 b h1 h2 h3 h4 => by
    by_cases hj : i = j
    · by_cases hk : i = k
      · exact hj.symm.trans hk
      · subst hj
        rw [List.getElem?_set_self (by rw [← R.len]; exact hi)] at h3; cases h3
        rw [List.getElem?_set_ne hk] at h2 h4
        exact absurd h4 (hs k d2 h2)
    · by_cases hk : i = k
      · subst hk
        rw [List.getElem?_set_self (by rw [← R.len]; exact hi)] at h4; cases h4
        rw [List.getElem?_set_ne hj] at h1 h3
        exact absurd h3 (hs j d1 h1)
      · rw [List.getElem?_set_ne hj] at h1 h3
        rw [List.getElem?_set_ne hk] at h2 h4
        exact R.inj j k d1 d2 b h1 h2 h3 h4
  fr := R.fr
  io := fun j hj => by
    have nj : i ≠ j := by rintro rfl; exact hio hj
    rw [List.getElem?_set_ne nj]
    exact R.io j hj
  tp := fun p hp => by
    obtain ⟨h1, h2, h3, h4⟩ := R.tp p hp
    refine ⟨h1, h2, h3, fun j f hj => ?_⟩
    by_cases nj : i = j
    · subst nj
      rw [List.getElem?_set_self (by rw [← R.len]; exact hi)]
      intro z; cases z
      exact ht p hp rfl
    · rw [List.getElem?_set_ne nj] at hj ⊢
      exact h4 j f hj
/-- an open slot's object is changed (its new value open again) -/
theorem Rel.mut (R : Rel K Z σ H e) {i : Nat} {a : Addr} {d f : D} {u o : HO} (h : e[i]? = some (.op d)) (ha : σ[i]? = some (some (.ref a))) (hu : H a = some u) (mu : Mut (some u)) (r : Opn K (upd H a o) a f) : Rel K Z σ (upd H a o) (e.set i (.op f)) := by
  have hi := lt_of_get h
  have m : Mono H (upd H a o) := mono_upd hu mu
  refine ⟨by rw [List.length_set]; exact R.len, fun j d' hj => ?_, fun j d' hj => ?_, fun j k d1 d2 b h1 h2 h3 h4 => ?_, fun b o' hb n => ?_, fun j hj => ?_, fun p hp => ?_⟩
  · by_cases e1 : i = j
    · subst e1; rw [List.getElem?_set_self hi] at hj; cases hj
    · rw [List.getElem?_set_ne e1] at hj
      obtain ⟨v, q1, q2⟩ := R.fz j d' hj
      exact ⟨v, q1, q2.mono m⟩
  · by_cases e1 : i = j
    · subst e1; rw [List.getElem?_set_self hi] at hj; cases hj
      obtain ⟨b, q1, q2, q3⟩ := R.op i d h
      rw [ha] at q1; cases q1
      exact ⟨a, ha, r, q3⟩
    · rw [List.getElem?_set_ne e1] at hj
      obtain ⟨b, q1, q2, q3⟩ := R.op j d' hj
      refine ⟨b, q1, q2.mono m (upd_ne ?_), q3⟩
      rintro rfl
      exact e1 (R.inj i j d d' b h hj ha q1)
  · have at_ : ∀ (j : Nat) (d1 : D), (e.set i (.op f))[j]? = some (.op d1) → ∃ d', e[j]? = some (.op d') := fun j d1 q => by
      by_cases e1 : i = j
      · subst e1; exact ⟨d, h⟩
      · rw [List.getElem?_set_ne e1] at q; exact ⟨d1, q⟩
    obtain ⟨d1', q1⟩ := at_ j d1 h1
    obtain ⟨d2', q2⟩ := at_ k d2 h2
    exact R.inj j k d1' d2' b q1 q2 h3 h4
  · rw [upd_ne]; exact R.fr b o' hb n
    rintro rfl
    obtain ⟨c, q1, _, q3⟩ := R.op i d h
    rw [ha] at q1; cases q1
    rcases q3 with q3 | ⟨q3, q4⟩
    · rw [hb] at q3; cases q3
    · exact n i q3 q4
  · obtain ⟨⟨v, hv⟩, q⟩ := R.io j hj
    by_cases e1 : Z.adr j = a
    · exact ⟨⟨o, by rw [e1, upd_same]⟩, q⟩
    · exact ⟨⟨v, by rw [upd_ne e1]; exact hv⟩, q⟩
  · obtain ⟨h1, h2, h3, h4⟩ := R.tp p hp
    refine ⟨?_, h2, h3, fun j f hj => ?_⟩
    · rw [upd_ne]; exact h1
      rintro rfl; exact h4 i d h ha
    · by_cases e1 : i = j
      · subst e1; exact h4 i d h
      · rw [List.getElem?_set_ne e1] at hj; exact h4 j f hj
/-- an open slot is locked: plain data from now on -/
theorem Rel.lock (R : Rel K Z σ H e) {i : Nat} {a : Addr} {d : D} {u : HO} (h : e[i]? = some (.op d)) (ha : σ[i]? = some (some (.ref a))) (hu : H a = some u) (mu : Mut (some u)) (od : Obj) : Rel K Z σ (upd H a (.frz od u)) (e.set i (.fz d)) := by
  have hi := lt_of_get h
  have m : Mono H (upd H a (.frz od u)) := mono_upd hu mu
  obtain ⟨a', q1, q2, q3⟩ := R.op i d h
  rw [ha] at q1; cases q1
  refine ⟨by rw [List.length_set]; exact R.len, fun j d' hj => ?_, fun j d' hj => ?_, fun j k d1 d2 b h1 h2 h3 h4 => ?_, fun b o' hb n => ?_, fun j hj => ?_, fun p hp => ?_⟩
  · by_cases e1 : i = j
    · subst e1; rw [List.getElem?_set_self hi] at hj; cases hj
      exact ⟨_, ha, q2.lock hu (fun _ => mono_upd hu mu) od⟩
    · rw [List.getElem?_set_ne e1] at hj
      obtain ⟨v, r1, r2⟩ := R.fz j d' hj
      exact ⟨v, r1, r2.mono m⟩
  · by_cases e1 : i = j
    · subst e1; rw [List.getElem?_set_self hi] at hj; cases hj
    · rw [List.getElem?_set_ne e1] at hj
      obtain ⟨b, r1, r2, r3⟩ := R.op j d' hj
      refine ⟨b, r1, r2.mono m (upd_ne ?_), r3⟩
      rintro rfl
      exact e1 (R.inj i j d d' b h hj ha r1)
  · have at_ : ∀ (j : Nat) (d1 : D), (e.set i (.fz d))[j]? = some (.op d1) → e[j]? = some (.op d1) := fun j d1 q => by
      by_cases e1 : i = j
      · subst e1; rw [List.getElem?_set_self hi] at q; cases q
      · rw [List.getElem?_set_ne e1] at q; exact q
    exact R.inj j k d1 d2 b (at_ j d1 h1) (at_ k d2 h2) h3 h4
  · rw [upd_ne]; exact R.fr b o' hb n
    rintro rfl
    rcases q3 with q3 | ⟨q3, q4⟩
    · rw [hb] at q3; cases q3
    · exact n i q3 q4
  · obtain ⟨⟨v, hv⟩, q⟩ := R.io j hj
    by_cases e1 : Z.adr j = a
    · exact ⟨⟨_, by rw [e1, upd_same]⟩, q⟩
    · exact ⟨⟨v, by rw [upd_ne e1]; exact hv⟩, q⟩
  · obtain ⟨h1, h2, h3, h4⟩ := R.tp p hp
    refine ⟨?_, h2, h3, fun j f hj => ?_⟩
    · rw [upd_ne]; exact h1
      rintro rfl; exact h4 i d h ha
    · by_cases e1 : i = j
      · subst e1; rw [List.getElem?_set_self hi] at hj; cases hj
      · rw [List.getElem?_set_ne e1] at hj; exact h4 j f hj
end
end ZZ

namespace ZZ
open PySem PySem.Spec L2

/-! ### readings -/
abbrev RR (β α : Type) := SS → En → Hp → β → α → Prop
def pst (K : PySem.W.Frag) (Z : ZC) {α β : Type} (r : RR β α) (σ : SS) (H : Hp) (Q : β → Hp → Prop) : Out α → Prop
  | .ok d e => ∀ b H', Mono H H' → Rel K Z σ H' e → r σ e H' b d → Q b H'
  | .exc x e => ∀ H', Mono H H' → Rel K Z σ H' e → Z.W x e σ H'
  | .no => False
def tG (K : PySem.W.Frag) (Z : ZC) {α β : Type} (r : RR β α) (m : M α) : SS → Hp → (β → Hp → Prop) → Prop := fun σ H Q => ∃ e, Rel K Z σ H e ∧ pst K Z r σ H Q (m e)
/-- data -/
def rV (K : PySem.W.Frag) : RR V D := fun _ _ H v d => Rp K H v d
def rVs (K : PySem.W.Frag) : RR (List V) (List D) := fun _ _ H v d => RpA K H v d
def rB : RR Bool Bool := fun _ _ _ b c => b = c
/-- a new thing, open -/
def NewO (K : PySem.W.Frag) (Z : ZC) (σ : SS) (e : En) (H : Hp) (v : V) (d : D) : Prop := ∃ a, v = .ref a ∧ Opn K H a d ∧ Z.Hb a = none ∧ (∀ (i : Nat) (f : D), e[i]? = some (.op f) → σ[i]? ≠ some (some (.ref a))) ∧ ∀ p ∈ Z.tmp, p.1 ≠ a
def rO (K : PySem.W.Frag) (Z : ZC) : RR V D := fun σ e H v d => NewO K Z σ e H v d
/-- the one or the other -/
def rX (K : PySem.W.Frag) (Z : ZC) : RR V D := fun σ e H v d => Rp K H v d ∨ NewO K Z σ e H v d
/-- looked at for the moment -/
def Rq (K : PySem.W.Frag) (H : Hp) (v : V) (d : D) : Prop := Rp K H v d ∨ ∃ a, v = .ref a ∧ Opn K H a d
def rQ (K : PySem.W.Frag) : RR V D := fun _ _ H v d => Rq K H v d
abbrev tM (K : PySem.W.Frag) (Z : ZC) (m : M D) : TE := tG K Z (rV K) m
abbrev tO (K : PySem.W.Frag) (Z : ZC) (m : M D) : TE := tG K Z (rO K Z) m
abbrev tX (K : PySem.W.Frag) (Z : ZC) (m : M D) : TE := tG K Z (rX K Z) m
abbrev tQ (K : PySem.W.Frag) (Z : ZC) (m : M D) : TE := tG K Z (rQ K) m
abbrev tMs (K : PySem.W.Frag) (Z : ZC) (m : M (List D)) : TA := tG K Z (rVs K) m
abbrev tT (K : PySem.W.Frag) (Z : ZC) (m : M Bool) : TT := tG K Z rB m
section
variable {K : PySem.W.Frag} {Z : ZC} {α β γ δ : Type} {r : RR β α} {r2 : RR δ γ} {σ : SS} {H H' : Hp} {Q : β → Hp → Prop}
theorem pst.mono {o : Out α} (h : pst K Z r σ H Q o) (m : Mono H H') : pst K Z r σ H' Q o := by
  cases o with
  | ok d e => exact fun b H2 m2 R p => h b H2 (m.trans m2) R p
  | exc x e => exact fun H2 m2 R => h H2 (m.trans m2) R
  | no => exact h
theorem pst_bnd {m : M α} {f : α → M γ} {e : En} {Q2 : δ → Hp → Prop} (h : pst K Z r2 σ H Q2 (bnd m f e))
    (k : ∀ b H1 d e1, Mono H H1 → Rel K Z σ H1 e1 → r σ e1 H1 b d → pst K Z r2 σ H1 Q2 (f d e1) → Q b H1) : pst K Z r σ H Q (m e) := by
  unfold bnd at h
  cases q : m e with
  | ok d e1 =>
    rw [q] at h
    exact fun b H1 m1 R p => k b H1 d e1 m1 R p (h.mono m1)
  | exc x e1 =>
    rw [q] at h
    exact h
  | no =>
    rw [q] at h
    exact h
theorem pst_lft {o : Option α} {e : En} (h : pst K Z r σ H Q (lft o e)) : ∃ d, o = some d ∧ ∀ b H', Mono H H' → Rel K Z σ H' e → r σ e H' b d → Q b H' := by
  cases o with
  | none => exact h.elim
  | some d => exact ⟨d, rfl, h⟩
theorem tG_imp {m : M α} {r' : RR β α} (w : ∀ σ e H b d, r' σ e H b d → r σ e H b d) (Q : β → Hp → Prop) (h : tG K Z r m σ H Q) : tG K Z r' m σ H Q := by
  obtain ⟨e, R, p⟩ := h
  refine ⟨e, R, ?_⟩
  cases q : m e with
  | ok d e1 => rw [q] at p; exact fun b H1 m1 R1 p1 => p b H1 m1 R1 (w _ _ _ _ _ p1)
  | exc x e1 => rw [q] at p; exact p
  | no => rw [q] at p; exact p
end
section
variable {X : Cx} {Z : ZC}
theorem PE_weak {e : Expr} {t t' : TE} (h : PE X e t) (w : ∀ σ H Q, t' σ H Q → t σ H Q) : PE X e t' := ⟨fun pins s σ H Q I q => h.run pins s σ H Q I (w σ H Q q)⟩
theorem PT_weak {e : Expr} {t t' : TT} (h : PT X e t) (w : ∀ σ H Q, t' σ H Q → t σ H Q) : PT X e t' := ⟨fun pins s σ H Q I q => h.run pins s σ H Q I (w σ H Q q)⟩
theorem PA_weak {e : List Expr} {t t' : TA} (h : PA X e t) (w : ∀ σ H Q, t' σ H Q → t σ H Q) : PA X e t' := ⟨fun pos pins s σ H Q I q => h.run pos pins s σ H Q I (w σ H Q q)⟩
theorem PS_weak {e : Stmt} {t t' : TS} (h : PS X e t) (w : ∀ D σ H, t' D σ H → t D σ H) : PS X e t' := ⟨fun pins s σ H D I q => h.run pins s σ H D I (w D σ H q)⟩
theorem PSs_weak {e : List Stmt} {t t' : TS} (h : PSs X e t) (w : ∀ D σ H, t' D σ H → t D σ H) : PSs X e t' := ⟨fun pins s σ H D I q => h.run pins s σ H D I (w D σ H q)⟩

/-! ### locking -/
def LkQ (Q : VK) : VK := fun v H => Q v H ∨ ∃ a u, v = .ref a ∧ H a = some u ∧ Mut (some u) ∧ ∀ od, Q v (upd H a (.frz od u))
theorem pe_lk {e : Expr} {t : TE} (h : PE X e t) : PE X e (fun σ H Q => t σ H (LkQ Q)) := by
  refine ⟨fun pins s σ H Q I q => thn (h.run pins s σ H _ I q) fun v s' ⟨x, H1, I1, r1, q1⟩ => ?_⟩
  rcases q1 with q1 | ⟨a, u, rfl, hu, mu, q1⟩
  · exact ⟨x, H1, I1, r1, q1⟩
  · obtain ⟨od, I2⟩ := I1.lock hu mu
    exact ⟨.ref a, _, I2, r1, q1 od⟩
/-- what comes new and open is locked at once -/
theorem e_lk {e : Expr} {m : M D} (h : PE X e (tX X.K Z m)) : PE X e (tM X.K Z m) := by
  refine PE_weak (pe_lk h) fun σ H Q ⟨en, R, p⟩ => ⟨en, R, ?_⟩
  cases q : m en with
  | ok d e1 =>
    rw [q] at p
    intro v H1 m1 R1 r1
    rcases r1 with r1 | ⟨a, rfl, o, hb, hs, ht⟩
    · exact .inl (p v H1 m1 R1 r1)
    · obtain ⟨u, hu, mu⟩ := o.there
      refine .inr ⟨a, u, rfl, hu, mu, fun od => ?_⟩
      exact p _ _ (m1.trans (mono_upd hu mu)) (R1.other hu mu hb hs ht) (o.lock hu (fun _ => mono_upd hu mu) od)
  | exc x e1 => rw [q] at p; exact p
  | no => rw [q] at p; exact p
theorem e_ox {e : Expr} {m : M D} (h : PE X e (tO X.K Z m)) : PE X e (tX X.K Z m) := PE_weak h fun σ H Q => tG_imp (fun _ _ _ _ _ => .inr) Q
theorem e_mx {e : Expr} {m : M D} (h : PE X e (tM X.K Z m)) : PE X e (tX X.K Z m) := PE_weak h fun σ H Q => tG_imp (fun _ _ _ _ _ => .inl) Q
theorem e_om {e : Expr} {m : M D} (h : PE X e (tO X.K Z m)) : PE X e (tM X.K Z m) := e_lk (e_ox h)
theorem e_q {e : Expr} {m : M D} (h : PE X e (tM X.K Z m)) : PE X e (tQ X.K Z m) := PE_weak h fun σ H Q => tG_imp (fun _ _ _ _ _ => .inl) Q

/-! ### constants, names -/
theorem e_int {i j pos} : PE X (.Constant (.int i) j pos) (tM X.K Z (ret (.int i))) := PE_weak pe_int fun σ H Q ⟨e, R, p⟩ => p (.int i) H .refl R (.int i)
theorem e_bl {b j pos} : PE X (.Constant (.bool b) j pos) (tM X.K Z (ret (.bool b))) := PE_weak pe_bl fun σ H Q ⟨e, R, p⟩ => p (.bl b) H .refl R (.bl b)
theorem e_non {j pos} : PE X (.Constant .none j pos) (tM X.K Z (ret .none)) := PE_weak pe_non fun σ H Q ⟨e, R, p⟩ => p .non H .refl R .non
theorem e_str {x j pos} : PE X (.Constant (.str x) j pos) (tM X.K Z (ret (.str x))) := PE_weak pe_str fun σ H Q ⟨e, R, p⟩ => p (.str x) H .refl R (.str x)
/-- a name in slot i: data; or open: locked from here on (vl); or open, looked at for the moment (vq) -/
def vr (i : Nat) : M D := fun e => match e[i]? with
  | some (.fz d) => .ok d e
  | _ => .no
def vl (i : Nat) : M D := fun e => match e[i]? with
  | some (.fz d) => .ok d e
  | some (.op d) => .ok d (e.set i (.fz d))
  | _ => .no
def vq (i : Nat) : M D := fun e => match e[i]? with
  | some (.fz d) => .ok d e
  | some (.op d) => .ok d e
  | _ => .no
theorem e_vr {e : Expr} {i : Nat} (h : PE X e (tVar i)) : PE X e (tM X.K Z (vr i)) := PE_weak h fun σ H Q ⟨en, R, p⟩ => by
  unfold vr at p
  split at p
  · rename_i d hd
    obtain ⟨v, hv, r⟩ := R.fz i d hd
    exact ⟨v, hv, p v H .refl R r⟩
  · exact p.elim
theorem e_vq {e : Expr} {i : Nat} (h : PE X e (tVar i)) : PE X e (tQ X.K Z (vq i)) := PE_weak h fun σ H Q ⟨en, R, p⟩ => by
  unfold vq at p
  split at p
  · rename_i d hd
    obtain ⟨v, hv, r⟩ := R.fz i d hd
    exact ⟨v, hv, p v H .refl R (.inl r)⟩
  · rename_i d hd
    obtain ⟨a, ha, o, _⟩ := R.op i d hd
    exact ⟨.ref a, ha, p _ H .refl R (.inr ⟨a, rfl, o⟩)⟩
  · exact p.elim
theorem e_vl {e : Expr} {i : Nat} (h : PE X e (tVar i)) : PE X e (tM X.K Z (vl i)) := PE_weak (pe_lk h) fun σ H Q ⟨en, R, p⟩ => by
  unfold vl at p
  split at p
  · rename_i d hd
    obtain ⟨v, hv, r⟩ := R.fz i d hd
    exact ⟨v, hv, .inl (p v H .refl R r)⟩
  · rename_i d hd
    obtain ⟨a, ha, o, _⟩ := R.op i d hd
    obtain ⟨u, hu, mu⟩ := o.there
    exact ⟨.ref a, ha, .inr ⟨a, u, rfl, hu, mu, fun od => p _ _ (mono_upd hu mu) (R.lock hd ha hu mu od) (o.lock hu (fun _ => mono_upd hu mu) od)⟩⟩
  · exact p.elim

/-! ### operators -/
def bin (op : D → D → Option D) (a b : M D) : M D := bnd a fun x => bnd b fun y => lft (op x y)
def una (op : D → Option D) (a : M D) : M D := bnd a fun x => lft (op x)
/-- what an operation on data asks of its rule -/
def BinR (K : PySem.W.Frag) (r : R2) (op : D → D → Option D) : Prop := ∀ (v w : V) (x y d : D) (H : Hp) (Q : VK), Rp K H v x → Rq K H w y → op x y = some d → (∀ u H', Same H H' → Rp K H' u d → Q u H') → r v w H Q
def BinX (K : PySem.W.Frag) (r : R2) (op : D → D → Option D) : Prop := ∀ (v w : V) (x y d : D) (H : Hp) (Q : VK), Rp K H v x → Rq K H w y → op x y = some d → (∀ u H', Same H H' → (Rp K H' u d ∨ ∃ a, u = .ref a ∧ Opn K H' a d ∧ H a = none) → Q u H') → r v w H Q
theorem t_bin {K : PySem.W.Frag} {r : R2} {op : D → D → Option D} {a b : M D} (h : BinR K r op) (σ : SS) (H : Hp) (Q : VK) (p : tM K Z (bin op a b) σ H Q) : tOp r (tM K Z a) (tQ K Z b) σ H Q := by
  obtain ⟨e, R, p⟩ := p
  refine ⟨e, R, pst_bnd p fun v H1 x e1 m1 R1 r1 p1 => ⟨e1, R1, pst_bnd p1 fun w H2 y e2 m2 R2 r2 p2 => ?_⟩⟩
  obtain ⟨d, hd, q⟩ := pst_lft p2
  exact h v w x y d H2 Q (Rp.mono m2 r1) r2 hd fun u H' s ru => q u H' (.same s) (R2.same s) ru
theorem t_binX {K : PySem.W.Frag} {r : R2} {op : D → D → Option D} {a b : M D} (h : BinX K r op) (σ : SS) (H : Hp) (Q : VK) (p : tX K Z (bin op a b) σ H Q) : tOp r (tM K Z a) (tQ K Z b) σ H Q := by
  obtain ⟨e, R, p⟩ := p
  refine ⟨e, R, pst_bnd p fun v H1 x e1 m1 R1 r1 p1 => ⟨e1, R1, pst_bnd p1 fun w H2 y e2 m2 R2 r2 p2 => ?_⟩⟩
  obtain ⟨d, hd, q⟩ := pst_lft p2
  refine h v w x y d H2 Q (Rp.mono m2 r1) r2 hd fun u H' s ru => q u H' (.same s) (R2.same s) ?_
  rcases ru with ru | ⟨c, rfl, o, hc⟩
  · exact .inl ru
  · obtain ⟨hb, hs⟩ := R2.fresh hc
    exact .inr ⟨c, rfl, o, hb, hs⟩
/-- the left operand an open name's, the right one as it comes -/
def binL (op : D → D → Option D) (i : Nat) (b : M D) : M D := bnd (vq i) fun _ => bnd b fun y => bnd (vq i) fun x => lft (op x y)
def BinL (K : PySem.W.Frag) (r : R2) (op : D → D → Option D) : Prop := ∀ (v w : V) (x y d : D) (H : Hp) (Q : VK), Rq K H v x → Rp K H w y → op x y = some d → (∀ u H', Same H H' → (Rp K H' u d ∨ ∃ a, u = .ref a ∧ Opn K H' a d ∧ H a = none) → Q u H') → r v w H Q
theorem slot_of {K : PySem.W.Frag} {σ : SS} {H : Hp} {e : En} {i : Nat} {d : D} (R : Rel K Z σ H e) (h : e[i]? = some (.fz d) ∨ e[i]? = some (.op d)) : ∃ v, σ[i]? = some (some v) ∧ Rq K H v d := by
  rcases h with h | h
  · obtain ⟨v, hv, r⟩ := R.fz i d h; exact ⟨v, hv, .inl r⟩
  · obtain ⟨a, ha, o, _⟩ := R.op i d h; exact ⟨_, ha, .inr ⟨a, rfl, o⟩⟩
theorem vq_ok {K : PySem.W.Frag} {α β : Type} {r : RR β α} {σ : SS} {H : Hp} {Q : β → Hp → Prop} {i : Nat} {f : D → M α} {e : En} (R : Rel K Z σ H e) (p : pst K Z r σ H Q (bnd (vq i) f e)) :
    ∃ v d, σ[i]? = some (some v) ∧ Rq K H v d ∧ pst K Z r σ H Q (f d e) := by
  unfold bnd at p
  split at p
  · rename_i d e1 h
    unfold vq at h
    split at h
    · rename_i f hf; cases h
      obtain ⟨v, hv, q⟩ := slot_of R (.inl hf)
      exact ⟨v, _, hv, q, p⟩
    · rename_i f hf; cases h
      obtain ⟨v, hv, q⟩ := slot_of R (.inr hf)
      exact ⟨v, _, hv, q, p⟩
    · cases h
  · rename_i h; unfold vq at h; split at h <;> cases h
  · exact p.elim
theorem t_binL {K : PySem.W.Frag} {r : R2} {op : D → D → Option D} {i : Nat} {b : M D} (h : BinL K r op) (σ : SS) (H : Hp) (Q : VK) (p : tX K Z (binL op i b) σ H Q) : tOp r (tVar i) (tM K Z b) σ H Q := by
  obtain ⟨e, R, p⟩ := p
  obtain ⟨v, _, hv, _, p⟩ := vq_ok R p
  refine ⟨v, hv, e, R, pst_bnd p fun w H1 y e1 m1 R1 r1 p1 => ?_⟩
  obtain ⟨v', x, hv', rq, p2⟩ := vq_ok R1 p1
  rw [hv] at hv'; cases hv'
  obtain ⟨d, hd, q⟩ := pst_lft p2
  refine h v w x y d H1 Q rq r1 hd fun u H' s ru => q u H' (.same s) (R1.same s) ?_
  rcases ru with ru | ⟨c, rfl, o, hc⟩
  · exact .inl ru
  · obtain ⟨hb, hs⟩ := R1.fresh hc
    exact .inr ⟨c, rfl, o, hb, hs⟩
end
end ZZ

namespace ZZ
open PySem PySem.Spec L2

/-! ### operations on data -/
def ofInt : D → Option Int
  | .int i => some i
  | _ => none
theorem ofInt_eq {d : D} {i : Int} (h : ofInt d = some i) : d = .int i := by
  cases d <;> simp [ofInt] at h
  rw [h]
theorem rq_int {K : PySem.W.Frag} {H : Hp} {v : V} {i : Int} (h : Rq K H v (.int i)) : v = .int i := by
  rcases h with h | ⟨a, _, o⟩
  · cases h; rfl
  · exact o.elim
theorem rp_int {K : PySem.W.Frag} {H : Hp} {v : V} {i : Int} (h : Rp K H v (.int i)) : v = .int i := by cases h; rfl
theorem rp_str {K : PySem.W.Frag} {H : Hp} {v : V} {i : Str} (h : Rp K H v (.str i)) : v = .str i := by cases h; rfl
theorem rp_bl {K : PySem.W.Frag} {H : Hp} {v : V} {i : Bool} (h : Rp K H v (.bool i)) : v = .bl i := by cases h; rfl
theorem rq_str {K : PySem.W.Frag} {H : Hp} {v : V} {i : Str} (h : Rq K H v (.str i)) : v = .str i := by
  rcases h with h | ⟨a, _, o⟩
  · cases h; rfl
  · exact o.elim
theorem rq_bl {K : PySem.W.Frag} {H : Hp} {v : V} {i : Bool} (h : Rq K H v (.bool i)) : v = .bl i := by
  rcases h with h | ⟨a, _, o⟩
  · cases h; rfl
  · exact o.elim
theorem rq_lst {K : PySem.W.Frag} {H : Hp} {v : V} {ds : List D} (h : Rq K H v (.list ds)) : ∃ a xs, v = .ref a ∧ SqL K H a xs ∧ RpA K H xs ds := by
  rcases h with h | ⟨a, rfl, xs, h, r⟩
  · cases h with
    | lst h r => exact ⟨_, _, rfl, h.sq, r⟩
  · exact ⟨a, xs, rfl, SqL.of h, r⟩
theorem rp_lst {K : PySem.W.Frag} {H : Hp} {v : V} {ds : List D} (h : Rp K H v (.list ds)) : ∃ a xs, v = .ref a ∧ SqL K H a xs ∧ RpA K H xs ds := rq_lst (.inl h)
theorem rp_tup {K : PySem.W.Frag} {H : Hp} {v : V} {ds : List D} (h : Rp K H v (.tuple ds)) : ∃ a xs, v = .ref a ∧ SqT K H a xs ∧ RpA K H xs ds := by
  cases h with
  | tup h r => exact ⟨_, _, rfl, h, r⟩
theorem rq_tup {K : PySem.W.Frag} {H : Hp} {v : V} {ds : List D} (h : Rq K H v (.tuple ds)) : ∃ a xs, v = .ref a ∧ SqT K H a xs ∧ RpA K H xs ds := by
  rcases h with h | ⟨a, _, o⟩
  · exact rp_tup h
  · exact o.elim
theorem Rp.same {K : PySem.W.Frag} {H H' : Hp} {v : V} {d : D} (s : Same H H') (h : Rp K H v d) : Rp K H' v d := h.mono (.same s)
theorem same_upd {H : Hp} {p : Addr} {o : HO} (h : H p = none) : Same H (upd H p o) := fun b x e => by
  rw [upd_ne (ne_of_none e h)]
  exact e
theorem nil_iff {K : PySem.W.Frag} {H : Hp} {xs : List V} {ds : List D} (r : RpA K H xs ds) : xs = [] ↔ ds = [] := by
  cases r <;> simp

section
variable {X : Cx}
/-- a rule for x op y, x an expression, y for the moment -/
theorem e_bin {e : Expr} {a b : Expr} {o : Operator} {pos : Pos} {r : R2} {op : D → D → Option D} {Z : ZC} {ma mb : M D} (ho : OpR X (binaryOp o) r) (h : BinR X.K r op) (ha : PE X a (tM X.K Z ma)) (hb : PE X b (tM X.K Z mb)) :
    PE X (.BinOp a o b pos) (tM X.K Z (bin op ma mb)) := PE_weak (pe_op ho ha (e_q hb)) (t_bin h)
theorem e_binX {a b : Expr} {o : Operator} {pos : Pos} {r : R2} {op : D → D → Option D} {Z : ZC} {ma mb : M D} (ho : OpR X (binaryOp o) r) (h : BinX X.K r op) (ha : PE X a (tM X.K Z ma)) (hb : PE X b (tQ X.K Z mb)) :
    PE X (.BinOp a o b pos) (tX X.K Z (bin op ma mb)) := PE_weak (pe_op ho ha hb) (t_binX h)

/-! + -/
theorem op_catS : OpR X (binaryOp .Add) (fun x y H Q => ∃ l b xs zs, x = V.ref l ∧ y = V.ref b ∧ SqL X.K H l xs ∧ SqL X.K H b zs ∧ xs.length + zs.length ≤ sizeLine ∧ ∀ p, H p = none → Q (.ref p) (upd H p (.lst (xs ++ zs)))) := by
  intro pins s σ H x y v u Q I rx ry h
  obtain ⟨l, b, xs, zs, rfl, rfl, hl, hb, hz, q⟩ := h
  cases rx
  cases ry
  obtain ⟨its, r, ⟨⟨cls, dd, data, sl⟩, n, ho, hc, _, hd⟩, _⟩ := I.list hl
  obtain ⟨its2, r2, ⟨⟨cls2, dd2, data2, sl2⟩, n2, ho2, hc2, _, hd2⟩, _⟩ := I.list hb
  simp only at hc hd hc2 hd2
  subst hc hd hc2 hd2
  have e1 := r.length
  have e2 := r2.length
  have e : its.toArray ++ its2.toArray = (its ++ its2).toArray := by simp
  refine PySem.concat_meets ⟨_, ho, rfl⟩ ⟨_, ho2, rfl⟩ noFill_list_add seq_list_add PySem.F.slot_list_add PySem.F.entry_list_add (PySem.F.args_list_add_2 _ _) (PyProof.Rows.list_addW l b its.toArray its2.toArray n n2 dd dd2 sl sl2 (by rw [List.size_toArray, List.size_toArray]; omega)) ⟨ho, ho2, ?_⟩
  rw [e]
  exact ⟨.ref _, _, I.lnew (t' := s.toks) (r.append r2) (by rw [List.length_append]; omega), rfl, q _ I.fresh⟩
def addD : D → D → Option D
  | .int i, .int j => some (.int (i + j))
  | .str i, .str j => if i.length + j.length ≤ sizeLine then some (.str (i ++ j)) else none
  | .tuple xs, .tuple ys => if xs.length + ys.length ≤ sizeLine then some (.tuple (xs ++ ys)) else none
  | .list xs, .list ys => if xs.length + ys.length ≤ sizeLine then some (.list (xs ++ ys)) else none
  | _, _ => none
abbrev rAdd (K : PySem.W.Frag) : R2 := fun x y H Q =>
  (∃ i j, x = .int i ∧ y = .int j ∧ Q (.int (i + j)) H) ∨ (∃ i j, x = .str i ∧ y = .str j ∧ i.length + j.length ≤ sizeLine ∧ Q (.str (i ++ j)) H) ∨ rCatA K x y H Q ∨
  (∃ l b xs zs, x = V.ref l ∧ y = V.ref b ∧ SqL K H l xs ∧ SqL K H b zs ∧ xs.length + zs.length ≤ sizeLine ∧ ∀ p, H p = none → Q (.ref p) (upd H p (.lst (xs ++ zs))))
theorem o_add : OpR X (binaryOp .Add) (rAdd X.K) := op_add.or (op_add_str.or (op_catA.or op_catS))
theorem add_ok {K : PySem.W.Frag} {v w : V} {x y d : D} {H : Hp} {Q : VK} (hx : Rq K H v x) (hy : Rq K H w y) (h : addD x y = some d) (q : ∀ u H', Same H H' → (Rp K H' u d ∨ ∃ a, u = .ref a ∧ Opn K H' a d ∧ H a = none) → Q u H') : rAdd K v w H Q := by
  cases x <;> cases y <;> simp only [addD] at h <;> try cases h
  · cases rq_int hx; cases rq_int hy
    exact .inl ⟨_, _, rfl, rfl, q _ H (Same.refl H) (.inl (.int _))⟩
  · cases rq_str hx; cases rq_str hy
    split at h
    · cases h
      exact .inr (.inl ⟨_, _, rfl, rfl, by assumption, q _ H (Same.refl H) (.inl (.str _))⟩)
    · cases h
  · rename_i ds es
    obtain ⟨a, xs, rfl, ha, ra⟩ := rq_lst hx
    obtain ⟨b, ys, rfl, hb, rb⟩ := rq_lst hy
    have ea := ra.length
    have eb := rb.length
    split at h
    · cases h
      refine .inr (.inr (.inr ⟨a, b, xs, ys, rfl, rfl, ha, hb, by omega, fun p hp => q _ _ (same_upd hp) (.inr ⟨p, rfl, ⟨_, upd_same, ?_⟩, hp⟩)⟩))
      exact (ra.append rb).mono (.same (same_upd hp))
    · cases h
  · rename_i ds es
    obtain ⟨a, xs, rfl, ha, ra⟩ := rq_tup hx
    obtain ⟨b, ys, rfl, hb, rb⟩ := rq_tup hy
    have ea := ra.length
    have eb := rb.length
    split at h
    · cases h
      refine .inr (.inr (.inl ⟨a, b, xs, ys, rfl, rfl, ha, hb, by omega, fun e => ?_, fun _ e => ?_, fun _ _ p hp => ?_⟩))
      · have : ds = [] := (nil_iff ra).mp e
        subst this
        exact q _ H (Same.refl H) (.inl (.tup hb rb))
      · have : es = [] := (nil_iff rb).mp e
        subst this
        rw [List.append_nil] at q
        exact q _ H (Same.refl H) (.inl (.tup ha ra))
      · exact q _ _ (same_upd hp) (.inl (.tup (SqT.of upd_same) ((ra.append rb).mono (.same (same_upd hp)))))
    · cases h
theorem b_add {K : PySem.W.Frag} : BinX K (rAdd K) addD := fun v w x y d H Q hx hy h q => add_ok (.inl hx) hy h q
theorem bl_add {K : PySem.W.Frag} : BinL K (rAdd K) addD := fun v w x y d H Q hx hy h q => add_ok hx (.inl hy) h q
theorem e_add {a b : Expr} {pos : Pos} {Z : ZC} {ma mb : M D} (ha : PE X a (tM X.K Z ma)) (hb : PE X b (tQ X.K Z mb)) : PE X (.BinOp a .Add b pos) (tX X.K Z (bin addD ma mb)) := e_binX o_add b_add ha hb
theorem e_addL {a b : Expr} {pos : Pos} {Z : ZC} {i : Nat} {mb : M D} (ha : PE X a (tVar i)) (hb : PE X b (tM X.K Z mb)) : PE X (.BinOp a .Add b pos) (tX X.K Z (binL addD i mb)) := PE_weak (pe_op o_add ha hb) (t_binL bl_add)

/-! ints -/
def subD : D → D → Option D
  | .int i, .int j => some (.int (i - j))
  | _, _ => none
theorem b_sub {K : PySem.W.Frag} : BinR K (rI0 fun i j => .int (i - j)) subD := fun v w x y d H Q hx hy h q => by
  cases x <;> cases y <;> simp only [subD] at h <;> cases h
  cases rp_int hx; cases rq_int hy
  exact ⟨_, _, rfl, rfl, q _ H (Same.refl H) (.int _)⟩
theorem e_sub {a b : Expr} {pos : Pos} {Z : ZC} {ma mb : M D} (ha : PE X a (tM X.K Z ma)) (hb : PE X b (tM X.K Z mb)) : PE X (.BinOp a .Sub b pos) (tM X.K Z (bin subD ma mb)) := PE_weak (pe_op op_sub ha (e_q hb)) (t_bin b_sub)
def mulOk (i j : Int) : Bool := decide (i.natAbs < 18446744073709551616) || decide (j.natAbs < 18446744073709551616) || decide (i.natAbs.log2 + j.natAbs.log2 < 1000000)
def mulD : D → D → Option D
  | .int i, .int j => if mulOk i j = true then some (.int (i * j)) else none
  | .tuple xs, .int k => if xs ≠ [] ∧ 2 ≤ k ∧ k ≤ 1000 ∧ xs.length ≤ 1000 then some (.tuple (List.replicate k.toNat xs).flatten) else if k = 1 ∧ False then none else none
  | _, _ => none
abbrev rMul (K : PySem.W.Frag) : R2 := fun x y H Q => rI CMul (fun i j => .int (i * j)) x y H Q ∨ rI CMulW (fun i j => .int (i * j)) x y H Q ∨ rRepT K x y H Q
theorem o_mul : OpR X (binaryOp .Mult) (rMul X.K) := op_mul.or (op_mulW.or op_repT)
theorem mulOk_of {i j : Int} (h : mulOk i j = true) : CMul i j ∨ CMulW i j := by
  unfold mulOk at h
  simp only [Bool.or_eq_true, decide_eq_true_eq] at h
  rcases h with (h | h) | h
  · exact .inl (.inl (by omega))
  · exact .inl (.inr (by omega))
  · exact .inr h
theorem RpA.rep {K : PySem.W.Frag} {H : Hp} {xs : List V} {ds : List D} (r : RpA K H xs ds) : ∀ n : Nat, RpA K H (List.replicate n xs).flatten (List.replicate n ds).flatten
  | 0 => .nil
  | n + 1 => by
    rw [List.replicate_succ, List.replicate_succ, List.flatten_cons, List.flatten_cons]
    exact r.append (r.rep n)
theorem b_mul {K : PySem.W.Frag} : BinR K (rMul K) mulD := fun v w x y d H Q hx hy h q => by
  cases x <;> cases y <;> simp only [mulD] at h <;> try cases h
  · cases rp_int hx; cases rq_int hy
    split at h
    · cases h
      rename_i hm
      rcases mulOk_of hm with hm | hm
      · exact .inl ⟨_, _, rfl, rfl, hm, q _ H (Same.refl H) (.int _)⟩
      · exact .inr (.inl ⟨_, _, rfl, rfl, hm, q _ H (Same.refl H) (.int _)⟩)
    · cases h
  · cases rq_int hy
    obtain ⟨a, xs, rfl, ha, ra⟩ := rp_tup hx
    split at h
    · rename_i hk
      cases h
      obtain ⟨h1, h2, h3, h4⟩ := hk
      have := ra.length
      exact .inr (.inr ⟨a, _, xs, rfl, rfl, ha, fun e => h1 ((nil_iff ra).mp e), h2, h3, by omega, fun p hp => q _ _ (same_upd hp) (.tup (SqT.of upd_same) ((ra.rep _).mono (.same (same_upd hp))))⟩)
    · simp at h
theorem e_mul {a b : Expr} {pos : Pos} {Z : ZC} {ma mb : M D} (ha : PE X a (tM X.K Z ma)) (hb : PE X b (tM X.K Z mb)) : PE X (.BinOp a .Mult b pos) (tM X.K Z (bin mulD ma mb)) := PE_weak (pe_op o_mul ha (e_q hb)) (t_bin b_mul)
def modD : D → D → Option D
  | .int i, .int j => if 0 < j then some (.int (i % j)) else none
  | _, _ => none
theorem b_mod {K : PySem.W.Frag} : BinR K (rI (fun _ j => 0 < j) fun i j => .int (i % j)) modD := fun v w x y d H Q hx hy h q => by
  cases x <;> cases y <;> simp only [modD] at h <;> try cases h
  cases rp_int hx; cases rq_int hy
  split at h
  · cases h
    exact ⟨_, _, rfl, rfl, by assumption, q _ H (Same.refl H) (.int _)⟩
  · cases h
theorem e_mod {a b : Expr} {pos : Pos} {Z : ZC} {ma mb : M D} (ha : PE X a (tM X.K Z ma)) (hb : PE X b (tM X.K Z mb)) : PE X (.BinOp a .Mod b pos) (tM X.K Z (bin modD ma mb)) := PE_weak (pe_op op_mod ha (e_q hb)) (t_bin b_mod)
def divD : D → D → Option D
  | .int i, .int j => if 0 < j ∧ j < 1073741824 then some (.int (i / j)) else if 0 < j ∧ j.natAbs.log2 < 9000 then some (.int (i / j)) else none
  | _, _ => none
abbrev rDiv : R2 := fun x y H Q => rI CDiv (fun i j => .int (i / j)) x y H Q ∨ rI CDivW (fun i j => .int (i / j)) x y H Q
theorem o_div : OpR X (binaryOp .FloorDiv) rDiv := op_fdiv.or op_fdivW
theorem b_div {K : PySem.W.Frag} : BinR K rDiv divD := fun v w x y d H Q hx hy h q => by
  cases x <;> cases y <;> simp only [divD] at h <;> try cases h
  cases rp_int hx; cases rq_int hy
  split at h
  · cases h
    exact .inl ⟨_, _, rfl, rfl, by assumption, q _ H (Same.refl H) (.int _)⟩
  · split at h
    · cases h
      exact .inr ⟨_, _, rfl, rfl, by assumption, q _ H (Same.refl H) (.int _)⟩
    · cases h
theorem e_div {a b : Expr} {pos : Pos} {Z : ZC} {ma mb : M D} (ha : PE X a (tM X.K Z ma)) (hb : PE X b (tM X.K Z mb)) : PE X (.BinOp a .FloorDiv b pos) (tM X.K Z (bin divD ma mb)) := PE_weak (pe_op o_div ha (e_q hb)) (t_bin b_div)
def powOk (i j : Int) : Bool := decide (0 ≤ j) && (decide (j ≤ 1000000 ∧ i.natAbs < 2 ^ 64) || decide ((Builtin.Int.intBits i : Int) * j ≤ 2 ^ 27))
def powD : D → D → Option D
  | .int i, .int j => if powOk i j = true then some (.int (i ^ j.toNat)) else none
  | _, _ => none
abbrev rPow : R2 := fun x y H Q => rI CPow (fun i j => .int (i ^ j.toNat)) x y H Q ∨ rI (fun i j => 0 ≤ j ∧ (Builtin.Int.intBits i : Int) * j ≤ 2 ^ 27) (fun i j => .int (i ^ j.toNat)) x y H Q
theorem o_pow : OpR X (binaryOp .Pow) rPow := op_pow.or (opI fun _ _ _ _ _ _ _ hc q => PyProof.Rows.pow_int hc.1 hc.2 q)
theorem b_pow {K : PySem.W.Frag} : BinR K rPow powD := fun v w x y d H Q hx hy h q => by
  cases x <;> cases y <;> simp only [powD] at h <;> try cases h
  cases rp_int hx; cases rq_int hy
  split at h
  · cases h
    rename_i hp
    unfold powOk at hp
    simp only [Bool.and_eq_true, Bool.or_eq_true, decide_eq_true_eq] at hp
    obtain ⟨h0, hp | hp⟩ := hp
    · exact .inl ⟨_, _, rfl, rfl, ⟨h0, hp.1, hp.2⟩, q _ H (Same.refl H) (.int _)⟩
    · exact .inr ⟨_, _, rfl, rfl, ⟨h0, hp⟩, q _ H (Same.refl H) (.int _)⟩
  · cases h
theorem e_pow {a b : Expr} {pos : Pos} {Z : ZC} {ma mb : M D} (ha : PE X a (tM X.K Z ma)) (hb : PE X b (tM X.K Z mb)) : PE X (.BinOp a .Pow b pos) (tM X.K Z (bin powD ma mb)) := PE_weak (pe_op o_pow ha (e_q hb)) (t_bin b_pow)
end
end ZZ

namespace ZZ
open PySem PySem.Spec L2

/-- both for the moment -/
def BinQ (K : PySem.W.Frag) (r : R2) (op : D → D → Option D) : Prop := ∀ (v w : V) (x y d : D) (H : Hp) (Q : VK), Rq K H v x → Rq K H w y → op x y = some d → (∀ u, Rp K H u d → Q u H) → r v w H Q
theorem BinQ.r {K : PySem.W.Frag} {r : R2} {op : D → D → Option D} (h : BinQ K r op) : BinR K r op := fun v w x y d H Q hx hy e q => h v w x y d H Q (.inl hx) hy e fun u ru => q u H (Same.refl H) ru
theorem t_binQL {K : PySem.W.Frag} {Z : ZC} {r : R2} {op : D → D → Option D} {i : Nat} {b : M D} (h : BinQ K r op) (σ : SS) (H : Hp) (Q : VK) (p : tM K Z (binL op i b) σ H Q) : tOp r (tVar i) (tM K Z b) σ H Q := by
  obtain ⟨e, R, p⟩ := p
  obtain ⟨v, _, hv, _, p⟩ := vq_ok R p
  refine ⟨v, hv, e, R, pst_bnd p fun w H1 y e1 m1 R1 r1 p1 => ?_⟩
  obtain ⟨v', x, hv', rq, p2⟩ := vq_ok R1 p1
  rw [hv] at hv'; cases hv'
  obtain ⟨d, hd, q⟩ := pst_lft p2
  exact h v w x y d H1 Q rq (.inl r1) hd fun u ru => q u H1 .refl R1 ru
/-! ### comparisons -/
def strs2 : D → D → Option Bool
  | .str a, .str b => some (decide (a = b))
  | _, _ => none
def eqD : D → D → Option D := fun x y => match strs2 x y with
  | some b => some (.bool b)
  | none => if SeqAt.shaped x = true ∧ SeqAt.shaped y = true then some (.bool (PyData.eqv x y)) else none
def neD : D → D → Option D := fun x y => match strs2 x y with
  | some b => some (.bool !b)
  | none => if SeqAt.shaped x = true ∧ SeqAt.shaped y = true then some (.bool (!PyData.eqv x y)) else none
theorem strs2_some {x y : D} {b : Bool} (h : strs2 x y = some b) : ∃ i j, x = .str i ∧ y = .str j ∧ b = decide (i = j) := by
  cases x with
  | str i =>
    cases y with
    | str j => cases h; exact ⟨i, j, rfl, rfl, rfl⟩
    | _ => cases h
  | _ => cases h
theorem Rq.dp {K : PySem.W.Frag} {H : Hp} {v : V} {d : D} (h : Rq K H v d) (s : PyData.canLay0 d = true) : Dp K H v d := by
  rcases h with h | ⟨a, rfl, o⟩
  · exact h.dp s
  · cases d with
    | list ds =>
      obtain ⟨xs, h, r⟩ := o
      exact .lst (SqL.of h) (r.dp (by simpa only [PyData.canLay0] using s))
    | dict ds => simp only [PyData.canLay0] at s; cases s
    | _ => exact o.elim
abbrev rEqA (K : PySem.W.Frag) : R2 := fun x y H Q => rEq x y H Q ∨ rEqD K x y H Q
abbrev rNeA (K : PySem.W.Frag) : R2 := fun x y H Q => rNe x y H Q ∨ rNeD K x y H Q
theorem o_eq {X : Cx} (hu : X.A.units + 64 < cLine) : OpR X (compareOp .Eq) (rEqA X.K) := op_eq.or (op_eqD hu)
theorem o_ne {X : Cx} (hu : X.A.units + 64 < cLine) : OpR X (compareOp .NotEq) (rNeA X.K) := op_ne.or (op_neD hu)
theorem dec_strs {i j : Str} : decide (V.str i = V.str j) = decide (i = j) := by
  by_cases h : i = j
  · rw [decide_eq_true h, decide_eq_true (congrArg V.str h)]
  · rw [decide_eq_false h, decide_eq_false fun e => h (V.str.inj e)]
theorem b_eq {K : PySem.W.Frag}   : BinQ K (rEqA K) eqD := fun v w x y d H Q hx hy h q => by
  simp only [eqD] at h
  split at h
  · rename_i b hb
    cases h
    obtain ⟨i, j, rfl, rfl, rfl⟩ := strs2_some hb
    rw [rq_str hx, rq_str hy]
    exact .inl ⟨rfl, by rw [dec_strs]; exact q _ (.bl _)⟩
  · split at h
    · rename_i s
      cases h
      exact .inr ⟨x, y, hx.dp (SeqAt.canLay_of_shaped s.1), hy.dp (SeqAt.canLay_of_shaped s.2), s.1, s.2, q _ (.bl _)⟩
    · cases h
theorem b_ne {K : PySem.W.Frag}   : BinQ K (rNeA K) neD := fun v w x y d H Q hx hy h q => by
  simp only [neD] at h
  split at h
  · rename_i b hb
    cases h
    obtain ⟨i, j, rfl, rfl, rfl⟩ := strs2_some hb
    rw [rq_str hx, rq_str hy]
    exact .inl ⟨rfl, by rw [dec_strs]; exact q _ (.bl _)⟩
  · split at h
    · rename_i s
      cases h
      exact .inr ⟨x, y, hx.dp (SeqAt.canLay_of_shaped s.1), hy.dp (SeqAt.canLay_of_shaped s.2), s.1, s.2, q _ (.bl _)⟩
    · cases h
def strLt (i j : Str) : Bool := decide (i.cps.toList < j.cps.toList)
def ltD : D → D → Option D
  | .int i, .int j => some (.bool (decide (i < j)))
  | .str i, .str j => some (.bool (strLt i j))
  | _, _ => none
def leD : D → D → Option D
  | .int i, .int j => some (.bool (decide (i ≤ j)))
  | _, _ => none
def gtD : D → D → Option D
  | .int i, .int j => some (.bool (decide (j < i)))
  | _, _ => none
def geD : D → D → Option D
  | .int i, .int j => some (.bool (decide (j ≤ i)))
  | _, _ => none
abbrev rLt : R2 := fun x y H Q => rI0 (fun i j => .bl (decide (i < j))) x y H Q ∨ (∃ i j, x = .str i ∧ y = .str j ∧ Q (.bl (decide (i.cps.toList < j.cps.toList))) H)
theorem b_lt {K : PySem.W.Frag}   : BinQ K rLt ltD := fun v w x y d H Q hx hy h q => by
  cases x <;> cases y <;> simp only [ltD] at h <;> cases h
  · cases rq_int hx; cases rq_int hy
    exact .inl ⟨_, _, rfl, rfl, q _ (.bl _)⟩
  · cases rq_str hx; cases rq_str hy
    exact .inr ⟨_, _, rfl, rfl, q _ (.bl _)⟩
theorem b_le {K : PySem.W.Frag}   : BinQ K (rI0 fun i j => .bl (decide (i ≤ j))) leD := fun v w x y d H Q hx hy h q => by
  cases x <;> cases y <;> simp only [leD] at h <;> cases h
  cases rq_int hx; cases rq_int hy
  exact ⟨_, _, rfl, rfl, q _ (.bl _)⟩
theorem b_gt {K : PySem.W.Frag}   : BinQ K (rI0 fun i j => .bl (decide (j < i))) gtD := fun v w x y d H Q hx hy h q => by
  cases x <;> cases y <;> simp only [gtD] at h <;> cases h
  cases rq_int hx; cases rq_int hy
  exact ⟨_, _, rfl, rfl, q _ (.bl _)⟩
theorem b_ge {K : PySem.W.Frag}   : BinQ K (rI0 fun i j => .bl (decide (j ≤ i))) geD := fun v w x y d H Q hx hy h q => by
  cases x <;> cases y <;> simp only [geD] at h <;> cases h
  cases rq_int hx; cases rq_int hy
  exact ⟨_, _, rfl, rfl, q _ (.bl _)⟩
/-! in -/
def strIn (i j : Str) : Bool := !(Builtin.Str.occurrences j i 0 j.length 1).isEmpty
def inD : D → D → Option D
  | x, .list ds => if SeqAt.shaped x = true ∧ PyData.canLayAll0 ds = true then some (.bool (ds.any fun z => PyData.eqv z x)) else none
  | x, .tuple ds => if SeqAt.shaped x = true ∧ PyData.canLayAll0 ds = true then some (.bool (ds.any fun z => PyData.eqv z x)) else none
  | .str i, .str j => some (.bool (strIn i j))
  | .int i, .dict kvs => some (.bool (kvs.any fun z => PyData.eqv z.1 (.int i)))
  | .str i, .dict kvs => some (.bool (kvs.any fun z => PyData.eqv z.1 (.str i)))
  | _, _ => none
def notD : D → Option D
  | .bool b => some (.bool !b)
  | _ => none
def ninD (x y : D) : Option D := (inD x y).bind notD
abbrev rInA (K : PySem.W.Frag) (neg : Bool) : R2 := fun x y H Q =>
  (∃ d ds, Dp K H x d ∧ (Dp K H y (.list ds) ∨ Dp K H y (.tuple ds)) ∧ SeqAt.shaped d = true ∧ PyData.canLayAll0 ds = true ∧ Q (.bl (if neg then !(ds.any fun z => PyData.eqv z d) else ds.any fun z => PyData.eqv z d)) H) ∨
  (∃ i j, x = .str i ∧ y = .str j ∧ Q (.bl (if neg then !strIn i j else strIn i j)) H) ∨
  (∃ a k kvs, x = kV k ∧ y = .ref a ∧ Rd H a (.dK kvs) ∧ Q (.bl (if neg then !(valV kvs k).isSome else (valV kvs k).isSome)) H)
theorem room_in {A : Around} {ds : List D} {d : D} (sd : SeqAt.shaped d = true) (hu : A.units + 66 < cLine) : A.units + 1 + min (PyData.depthAll ds) d.depth < cLine := by
  have : d.depth ≤ 64 := by
    have h := sd
    unfold SeqAt.shaped at h
    simp only [Bool.and_eq_true, decide_eq_true_eq] at h
    exact h.2
  have : min (PyData.depthAll ds) d.depth ≤ 64 := Nat.le_trans (Nat.min_le_right _ _) this
  omega
section
variable {X : Cx}
theorem o_inA (hu : X.A.units + 66 < cLine) : OpR X (compareOp .In) (rInA X.K false) := by
  intro pins s σ H x y v u Q I rx ry h
  rcases h with ⟨d, ds, hd, he, sd, se, q⟩ | ⟨i, j, rfl, rfl, q⟩ | ⟨a, k, kvs, rfl, rfl, hk, q⟩
  · obtain ⟨as, r1⟩ := Dp.reads I d x v hd rx
    rcases he with he | he
    · obtain ⟨bs, r2⟩ := Dp.reads I _ y u he ry
      exact SeqAt.in_list_reads r2 r1 se (SeqAt.canLay_of_shaped sd) (room_in sd hu) ⟨.bl _, H, I, rfl, q⟩
    · obtain ⟨bs, r2⟩ := Dp.reads I _ y u he ry
      exact SeqAt.in_tuple_reads r2 r1 se (SeqAt.canLay_of_shaped sd) (room_in sd hu) ⟨.bl _, H, I, rfl, q⟩
  · exact op_in_str pins s σ H _ _ v u Q I rx ry ⟨i, j, rfl, rfl, q⟩
  · cases ry
    exact d_in (y := kV k) (by omega) I (.inl ⟨kvs, k, hk, rfl, rfl⟩) rx fun s' I' => ⟨.bl _, H, I', rfl, q⟩
theorem o_ninA (hu : X.A.units + 66 < cLine) : OpR X (compareOp .NotIn) (rInA X.K true) := by
  intro pins s σ H x y v u Q I rx ry h
  rcases h with ⟨d, ds, hd, he, sd, se, q⟩ | ⟨i, j, rfl, rfl, q⟩ | ⟨a, k, kvs, rfl, rfl, hk, q⟩
  · obtain ⟨as, r1⟩ := Dp.reads I d x v hd rx
    rcases he with he | he
    · obtain ⟨bs, r2⟩ := Dp.reads I _ y u he ry
      exact SeqAt.notIn_list_reads r2 r1 se (SeqAt.canLay_of_shaped sd) (room_in sd hu) ⟨.bl _, H, I, rfl, q⟩
    · obtain ⟨bs, r2⟩ := Dp.reads I _ y u he ry
      exact SeqAt.notIn_tuple_reads r2 r1 se (SeqAt.canLay_of_shaped sd) (room_in sd hu) ⟨.bl _, H, I, rfl, q⟩
  · exact op_notin_str pins s σ H _ _ v u Q I rx ry ⟨i, j, rfl, rfl, q⟩
  · cases ry
    exact d_notIn (y := kV k) (by omega) I (.inl ⟨kvs, k, hk, rfl, rfl⟩) rx fun s' I' => ⟨.bl _, H, I', rfl, q⟩
end
theorem eqv_key (k j : Key) : PyData.eqv (kD k) (kD j) = decide (k = j) := by
  cases k <;> cases j <;> simp [kD, PyData.eqv, Bool.beq_eq_decide_eq]
theorem any_kv {K : PySem.W.Frag} {H : Hp} {j : Key} : ∀ {kvs : List (Key × V)} {ds : List (D × D)}, RpK K H kvs ds → (ds.any fun z => PyData.eqv z.1 (kD j)) = (valV kvs j).isSome
  | _, _, .nil => rfl
  | _, _, .cons (k := k) r t => by
    have ih := any_kv (j := j) t
    rw [List.any_cons, ih, eqv_key]
    by_cases h : k = j
    · rw [valV_pos (by exact h)]; simp [h]
    · rw [valV_neg (by exact h)]; simp [h]
theorem rq_dic {K : PySem.W.Frag} {H : Hp} {v : V} {ds : List (D × D)} (h : Rq K H v (.dict ds)) : ∃ a kvs, v = .ref a ∧ Rd H a (.dK kvs) ∧ RpK K H kvs ds := by
  rcases h with h | ⟨a, rfl, kvs, h, r⟩
  · cases h with
    | dic h r => exact ⟨_, _, rfl, .inr ⟨_, h⟩, r⟩
  · exact ⟨a, kvs, rfl, .inl h, r⟩
theorem in_ok {K : PySem.W.Frag} {v w : V} {x y d : D} {H : Hp} {Q : VK} (neg : Bool) (hx : Rq K H v x) (hy : Rq K H w y) (h : inD x y = some d) (q : ∀ b, d = .bool b → Q (.bl (if neg then !b else b)) H) : rInA K neg v w H Q := by
  unfold inD at h
  split at h
  · split at h
    · rename_i s
      cases h
      exact .inl ⟨_, _, hx.dp (SeqAt.canLay_of_shaped s.1), .inl (hy.dp (by simpa only [PyData.canLay0] using s.2)), s.1, s.2, q _ rfl⟩
    · cases h
  · split at h
    · rename_i s
      cases h
      exact .inl ⟨_, _, hx.dp (SeqAt.canLay_of_shaped s.1), .inr (hy.dp (by simpa only [PyData.canLay0] using s.2)), s.1, s.2, q _ rfl⟩
    · cases h
  · cases h
    cases rq_str hx; cases rq_str hy
    exact .inr (.inl ⟨_, _, rfl, rfl, q _ rfl⟩)
  · cases h
    rename_i i kvs
    cases rq_int hx
    obtain ⟨a, ks, rfl, hk, r⟩ := rq_dic hy
    refine .inr (.inr ⟨a, .inl i, ks, rfl, rfl, hk, ?_⟩)
    have e := any_kv (j := .inl i) r
    rw [← e]
    exact q _ rfl
  · cases h
    rename_i i kvs
    cases rq_str hx
    obtain ⟨a, ks, rfl, hk, r⟩ := rq_dic hy
    refine .inr (.inr ⟨a, .inr i, ks, rfl, rfl, hk, ?_⟩)
    have e := any_kv (j := .inr i) r
    rw [← e]
    exact q _ rfl
  · cases h
theorem b_in {K : PySem.W.Frag}   : BinQ K (rInA K false) inD := fun v w x y d H Q hx hy h q => in_ok false hx hy h fun b e => by subst e; exact q _ (.bl _)
theorem b_nin {K : PySem.W.Frag}   : BinQ K (rInA K true) ninD := fun v w x y d H Q hx hy h q => by
  unfold ninD at h
  cases e : inD x y with
  | none => rw [e] at h; cases h
  | some z =>
    rw [e] at h
    refine in_ok true hx hy e fun b eb => ?_
    subst eb
    have h : notD (.bool b) = some d := h
    cases h
    exact q _ (.bl _)
/-! is -/
def isNoneD : D → Bool
  | .none => true
  | _ => false
theorem isNone_ok {K : PySem.W.Frag} {H : Hp} {v : V} {d : D} (h : Rp K H v d) : decide (v = .non) = isNoneD d := by
  cases h <;> simp [isNoneD]
section
variable {X : Cx} {Z : ZC} {a b : Expr} {pos : Pos} {ma mb : M D}
theorem e_cmp {o : CmpOp} {r : R2} {op : D → D → Option D} (ho : OpR X (compareOp o) r) (h : BinQ X.K r op) (ha : PE X a (tM X.K Z ma)) (hb : PE X b (tQ X.K Z mb)) (hm : behindInMarks o b = false) : PE X (.Compare a [o] [b] pos) (tM X.K Z (bin op ma mb)) :=
  PE_weak (pe_cmpR ho ha hb hm) (t_bin h.r)
theorem e_cmpL {o : CmpOp} {r : R2} {op : D → D → Option D} {i : Nat} (ho : OpR X (compareOp o) r) (h : BinQ X.K r op) (ha : PE X a (tVar i)) (hb : PE X b (tM X.K Z mb)) (hm : behindInMarks o b = false) : PE X (.Compare a [o] [b] pos) (tM X.K Z (binL op i mb)) :=
  PE_weak (pe_cmpR ho ha hb hm) (t_binQL h)
def boolOf (m : M D) : M Bool := bnd m fun d => lft (match d with | .bool b => some b | _ => none)
theorem t_test {K : PySem.W.Frag} {t : TE} {m : M D} (h : ∀ σ H Q, tM K Z m σ H Q → t σ H Q) (σ : SS) (H : Hp) (Q : Bool → Hp → Prop) (p : tT K Z (boolOf m) σ H Q) : tTest t σ H Q := by
  refine h σ H _ ?_
  obtain ⟨e, R, p⟩ := p
  refine ⟨e, R, pst_bnd p fun v H1 d e1 m1 R1 r1 p1 => ?_⟩
  obtain ⟨b, hb, q⟩ := pst_lft p1
  cases d with
  | bool c =>
    cases hb
    cases rp_bl r1
    exact ⟨_, rfl, q _ H1 .refl R1 rfl⟩
  | _ => cases hb
theorem c_cmp {o : CmpOp} {r : R2} {op : D → D → Option D} (ho : OpR X (compareOp o) r) (h : BinQ X.K r op) (ha : PE X a (tM X.K Z ma)) (hb : PE X b (tQ X.K Z mb)) (hm : behindInMarks o b = false) : PT X (.Compare a [o] [b] pos) (tT X.K Z (boolOf (bin op ma mb))) :=
  PT_weak (pt_cmpR ho ha hb hm) (t_test (t_bin h.r))
theorem c_cmpL {o : CmpOp} {r : R2} {op : D → D → Option D} {i : Nat} (ho : OpR X (compareOp o) r) (h : BinQ X.K r op) (ha : PE X a (tVar i)) (hb : PE X b (tM X.K Z mb)) (hm : behindInMarks o b = false) : PT X (.Compare a [o] [b] pos) (tT X.K Z (boolOf (binL op i mb))) :=
  PT_weak (pt_cmpR ho ha hb hm) (t_test (t_binQL h))
theorem o_lt : OpR X (compareOp .Lt) rLt := op_lt.or op_lt_str
/-- x is None -/
def isN (m : M D) : M D := bnd m fun d => ret (.bool (isNoneD d))
def isNN (m : M D) : M D := bnd m fun d => ret (.bool (!isNoneD d))
theorem t_isN {K : PySem.W.Frag} {m : M D} (σ : SS) (H : Hp) (Q : VK) (p : tM K Z (isN m) σ H Q) : tIsN (tM K Z m) σ H Q := by
  obtain ⟨e, R, p⟩ := p
  refine ⟨e, R, pst_bnd p fun v H1 d e1 m1 R1 r1 p1 => ?_⟩
  rw [isNone_ok r1]
  exact p1 _ H1 .refl R1 (.bl _)
theorem t_isNN {K : PySem.W.Frag} {m : M D} (σ : SS) (H : Hp) (Q : VK) (p : tM K Z (isNN m) σ H Q) : tNotN (tM K Z m) σ H Q := by
  obtain ⟨e, R, p⟩ := p
  refine ⟨e, R, pst_bnd p fun v H1 d e1 m1 R1 r1 p1 => ?_⟩
  rw [isNone_ok r1]
  exact p1 _ H1 .refl R1 (.bl _)
theorem t_testB {K : PySem.W.Frag} {t : TE} {m : M D} (h : ∀ σ H Q, tM K Z m σ H Q → t σ H Q) (σ : SS) (H : Hp) (Q : Bool → Hp → Prop) (p : tT K Z (boolOf m) σ H Q) : tB t σ H Q := t_test h σ H Q p
theorem e_isN {j pos' pos} (ha : PE X a (tM X.K Z ma)) : PE X (.Compare a [.Is] [.Constant .none j pos'] pos) (tM X.K Z (isN ma)) := PE_weak (pe_cmp (pc_isN ha)) t_isN
theorem e_isNN {j pos' pos} (ha : PE X a (tM X.K Z ma)) : PE X (.Compare a [.IsNot] [.Constant .none j pos'] pos) (tM X.K Z (isNN ma)) := PE_weak (pe_cmp (pc_notN ha)) t_isNN
theorem c_isN {j pos' pos} (ha : PE X a (tM X.K Z ma)) : PT X (.Compare a [.Is] [.Constant .none j pos'] pos) (tT X.K Z (boolOf (isN ma))) := PT_weak (pt_cmp (pc_isN ha)) (t_testB t_isN)
theorem c_isNN {j pos' pos} (ha : PE X a (tM X.K Z ma)) : PT X (.Compare a [.IsNot] [.Constant .none j pos'] pos) (tT X.K Z (boolOf (isNN ma))) := PT_weak (pt_cmp (pc_notN ha)) (t_testB t_isNN)
/-- x is True, x is False, x a bool -/
def isBD : D → D → Option D
  | .bool a, .bool b => some (.bool (decide (a = b)))
  | _, _ => none
def isnBD : D → D → Option D
  | .bool a, .bool b => some (.bool (!decide (a = b)))
  | _, _ => none
theorem b_isB {K : PySem.W.Frag} : BinQ K rIsB isBD := fun v w x y d H Q hx hy h q => by
  cases x <;> cases y <;> simp only [isBD] at h <;> cases h
  cases rq_bl hx; cases rq_bl hy
  exact ⟨_, _, rfl, rfl, q _ (.bl _)⟩
theorem b_isnB {K : PySem.W.Frag} : BinQ K rNotB isnBD := fun v w x y d H Q hx hy h q => by
  cases x <;> cases y <;> simp only [isnBD] at h <;> cases h
  cases rq_bl hx; cases rq_bl hy
  exact ⟨_, _, rfl, rfl, q _ (.bl _)⟩
/-- chains -/
def chn (op op' : D → D → Option D) (a b c : M D) : M D := bnd a fun x => bnd b fun y => bnd (lft (op x y)) fun z => match z with
  | .bool true => bnd c fun w => lft (op' y w)
  | .bool false => ret (.bool false)
  | _ => fun _ => .no
theorem t_chn {K : PySem.W.Frag} {r r' : R2} {op op' : D → D → Option D} {mc : M D} (h : BinQ K r op) (h' : BinQ K r' op') (σ : SS) (H : Hp) (Q : VK) (p : tM K Z (chn op op' ma mb mc) σ H Q) : tChain r r' (tM K Z ma) (tM K Z mb) (tM K Z mc) σ H Q := by
  obtain ⟨e, R, p⟩ := p
  refine ⟨e, R, pst_bnd p fun v H1 x e1 m1 R1 r1 p1 => ⟨e1, R1, pst_bnd p1 fun w H2 y e2 m2 R2 r2 p2 => ?_⟩⟩
  have p3 : ∃ z, op x y = some z ∧ pst K Z (rV K) σ H2 Q ((match z with
  | .bool true => bnd mc fun w => lft (op' y w)
  | .bool false => ret (.bool false)
  | _ => fun _ => .no : M D) e2) := by
    unfold bnd at p2
    cases q : op x y with
    | none => rw [q] at p2; exact p2.elim
    | some z => rw [q] at p2; exact ⟨z, rfl, p2⟩
  obtain ⟨z, hz, p3⟩ := p3
  refine h v w x y z H2 _ (.inl (Rp.mono m2 r1)) (.inl r2) hz fun u ru => ?_
  cases z with
  | bool c =>
    cases rp_bl ru
    refine ⟨c, rfl, ?_⟩
    cases c with
    | false => rw [if_neg Bool.false_ne_true]; exact p3 _ H2 .refl R2 (.bl _)
    | true =>
      rw [if_pos rfl]
      refine ⟨e2, R2, pst_bnd p3 fun w' H3 x' e3 m3 R3 r3 p4 => ?_⟩
      obtain ⟨d, hd, q⟩ := pst_lft p4
      exact h' w w' y x' d H3 Q (.inl (Rp.mono m3 r2)) (.inl r3) hd fun u ru => q u H3 .refl R3 ru
  | _ => exact p3.elim
theorem e_chn {c : Expr} {mc : M D} {o o' : CmpOp} {r r' : R2} {op op' : D → D → Option D} (ho : OpR X (compareOp o) r) (h : BinQ X.K r op) (ho' : OpR X (compareOp o') r') (h' : BinQ X.K r' op') (ha : PE X a (tM X.K Z ma)) (hb : PE X b (tM X.K Z mb)) (hc : PE X c (tM X.K Z mc))
    (hm : lastMarks [o, o'] [b, c] = false := by with_unfolding_all rfl) : PE X (.Compare a [o, o'] [b, c] pos) (tM X.K Z (chn op op' ma mb mc)) := PE_weak (pe_chain ho ho' ha hb hc hm) (t_chn h h')
theorem c_chn {c : Expr} {mc : M D} {o o' : CmpOp} {r r' : R2} {op op' : D → D → Option D} (ho : OpR X (compareOp o) r) (h : BinQ X.K r op) (ho' : OpR X (compareOp o') r') (h' : BinQ X.K r' op') (ha : PE X a (tM X.K Z ma)) (hb : PE X b (tM X.K Z mb)) (hc : PE X c (tM X.K Z mc))
    (hm : lastMarks [o, o'] [b, c] = false := by with_unfolding_all rfl) : PT X (.Compare a [o, o'] [b, c] pos) (tT X.K Z (boolOf (chn op op' ma mb mc))) := PT_weak (pt_chain ho ho' ha hb hc hm) (t_test (t_chn h h'))

/-! ### truth, not, and, or -/
def truD : D → Option Bool
  | .none => some false
  | .bool b => some b
  | .int i => some (i != 0)
  | .str x => if x.length ≤ sizeLine then some ((x.length : Int) != 0) else none
  | .list ds => some (!ds.isEmpty)
  | .tuple ds => some (!ds.isEmpty)
  | .dict _ => none
theorem isEmpty_rp {K : PySem.W.Frag} {H : Hp} {xs : List V} {ds : List D} (r : RpA K H xs ds) : (!ds.isEmpty) = !xs.isEmpty := by cases r <;> rfl
theorem tru_ok {K : PySem.W.Frag} {H : Hp} {v : V} {d : D} {b : Bool} (h : Rq K H v d) (e : truD d = some b) : TruV K v H b := by
  cases d <;> simp only [truD] at e
  · cases e; rcases h with h | ⟨_, _, o⟩
    · cases h; rfl
    · exact o.elim
  · cases e; cases rq_bl h; rfl
  · cases e; cases rq_int h; rfl
  · cases rq_str h
    split at e
    · cases e; exact ⟨by assumption, rfl⟩
    · cases e
  · cases e
    obtain ⟨a, xs, rfl, ha, r⟩ := rq_lst h
    exact .inl ⟨xs, ha, isEmpty_rp r⟩
  · cases e
    obtain ⟨a, xs, rfl, ha, r⟩ := rq_tup h
    exact .inr (.inl ⟨xs, ha, isEmpty_rp r⟩)
  · cases e
def truM (m : M D) : M Bool := bnd m fun d => lft (truD d)
theorem c_tru (ha : PE X a (tQ X.K Z ma)) (he : ∀ whole, isTrue a X.env whole = (do let v ← whole; standAt a.pos; holding [v] (truthy v))) : PT X a (tT X.K Z (truM ma)) :=
  PT_weak (pt_truth ha he) fun σ H Q ⟨e, R, p⟩ => ⟨e, R, pst_bnd p fun v H1 d e1 m1 R1 r1 p1 => by
    obtain ⟨b, hb, q⟩ := pst_lft p1
    exact ⟨b, tru_ok r1 hb, q b H1 .refl R1 rfl⟩⟩
def notM (m : M Bool) : M Bool := bnd m fun b => ret (!b)
theorem c_not {t : M Bool} (h : PT X a (tT X.K Z t)) : PT X (.UnaryOp .Not a pos) (tT X.K Z (notM t)) := PT_weak (pt_not h) fun σ H Q ⟨e, R, p⟩ => ⟨e, R, pst_bnd p fun v H1 d e1 m1 R1 r1 p1 => by
  cases r1
  exact p1 _ H1 .refl R1 rfl⟩
def andM (s t : M Bool) : M Bool := bnd s fun b => if b = true then t else ret false
def orM (s t : M Bool) : M Bool := bnd s fun b => if b = true then ret true else t
theorem w_1a {t : M Bool} (h : PT X a (tT X.K Z t)) : PW X (.BoolOp .And [a] pos) (tT X.K Z t) := pw_and1 h
theorem w_1o {t : M Bool} (h : PT X a (tT X.K Z t)) : PW X (.BoolOp .Or [a] pos) (tT X.K Z t) := pw_or1 h
theorem PW_weak {e : Expr} {t t' : TT} (h : PW X e t) (w : ∀ σ H Q, t' σ H Q → t σ H Q) : PW X e t' := ⟨fun wh pins s σ H Q I q => h.run wh pins s σ H Q I (w σ H Q q)⟩
theorem w_and {rest : List Expr} {s t : M Bool} (h : PT X a (tT X.K Z s)) (k : PW X (.BoolOp .And (b :: rest) pos) (tT X.K Z t)) : PW X (.BoolOp .And (a :: b :: rest) pos) (tT X.K Z (andM s t)) :=
  PW_weak (pw_and h k) fun σ H Q ⟨e, R, p⟩ => ⟨e, R, pst_bnd p fun v H1 d e1 m1 R1 r1 p1 => by
    cases r1
    cases v with
    | true => rw [if_pos rfl] at p1 ⊢; exact ⟨e1, R1, p1⟩
    | false => rw [if_neg Bool.false_ne_true] at p1 ⊢; exact p1 _ H1 .refl R1 rfl⟩
theorem w_or {rest : List Expr} {s t : M Bool} (h : PT X a (tT X.K Z s)) (k : PW X (.BoolOp .Or (b :: rest) pos) (tT X.K Z t)) : PW X (.BoolOp .Or (a :: b :: rest) pos) (tT X.K Z (orM s t)) :=
  PW_weak (pw_or h k) fun σ H Q ⟨e, R, p⟩ => ⟨e, R, pst_bnd p fun v H1 d e1 m1 R1 r1 p1 => by
    cases r1
    cases v with
    | true => rw [if_pos rfl] at p1 ⊢; exact p1 _ H1 .refl R1 rfl
    | false => rw [if_neg Bool.false_ne_true] at p1 ⊢; exact ⟨e1, R1, p1⟩⟩
/-- as values -/
def andV (x y : M D) : M D := bnd x fun d => bnd (lft (truD d)) fun b => if b = true then y else ret d
def orV (x y : M D) : M D := bnd x fun d => bnd (lft (truD d)) fun b => if b = true then ret d else y
def notV (x : M D) : M D := bnd x fun d => bnd (lft (truD d)) fun b => ret (.bool !b)
theorem tru_p {K : PySem.W.Frag} {β α : Type} {r : RR β α} {σ : SS} {H : Hp} {Q : β → Hp → Prop} {d : D} {f : Bool → M α} {e : En} (p : pst K Z r σ H Q (bnd (lft (truD d)) f e)) : ∃ b, truD d = some b ∧ pst K Z r σ H Q (f b e) := by
  unfold bnd at p
  cases q : truD d with
  | none => rw [q] at p; exact p.elim
  | some b => rw [q] at p; exact ⟨b, rfl, p⟩
theorem v_1 {o : BoolOp} {m : M D} (h : PE X a (tM X.K Z m)) : PE X (.BoolOp o [a] pos) (tM X.K Z m) := pe_one h
theorem v_and {rest : List Expr} {x y : M D} (h : PE X a (tM X.K Z x)) (k : PE X (.BoolOp .And (b :: rest) pos) (tM X.K Z y)) : PE X (.BoolOp .And (a :: b :: rest) pos) (tM X.K Z (andV x y)) :=
  PE_weak (pe_andT h k) fun σ H Q ⟨e, R, p⟩ => ⟨e, R, pst_bnd p fun v H1 d e1 m1 R1 r1 p1 => by
    obtain ⟨b, hb, p2⟩ := tru_p p1
    refine ⟨b, tru_ok (.inl r1) hb, ?_⟩
    cases b with
    | true => rw [if_pos rfl] at p2 ⊢; exact ⟨e1, R1, p2⟩
    | false => rw [if_neg Bool.false_ne_true] at p2 ⊢; exact p2 _ H1 .refl R1 r1⟩
theorem v_or {rest : List Expr} {x y : M D} (h : PE X a (tM X.K Z x)) (k : PE X (.BoolOp .Or (b :: rest) pos) (tM X.K Z y)) : PE X (.BoolOp .Or (a :: b :: rest) pos) (tM X.K Z (orV x y)) :=
  PE_weak (pe_orT h k) fun σ H Q ⟨e, R, p⟩ => ⟨e, R, pst_bnd p fun v H1 d e1 m1 R1 r1 p1 => by
    obtain ⟨b, hb, p2⟩ := tru_p p1
    refine ⟨b, tru_ok (.inl r1) hb, ?_⟩
    cases b with
    | true => rw [if_pos rfl] at p2 ⊢; exact p2 _ H1 .refl R1 r1
    | false => rw [if_neg Bool.false_ne_true] at p2 ⊢; exact ⟨e1, R1, p2⟩⟩
theorem v_not {x : M D} (h : PE X a (tQ X.K Z x)) : PE X (.UnaryOp .Not a pos) (tM X.K Z (notV x)) :=
  PE_weak (pe_notT h) fun σ H Q ⟨e, R, p⟩ => ⟨e, R, pst_bnd p fun v H1 d e1 m1 R1 r1 p1 => by
    obtain ⟨b, hb, p2⟩ := tru_p p1
    exact ⟨b, tru_ok r1 hb, p2 _ H1 .refl R1 (.bl _)⟩⟩
def negD : D → Option D
  | .int i => some (.int (-i))
  | _ => none
theorem e_neg (h : PE X a (tM X.K Z ma)) : PE X (.UnaryOp .USub a pos) (tM X.K Z (una negD ma)) := PE_weak (pe_un un_neg h) fun σ H Q ⟨e, R, p⟩ => ⟨e, R, pst_bnd p fun v H1 d e1 m1 R1 r1 p1 => by
  obtain ⟨x, hx, q⟩ := pst_lft p1
  cases d <;> simp only [negD] at hx <;> cases hx
  cases rp_int r1
  exact ⟨_, rfl, q _ H1 .refl R1 (.int _)⟩⟩
/-- a if c else b -/
def iteM {α : Type} (c : M Bool) (x y : M α) : M α := bnd c fun b => if b = true then x else y
theorem e_ite {c : Expr} {t : M Bool} {x y : M D} (h : PT X c (tT X.K Z t)) (h1 : PE X a (tM X.K Z x)) (h2 : PE X b (tM X.K Z y)) : PE X (.IfExp c a b pos) (tM X.K Z (iteM t x y)) :=
  PE_weak (pe_ifExp h h1 h2) fun σ H Q ⟨e, R, p⟩ => ⟨e, R, pst_bnd p fun v H1 d e1 m1 R1 r1 p1 => by
    cases r1
    cases v with
    | true => rw [if_pos rfl] at p1 ⊢; exact ⟨e1, R1, p1⟩
    | false => rw [if_neg Bool.false_ne_true] at p1 ⊢; exact ⟨e1, R1, p1⟩⟩
end
end ZZ

namespace ZZ
open PySem PySem.Spec PyProof.Rows L2

/-! ### lists of arguments, displays -/
def seqM : List (M D) → M (List D)
  | [] => ret []
  | m :: ms => bnd m fun x => bnd (seqM ms) fun xs => ret (x :: xs)
theorem seqM_len : ∀ (ms : List (M D)) (e : En) (xs : List D) (e' : En), seqM ms e = .ok xs e' → xs.length = ms.length
  | [], e, xs, e', h => by cases h; rfl
  | m :: ms, e, xs, e', h => by
    simp only [seqM, bnd] at h
    split at h
    · split at h
      · rename_i h2
        cases h
        rw [List.length_cons, List.length_cons, seqM_len ms _ _ _ h2]
      · cases h
      · cases h
    · cases h
    · cases h
section
variable {X : Cx} {Z : ZC} {pos : Pos}
theorem a_nil : PA X [] (tMs X.K Z (seqM [])) := PA_weak pa_nil fun σ H Q ⟨e, R, p⟩ => p [] H .refl R .nil
theorem a_cons {a : Expr} {es : List Expr} {m : M D} {ms : List (M D)} (h : PE X a (tM X.K Z m)) (k : PA X es (tMs X.K Z (seqM ms))) (hs : starEach (a :: es) X.env = (false, eval a X.env) :: starEach es X.env := by rfl) : PA X (a :: es) (tMs X.K Z (seqM (m :: ms))) :=
  PA_weak (pa_cons h k hs) fun σ H Q ⟨e, R, p⟩ => ⟨e, R, pst_bnd p fun v H1 d e1 m1 R1 r1 p1 => ⟨e1, R1, pst_bnd p1 fun w H2 y e2 m2 R2 r2 p2 => p2 _ H2 .refl R2 (.cons (Rp.mono m2 r1) r2)⟩⟩
def tupM (ms : List (M D)) : M D := bnd (seqM ms) fun xs => ret (.tuple xs)
def lstM (ms : List (M D)) : M D := bnd (seqM ms) fun xs => ret (.list xs)
theorem pst_bndE {K : PySem.W.Frag} {α β γ δ : Type} {r : RR β α} {r2 : RR δ γ} {σ : SS} {H : Hp} {Q : β → Hp → Prop} {m : M α} {f : α → M γ} {e : En} {Q2 : δ → Hp → Prop} (h : pst K Z r2 σ H Q2 (bnd m f e))
    (k : ∀ b H1 d e1, m e = .ok d e1 → Mono H H1 → Rel K Z σ H1 e1 → r σ e1 H1 b d → pst K Z r2 σ H1 Q2 (f d e1) → Q b H1) : pst K Z r σ H Q (m e) := by
  unfold bnd at h
  cases q : m e with
  | ok d e1 =>
    rw [q] at h
    exact fun b H1 m1 R p => k b H1 d e1 q m1 R p (h.mono m1)
  | exc x e1 => rw [q] at h; exact h
  | no => rw [q] at h; exact h
theorem e_tup {es : List Expr} {k : Nat} {ms : List (M D)} (h : PA X es (tMs X.K Z (seqM ms))) (hl : ms.length ≤ 1000 := by decide) : PE X (.Tuple es k pos) (tM X.K Z (tupM ms)) :=
  PE_weak (pe_tup h) fun σ H Q ⟨e, R, p⟩ => ⟨e, R, pst_bndE p fun vs H1 ds e1 he m1 R1 r1 p1 => by
    refine ⟨?_, fun q hq => p1 _ _ (.same (same_upd hq)) (R1.same (same_upd hq)) (.tup (SqT.of upd_same) (r1.mono (.same (same_upd hq))))⟩
    have h1 := r1.length
    have h2 := seqM_len _ _ _ _ he
    rw [sizeLine_eq]; omega⟩
theorem e_lst {es : List Expr} {ms : List (M D)} (h : PA X es (tMs X.K Z (seqM ms))) (hl : ms.length ≤ 1000 := by decide) : PE X (.List es pos) (tO X.K Z (lstM ms)) :=
  PE_weak (pe_lst h) fun σ H Q ⟨e, R, p⟩ => ⟨e, R, pst_bndE p fun vs H1 ds e1 he m1 R1 r1 p1 => by
    refine ⟨?_, fun q hq => p1 _ _ (.same (same_upd hq)) (R1.same (same_upd hq)) ⟨q, rfl, ⟨_, upd_same, r1.mono (.same (same_upd hq))⟩, R1.fresh hq⟩⟩
    have h1 := r1.length
    have h2 := seqM_len _ _ _ _ he
    rw [sizeLine_eq]; omega⟩
end

/-! ### defs -/
inductive Fl where
  | nx | rt (d : D) | ro (d : D) | bk | ct
inductive FO where
  | ok (d : D) (outs : List D) | exc (x : Exn) (outs : List D) | no
def posT : List Bool → Nat → List Nat
  | [], _ => []
  | true :: m, i => i :: posT m (i + 1)
  | false :: m, i => posT m (i + 1)
def adrV (vs : List V) (i : Nat) : Addr := match vs[i]? with
  | some (.ref a) => a
  | _ => 0
def ArgR (K : PySem.W.Frag) (H : Hp) : List Bool → List V → List D → Prop
  | [], [], [] => True
  | true :: m, v :: vs, d :: ds => (∃ a, v = .ref a ∧ Opn K H a d) ∧ ArgR K H m vs ds
  | false :: m, v :: vs, d :: ds => Rp K H v d ∧ ArgR K H m vs ds
  | _, _, _ => False
def OutR (K : PySem.W.Frag) (H : Hp) (vs : List V) : List Nat → List D → Prop
  | [], [] => True
  | i :: is, o :: os => Opn K H (adrV vs i) o ∧ OutR K H vs is os
  | _, _ => False
def Frm (H H' : Hp) (A : List Addr) : Prop := ∀ b o, H b = some o → b ∉ A → H' b = some o
def XR (K : PySem.W.Frag) (mg : Str → Option Value) (H : Hp) (x : Exn) (cls : Value) (dd : Option Addr) : Prop := ∃ C d v, mg x.cls = some (.ref C) ∧ cls = .ref C ∧ dd = some d ∧ H d = some (.xd [(("value" : Str), v)]) ∧ Rp K H v x.val
def RetR (K : PySem.W.Frag) (opn : Bool) (H H' : Hp) (v : V) (d : D) : Prop := match opn with
  | true => ∃ a, v = .ref a ∧ Opn K H' a d ∧ H a = none
  | false => Rp K H' v d
def spF (K : PySem.W.Frag) (mask : List Bool) (opn : Bool) (F : List D → FO) : Sp := fun vs H Q _ => ∃ ds, ArgR K H mask vs ds ∧ ((posT mask 0).map (adrV vs)).Nodup ∧ match F ds with
  | .ok d outs => ∀ v H', Mono H H' → Frm H H' ((posT mask 0).map (adrV vs)) → OutR K H' vs (posT mask 0) outs → RetR K opn H H' v d → Q v H'
  | _ => False
theorem ArgR.len {K : PySem.W.Frag} {H : Hp} : ∀ {m : List Bool} {vs : List V} {ds : List D}, ArgR K H m vs ds → vs.length = m.length ∧ ds.length = m.length
  | [], [], [], _ => ⟨rfl, rfl⟩
  | true :: m, v :: vs, d :: ds, h => by have := ArgR.len h.2; simp [this.1, this.2]
  | false :: m, v :: vs, d :: ds, h => by have := ArgR.len h.2; simp [this.1, this.2]
  | [], [], _ :: _, h => h.elim
  | [], _ :: _, _, h => h.elim
  | true :: _, [], _, h => h.elim
  | false :: _, [], _, h => h.elim
  | true :: _, _ :: _, [], h => h.elim
  | false :: _, _ :: _, [], h => h.elim
theorem ArgR.get {K : PySem.W.Frag} {H : Hp} : ∀ {m : List Bool} {vs : List V} {ds : List D}, ArgR K H m vs ds → ∀ (i : Nat) (b : Bool) (d : D), m[i]? = some b → ds[i]? = some d → ∃ v, vs[i]? = some v ∧ (b = true → ∃ a, v = .ref a ∧ Opn K H a d) ∧ (b = false → Rp K H v d)
  | [], [], [], _, i, b, d, h, _ => by simp at h
  | true :: m, v :: vs, d :: ds, h, 0, b, d', h1, h2 => by simp at h1 h2; subst h1 h2; exact ⟨v, rfl, fun _ => h.1, fun e => by cases e⟩
  | false :: m, v :: vs, d :: ds, h, 0, b, d', h1, h2 => by simp at h1 h2; subst h1 h2; exact ⟨v, rfl, (fun e => by cases e), fun _ => h.1⟩
  | true :: m, v :: vs, d :: ds, h, i + 1, b, d', h1, h2 => ArgR.get h.2 i b d' (by simpa using h1) (by simpa using h2)
  | false :: m, v :: vs, d :: ds, h, i + 1, b, d', h1, h2 => ArgR.get h.2 i b d' (by simpa using h1) (by simpa using h2)
  | [], [], _ :: _, h, _, _, _, _, _ => h.elim
  | [], _ :: _, _, h, _, _, _, _, _ => h.elim
  | true :: _, [], _, h, _, _, _, _, _ => h.elim
  | false :: _, [], _, h, _, _, _, _, _ => h.elim
  | true :: _, _ :: _, [], h, _, _, _, _, _ => h.elim
  | false :: _, _ :: _, [], h, _, _, _, _, _ => h.elim
theorem posT_mem : ∀ (m : List Bool) (k i : Nat), i ∈ posT m k ↔ ∃ j, i = k + j ∧ m[j]? = some true
  | [], k, i => by simp [posT]
  | true :: m, k, i => by
    simp only [posT, List.mem_cons, posT_mem m (k + 1) i]
    constructor
    · rintro (rfl | ⟨j, rfl, h⟩)
      · exact ⟨0, rfl, rfl⟩
      · exact ⟨j + 1, by omega, by simpa using h⟩
    · rintro ⟨j, rfl, h⟩
      cases j with
      | zero => exact .inl rfl
      | succ j => exact .inr ⟨j, by omega, by simpa using h⟩
  | false :: m, k, i => by
    simp only [posT, posT_mem m (k + 1) i]
    constructor
    · rintro ⟨j, rfl, h⟩
      exact ⟨j + 1, by omega, by simpa using h⟩
    · rintro ⟨j, rfl, h⟩
      cases j with
      | zero => simp at h
      | succ j => exact ⟨j, by omega, by simpa using h⟩
theorem nodup_map {α β : Type} {f : α → β} : ∀ {l : List α}, (l.map f).Nodup → ∀ x y, x ∈ l → y ∈ l → f x = f y → x = y
  | [], _, x, y, h, _, _ => by cases h
  | a :: l, n, x, y, hx, hy, e => by
    rw [List.map_cons, List.nodup_cons] at n
    rcases List.mem_cons.mp hx with hx | hx
    · rcases List.mem_cons.mp hy with hy | hy
      · rw [hx, hy]
      · exact absurd (List.mem_map.mpr ⟨y, hy, by rw [← e, hx]⟩) n.1
    · rcases List.mem_cons.mp hy with hy | hy
      · exact absurd (List.mem_map.mpr ⟨x, hx, by rw [e, hy]⟩) n.1
      · exact nodup_map n.2 x y hx hy e
def initE : List Bool → List D → Nat → Option En
  | [], [], n => some (List.replicate n .un)
  | b :: bs, d :: ds, n => (initE bs ds n).map fun e => (if b = true then .op d else .fz d) :: e
  | _, _, _ => none
theorem initE_len : ∀ {m : List Bool} {ds : List D} {n : Nat} {e : En}, initE m ds n = some e → e.length = m.length + n ∧ ds.length = m.length
  | [], [], n, e, h => by cases h; simp
  | b :: bs, d :: ds, n, e, h => by
    simp only [initE] at h
    obtain ⟨e', h1, rfl⟩ := Option.map_eq_some_iff.mp h
    have := initE_len h1
    simp only [List.length_cons]; omega
  | [], _ :: _, _, _, h => by cases h
  | _ :: _, [], _, _, h => by cases h
theorem initE_get : ∀ {m : List Bool} {ds : List D} {n : Nat} {e : En}, initE m ds n = some e → ∀ (i : Nat) (s : Sl), e[i]? = some s → s = .un ∨ ∃ b d, m[i]? = some b ∧ ds[i]? = some d ∧ s = if b = true then .op d else .fz d
  | [], [], n, e, h, i, s, hs => by
    cases h
    rw [List.getElem?_replicate] at hs
    split at hs
    · cases hs; exact .inl rfl
    · cases hs
  | b :: bs, d :: ds, n, e, h, i, s, hs => by
    simp only [initE] at h
    obtain ⟨e', h1, rfl⟩ := Option.map_eq_some_iff.mp h
    cases i with
    | zero => simp at hs; exact .inr ⟨b, d, rfl, rfl, hs.symm⟩
    | succ i =>
      rcases initE_get h1 i s (by simpa using hs) with r | ⟨b', d', r1, r2, r3⟩
      · exact .inl r
      · exact .inr ⟨b', d', by simpa using r1, by simpa using r2, r3⟩
  | [], _ :: _, _, _, h, _, _, _ => by cases h
  | _ :: _, [], _, _, h, _, _, _ => by cases h
abbrev Z0 (mask : List Bool) (vs : List V) (H : Hp) (W : Exn → En → SS → Hp → Prop) : ZC := ⟨H, posT mask 0, adrV vs, [], W⟩
theorem start_get {N : List Str} {vs : List V} {i : Nat} {v : V} (h : vs[i]? = some v) : (L2.start N vs)[i]? = some (some v) := by
  unfold L2.start
  have := lt_of_get h
  rw [List.getElem?_append_left (by simpa using this), List.getElem?_map, h]
  rfl
theorem rel_start {K : PySem.W.Frag} {H : Hp} {mask : List Bool} {vs : List V} {ds : List D} {n : Nat} {e : En} {N : List Str} {W : Exn → En → SS → Hp → Prop} (a : ArgR K H mask vs ds) (nd : ((posT mask 0).map (adrV vs)).Nodup) (h : initE mask ds n = some e) (hN : N.length = mask.length + n) :
    Rel K (Z0 mask vs H W) (L2.start N vs) H e := by
  have hl := a.len
  have at_ : ∀ (i : Nat) (d : D), mask[i]? = some true → ds[i]? = some d → vs[i]? = some (.ref (adrV vs i)) ∧ Opn K H (adrV vs i) d := fun i d h1 h2 => by
    obtain ⟨v, hv, q, _⟩ := a.get i true d h1 h2
    obtain ⟨x, rfl, o⟩ := q rfl
    have e : adrV vs i = x := by unfold adrV; rw [hv]
    rw [e]
    exact ⟨hv, o⟩
  have mem : ∀ i, i ∈ posT mask 0 ↔ mask[i]? = some true := fun i => by
    rw [posT_mem]
    constructor
    · rintro ⟨j, rfl, h⟩; simpa using h
    · intro h; exact ⟨i, by simp, h⟩
  refine ⟨?_, fun i d hi => ?_, fun i d hi => ?_, fun i j d f x h1 h2 h3 h4 => ?_, fun b o hb _ => hb, fun i hi => ?_, fun p hp => absurd hp (by simp)⟩
  · rw [(initE_len h).1]
    unfold L2.start
    rw [List.length_append, List.length_map, List.length_replicate]
    omega
  · rcases initE_get h i _ hi with r | ⟨b, d', r1, r2, r3⟩
    · cases r
    · cases b with
      | true => cases r3
      | false =>
        cases r3
        obtain ⟨v, hv, _, q⟩ := a.get i false d r1 r2
        exact ⟨v, start_get hv, q rfl⟩
  · rcases initE_get h i _ hi with r | ⟨b, d', r1, r2, r3⟩
    · cases r
    · cases b with
      | false => cases r3
      | true =>
        cases r3
        obtain ⟨q1, q2⟩ := at_ i d r1 r2
        exact ⟨_, start_get q1, q2, .inr ⟨(mem i).mpr r1, rfl⟩⟩
  · have k : ∀ (i : Nat) (d : D), e[i]? = some (.op d) → (L2.start N vs)[i]? = some (some (.ref x)) → i ∈ posT mask 0 ∧ adrV vs i = x := fun i d hi hs => by
      rcases initE_get h i _ hi with r | ⟨b, d', r1, r2, r3⟩
      · cases r
      · cases b with
        | false => cases r3
        | true =>
          obtain ⟨q1, q2⟩ := at_ i d' r1 r2
          rw [start_get q1] at hs
          cases hs
          exact ⟨(mem i).mpr r1, rfl⟩
    obtain ⟨k1, k2⟩ := k i d h1 h3
    obtain ⟨k3, k4⟩ := k j f h2 h4
    exact nodup_map nd i j k1 k3 (k2.trans k4.symm)
  · have hi' := (mem i).mp hi
    have : i < ds.length := by rw [hl.2]; exact lt_of_get hi'
    obtain ⟨q1, q2⟩ := at_ i ds[i] hi' (by simp [this])
    obtain ⟨u, hu, _⟩ := q2.there
    exact ⟨⟨u, hu⟩, start_get q1⟩
def getO : List Nat → En → Option (List D)
  | [], _ => some []
  | i :: is, e => match e[i]? with
    | some (.op d) => (getO is e).map (d :: ·)
    | _ => none
def mkF (mask : List Bool) (n : Nat) (body : M Fl) : List D → FO := fun ds => match initE mask ds n with
  | none => .no
  | some e0 => match body e0 with
    | .ok (.rt d) e => (match getO (posT mask 0) e with | some os => .ok d os | none => .no)
    | .ok .nx e => (match getO (posT mask 0) e with | some os => .ok .none os | none => .no)
    | .exc x e => (match getO (posT mask 0) e with | some os => .exc x os | none => .no)
    | _ => .no
/-- for a def that hands back an open list -/
def mkFo (mask : List Bool) (n : Nat) (body : M Fl) : List D → FO := fun ds => match initE mask ds n with
  | none => .no
  | some e0 => match body e0 with
    | .ok (.ro d) e => (match getO (posT mask 0) e with | some os => .ok d os | none => .no)
    | .exc x e => (match getO (posT mask 0) e with | some os => .exc x os | none => .no)
    | _ => .no
def pstS (K : PySem.W.Frag) (Z : ZC) (D : Ends) (σ : SS) (H : Hp) : Out Fl → Prop
  | .ok .nx e => ∀ σ' H', Mono H H' → Rel K Z σ' H' e → D.nx σ' H'
  | .ok .bk e => ∀ σ' H', Mono H H' → Rel K Z σ' H' e → D.bk σ' H'
  | .ok .ct e => ∀ σ' H', Mono H H' → Rel K Z σ' H' e → D.ct σ' H'
  | .ok (.rt d) e => ∀ σ' v H', Mono H H' → Rel K Z σ' H' e → Rp K H' v d → D.rt v H'
  | .ok (.ro d) e => ∀ σ' a H', Mono H H' → Rel K Z σ' H' e → Opn K H' a d → Z.Hb a = none → D.rt (.ref a) H'
  | .exc x e => ∀ σ' H', Mono H H' → Rel K Z σ' H' e → Z.W x e σ' H'
  | .no => False
def tS (K : PySem.W.Frag) (Z : ZC) (m : M Fl) : TS := fun D σ H => ∃ e, Rel K Z σ H e ∧ pstS K Z D σ H (m e)
theorem out_of {K : PySem.W.Frag} {Z : ZC} {σ : SS} {H : Hp} {e : En} {vs : List V} (R : Rel K Z σ H e) (hz : Z.adr = adrV vs) : ∀ {is : List Nat} {os : List D}, (∀ i ∈ is, i ∈ Z.ios) → getO is e = some os → OutR K H vs is os
  | [], os, _, h => by cases h; trivial
  | i :: is, os, hi, h => by
    simp only [getO] at h
    split at h
    · rename_i d hd
      obtain ⟨os', h1, rfl⟩ := Option.map_eq_some_iff.mp h
      refine ⟨?_, out_of R hz (fun j hj => hi j (List.mem_cons_of_mem _ hj)) h1⟩
      obtain ⟨a, q1, q2, _⟩ := R.op i d hd
      obtain ⟨_, q3⟩ := R.io i (hi i List.mem_cons_self)
      rw [q1] at q3; cases q3
      rw [hz] at q2
      exact q2
    · cases h

/-! ### what a def keeps, with nothing of repr under way -/
structure FnG (P : Program) (w : World) (K : PySem.W.Frag) (mg : Str → Option Value) (base : Heap) (CX : CXT) (k : Nat) (f : Addr) (fd : FuncData) (ps : List Str) (sp : Sp) : Prop where
  ln : ∀ vs H Q E, sp vs H Q E → vs.length = ps.length
  rn : ∀ (A : Around) (outer : List Env) (s : Shared) (H : Hp) (as : Args) (us : List Value) (vs : List V) (Q : VK) (E : XK), Room k A → A.guards = some [] →
    Env0 P w K mg base A outer s H → BindsTo s fd as (ps.zip us) → Vals vs us → sp vs H Q E → codeAny (model P w) A (.call (.ref f) as) (CR CX outer P w H s Q E) s
theorem FnG.mono {P : Program} {w : World} {K : PySem.W.Frag} {mg : Str → Option Value} {base : Heap} {CX : CXT} {j k : Nat} {f : Addr} {fd : FuncData} {ps : List Str} {sp : Sp} (F : FnG P w K mg base CX j f fd ps sp) (h : j ≤ k) : FnG P w K mg base CX k f fd ps sp :=
  ⟨F.ln, fun A outer s H as us vs Q E r => F.rn A outer s H as us vs Q E (r.mono h)⟩
theorem fnG_of {CX : CXT} {P : Program} {w : World} {K : PySem.W.Frag} {mg : Str → Option Value} {base : Heap} {k : Nat} {f : Addr} {x qual : Str} {st : Stmt} {fd : FuncData} {N ps : List Str} {sp : Sp} (F : Fun K x qual st f fd) (S : FnScope N ps (defScope st)) (ln : ∀ vs H Q E, sp vs H Q E → vs.length = ps.length)
    (body : ∀ (cdv : Value) (A : Around) (outer : List Env) (s : Shared) (H : Hp) (vs : List V) (Q : VK) (E : XK), Room k (A.deeper (envOfC qual (defScope st) s.heap.objs.size f cdv)) → A.guards = some [] → sp vs H Q E →
      ∃ t, PSs (cxOf CX P w K mg base N qual (defScope st) f cdv A outer s H E) (defBody st) t ∧ t { nx := fun _ H' => Q .non H', rt := Q } (L2.start N vs) H) : FnG P w K mg base CX (k + 1) f fd ps sp := by
  obtain ⟨oc, od, kV, doc, pm, an, cdv, ct, osl, rfl, lk, hcd⟩ := F.ex
  refine ⟨ln, fun A outer s H as us vs Q E hr hgd e0 hb r hsp => ?_⟩
  have KX : K.In s.heap := e0.mod.kin.keeps fun b o e => (e0.bs b o e).1
  have kinds : ∀ y ∈ ps.zip us, (defScope st).names.lookup y.1 = some .local ∨ ((defScope st).names.lookup y.1 = some .cell ∧ ((cellsFrom (s.heap.objs.size + 1) (defScope st).names []).lookup y.1).isSome = true) := fun ⟨n, v⟩ hy => (S.par n (List.of_mem_zip hy).1).imp id fun q => ⟨q, PySem.W.cellsFrom_some _ _ _ (.inl q)⟩
  refine codeAny_call_function hr.depth (KX _ _ lk) rfl S.co S.gen rfl (PySem.W.codeRec_of KX hcd) (hb _ _ _ _ (wpAny_newFunctionEnv_cells S.kind kinds fun env he s1 ic => ?_))
  subst he
  refine ⟨(e0.mod.nolimit.keeps fun b o e => (e0.bs b o e).1).keeps ic.toInCall.keep, codeAny_func ?_⟩
  obtain ⟨t, ht, hq⟩ := body cdv A outer s H vs Q E (hr.deeper _) hgd hsp
  have I := inv_start (CX := CX) (N := N) (qual := qual) (f := f) (cd := cdv) (E := E) S hr.hd e0 (ln _ _ _ _ hsp) r ic
  refine wpAny_mono (ht.run [] s1 (L2.start N vs) H _ I hq) (fun fl s' hs => ?_) fun _ _ hs => hs
  cases fl with
  | ret u => obtain ⟨v, σ', H', J, rv, q⟩ := hs; exact ⟨v, H', J.os, J.bare, J.base, J.hok, rv, q⟩
  | next => obtain ⟨σ', H', J, q⟩ := hs; exact ⟨V.non, H', J.os, J.bare, J.base, J.hok, rfl, q⟩
  | brk => obtain ⟨_, _, _, q⟩ := hs; exact q.elim
  | cont => obtain ⟨_, _, _, q⟩ := hs; exact q.elim
/-- where exceptions do not leave the def -/
theorem fnG0 {P : Program} {w : World} {K : PySem.W.Frag} {mg : Str → Option Value} {base : Heap} {k : Nat} {f : Addr} {x qual : Str} {st : Stmt} {fd : FuncData} {N ps : List Str} {mask : List Bool} {n : Nat} {m : M Fl} (F : Fun K x qual st f fd) (S : FnScope N ps (defScope st)) (hps : ps.length = mask.length) (hN : N.length = mask.length + n)
    (body : ∀ (cdv : Value) (A : Around) (outer : List Env) (s : Shared) (H : Hp) (E : XK) (Z : ZC), Z.ios = posT mask 0 → Room k (A.deeper (envOfC qual (defScope st) s.heap.objs.size f cdv)) → (A.deeper (envOfC qual (defScope st) s.heap.objs.size f cdv)).guards = some [] →
      PSs (cxOf CX0 P w K mg base N qual (defScope st) f cdv A outer s H E).nox (defBody st) (tS K Z m)) : FnG P w K mg base CX0 (k + 1) f fd ps (spF K mask false (mkF mask n m)) := by
  refine fnG_of F S (fun vs H Q E ⟨ds, a, _⟩ => a.len.1.trans hps.symm) fun cdv A outer s H vs Q E hr hgd ⟨ds, a, nd, p⟩ => ?_
  refine ⟨_, (body cdv A outer s H E (Z0 mask vs H fun _ _ _ _ => False) rfl hr hgd).nox, ?_⟩
  unfold mkF at p
  cases hi : initE mask ds n with
  | none => rw [hi] at p; exact p.elim
  | some e0 =>
    rw [hi] at p
    have R := rel_start (W := fun _ _ _ _ => False) (N := N) a nd hi hN
    refine ⟨e0, R, ?_⟩
    dsimp only at p
    have outs : ∀ {σ' : SS} {H' : Hp} {e : En} {os : List D}, Rel K (Z0 mask vs H fun _ _ _ _ => False) σ' H' e → getO (posT mask 0) e = some os → OutR K H' vs (posT mask 0) os ∧ Frm H H' ((posT mask 0).map (adrV vs)) := fun {σ' H' e os} R' ho => by
      refine ⟨out_of R' rfl (fun i hi => hi) ho, fun b o hb hn => R'.fr b o hb fun i hi e => hn (List.mem_map.mpr ⟨i, hi, e.symm⟩)⟩
    cases hm : m e0 with
    | no => rw [hm] at p; exact p.elim
    | exc x e =>
      rw [hm] at p
      dsimp only at p
      split at p <;> (first | exact p.elim | (rename_i h; split at h <;> cases h))
    | ok fl e =>
      rw [hm] at p
      cases fl with
      | nx =>
        dsimp only at p
        cases ho : getO (posT mask 0) e with
        | none => rw [ho] at p; exact p.elim
        | some os =>
          rw [ho] at p
          exact fun σ' H' mo R' => p .non H' mo (outs R' ho).2 (outs R' ho).1 .non
      | rt d =>
        dsimp only at p
        cases ho : getO (posT mask 0) e with
        | none => rw [ho] at p; exact p.elim
        | some os =>
          rw [ho] at p
          exact fun σ' v H' mo R' r => p v H' mo (outs R' ho).2 (outs R' ho).1 r
      | ro d => exact p.elim
      | bk => exact p.elim
      | ct => exact p.elim
theorem fnG0o {P : Program} {w : World} {K : PySem.W.Frag} {mg : Str → Option Value} {base : Heap} {k : Nat} {f : Addr} {x qual : Str} {st : Stmt} {fd : FuncData} {N ps : List Str} {mask : List Bool} {n : Nat} {m : M Fl} (F : Fun K x qual st f fd) (S : FnScope N ps (defScope st)) (hps : ps.length = mask.length) (hN : N.length = mask.length + n)
    (body : ∀ (cdv : Value) (A : Around) (outer : List Env) (s : Shared) (H : Hp) (E : XK) (Z : ZC), Z.ios = posT mask 0 → Room k (A.deeper (envOfC qual (defScope st) s.heap.objs.size f cdv)) → (A.deeper (envOfC qual (defScope st) s.heap.objs.size f cdv)).guards = some [] →
      PSs (cxOf CX0 P w K mg base N qual (defScope st) f cdv A outer s H E).nox (defBody st) (tS K Z m)) : FnG P w K mg base CX0 (k + 1) f fd ps (spF K mask true (mkFo mask n m)) := by
  refine fnG_of F S (fun vs H Q E ⟨ds, a, _⟩ => a.len.1.trans hps.symm) fun cdv A outer s H vs Q E hr hgd ⟨ds, a, nd, p⟩ => ?_
  refine ⟨_, (body cdv A outer s H E (Z0 mask vs H fun _ _ _ _ => False) rfl hr hgd).nox, ?_⟩
  unfold mkFo at p
  cases hi : initE mask ds n with
  | none => rw [hi] at p; exact p.elim
  | some e0 =>
    rw [hi] at p
    have R := rel_start (W := fun _ _ _ _ => False) (N := N) a nd hi hN
    refine ⟨e0, R, ?_⟩
    dsimp only at p
    have outs : ∀ {σ' : SS} {H' : Hp} {e : En} {os : List D}, Rel K (Z0 mask vs H fun _ _ _ _ => False) σ' H' e → getO (posT mask 0) e = some os → OutR K H' vs (posT mask 0) os ∧ Frm H H' ((posT mask 0).map (adrV vs)) := fun {σ' H' e os} R' ho => by
      refine ⟨out_of R' rfl (fun i hi => hi) ho, fun b o hb hn => R'.fr b o hb fun i hi e => hn (List.mem_map.mpr ⟨i, hi, e.symm⟩)⟩
    cases hm : m e0 with
    | no => rw [hm] at p; exact p.elim
    | exc x e =>
      rw [hm] at p
      dsimp only at p
      split at p <;> (first | exact p.elim | (rename_i h; split at h <;> cases h))
    | ok fl e =>
      rw [hm] at p
      cases fl with
      | ro d =>
        dsimp only at p
        cases ho : getO (posT mask 0) e with
        | none => rw [ho] at p; exact p.elim
        | some os =>
          rw [ho] at p
          exact fun σ' a' H' mo R' r hb => p (.ref a') H' mo (outs R' ho).2 (outs R' ho).1 ⟨a', rfl, r, hb⟩
      | nx => exact p.elim
      | rt d => exact p.elim
      | bk => exact p.elim
      | ct => exact p.elim

/-! ### calls of defs -/
inductive Arg where
  | v (m : M D) | io (i : Nat)
def maskA : List Arg → List Bool
  | [] => []
  | .v _ :: r => false :: maskA r
  | .io _ :: r => true :: maskA r
def chkO (i : Nat) : M Unit := fun e => match e[i]? with
  | some (.op _) => .ok () e
  | _ => .no
def evA : List Arg → M (List D)
  | [] => ret []
  | .v m :: r => bnd m fun d => bnd (evA r) fun ds => ret (d :: ds)
  | .io i :: r => bnd (chkO i) fun _ => bnd (evA r) fun ds => ret (.none :: ds)
def fillA : List Arg → En → List D → Option (List D)
  | [], _, [] => some []
  | .v _ :: r, e, d :: ds => (fillA r e ds).map (d :: ·)
  | .io i :: r, e, _ :: ds => match e[i]? with
    | some (.op d) => (fillA r e ds).map (d :: ·)
    | _ => none
  | _, _, _ => none
def putA : List Arg → List D → En → Option En
  | [], [], e => some e
  | .v _ :: r, os, e => putA r os e
  | .io i :: r, o :: os, e => putA r os (e.set i (.op o))
  | _, _, _ => none
def slA : List Arg → List Nat
  | [] => []
  | .v _ :: r => slA r
  | .io i :: r => i :: slA r
def callM (F : List D → FO) (as : List Arg) : M D := bnd (evA as) fun ds e => match fillA as e ds with
  | none => .no
  | some full => match F full with
    | .ok d outs => (match putA as outs e with | some e2 => .ok d e2 | none => .no)
    | _ => .no
def ARel (K : PySem.W.Frag) (σ : SS) (H : Hp) : List Arg → List V → List D → Prop
  | [], [], [] => True
  | .v _ :: r, v :: vs, d :: ds => Rp K H v d ∧ ARel K σ H r vs ds
  | .io i :: r, v :: vs, _ :: ds => σ[i]? = some (some v) ∧ ARel K σ H r vs ds
  | _, _, _ => False
theorem ARel.mono {K : PySem.W.Frag} {σ : SS} {H H' : Hp} (m : Mono H H') : ∀ {as : List Arg} {vs : List V} {ds : List D}, ARel K σ H as vs ds → ARel K σ H' as vs ds
  | [], [], [], _ => trivial
  | .v _ :: r, v :: vs, d :: ds, h => ⟨h.1.mono m, ARel.mono m h.2⟩
  | .io i :: r, v :: vs, _ :: ds, h => ⟨h.1, ARel.mono m h.2⟩
  | [], [], _ :: _, h => h.elim
  | [], _ :: _, _, h => h.elim
  | .v _ :: _, [], _, h => h.elim
  | .v _ :: _, _ :: _, [], h => h.elim
  | .io _ :: _, [], _, h => h.elim
  | .io _ :: _, _ :: _, [], h => h.elim
section
variable {X : Cx} {Z : ZC} {pos : Pos}
def rA (K : PySem.W.Frag) (as : List Arg) : RR (List V) (List D) := fun σ _ H vs ds => ARel K σ H as vs ds
abbrev tA (K : PySem.W.Frag) (Z : ZC) (as : List Arg) : TA := tG K Z (rA K as) (evA as)
theorem g_nil : PA X [] (tA X.K Z []) := PA_weak pa_nil fun σ H Q ⟨e, R, p⟩ => p [] H .refl R trivial
theorem g_v {a : Expr} {es : List Expr} {m : M D} {as : List Arg} (h : PE X a (tM X.K Z m)) (k : PA X es (tA X.K Z as)) (hs : starEach (a :: es) X.env = (false, eval a X.env) :: starEach es X.env := by rfl) : PA X (a :: es) (tA X.K Z (.v m :: as)) :=
  PA_weak (pa_cons h k hs) fun σ H Q ⟨e, R, p⟩ => ⟨e, R, pst_bnd p fun v H1 d e1 m1 R1 r1 p1 => ⟨e1, R1, pst_bnd p1 fun w H2 y e2 m2 R2 r2 p2 => p2 _ H2 .refl R2 ⟨Rp.mono m2 r1, r2⟩⟩⟩
theorem g_io {a : Expr} {es : List Expr} {i : Nat} {as : List Arg} (h : PE X a (tVar i)) (k : PA X es (tA X.K Z as)) (hs : starEach (a :: es) X.env = (false, eval a X.env) :: starEach es X.env := by rfl) : PA X (a :: es) (tA X.K Z (.io i :: as)) :=
  PA_weak (pa_cons h k hs) fun σ H Q ⟨e, R, p⟩ => by
    have p : pst X.K Z (rA X.K (.io i :: as)) σ H Q (bnd (chkO i) (fun _ => bnd (evA as) fun ds => ret (.none :: ds)) e) := p
    unfold bnd chkO at p
    split at p
    · rename_i u e1 h1
      split at h1
      · cases h1
        rename_i d hd
        obtain ⟨x, hx, _⟩ := R.op i d hd
        exact ⟨.ref x, hx, e, R, pst_bnd p fun w H2 y e2 m2 R2 r2 p2 => p2 _ H2 .refl R2 ⟨hx, r2⟩⟩
      · cases h1
    · rename_i h1; split at h1 <;> cases h1
    · exact p.elim
end
/-- the slots behind a call -/
theorem rel_after {K : PySem.W.Frag} {Z : ZC} {σ : SS} {H H' : Hp} {e e' : En} {S : List Nat} {A : List Addr} (R : Rel K Z σ H e) (m : Mono H H') (fr : Frm H H' A) (hl : e'.length = e.length)
    (out : ∀ j : Nat, j ∉ S → e'[j]? = e[j]?) (ins : ∀ j ∈ S, ∃ d f a, e[j]? = some (.op d) ∧ e'[j]? = some (.op f) ∧ σ[j]? = some (some (.ref a)) ∧ Opn K H' a f) (hA : ∀ a ∈ A, ∃ j ∈ S, σ[j]? = some (some (.ref a))) : Rel K Z σ H' e' := by
  have nA : ∀ (j : Nat) (d : D) (a : Addr), j ∉ S → e[j]? = some (.op d) → σ[j]? = some (some (.ref a)) → a ∉ A := fun j d a hj hd ha hm => by
    obtain ⟨i, hi, hs⟩ := hA a hm
    obtain ⟨d', _, _, q1, _, _, _⟩ := ins i hi
    have := R.inj i j d' d a q1 hd hs ha
    exact hj (this ▸ hi)
  have op' : ∀ (j : Nat) (f : D), e'[j]? = some (.op f) → ∃ d, e[j]? = some (.op d) := fun j f h => by
    by_cases hj : j ∈ S
    · obtain ⟨d, _, _, q1, _, _, _⟩ := ins j hj; exact ⟨d, q1⟩
    · rw [out j hj] at h; exact ⟨f, h⟩
  have hb : ∀ a ∈ A, Z.Hb a = none ∨ ∃ i ∈ Z.ios, a = Z.adr i := fun a ha => by
    obtain ⟨i, hi, hs⟩ := hA a ha
    obtain ⟨d', _, _, q1, _, _, _⟩ := ins i hi
    obtain ⟨b, r1, _, r3⟩ := R.op i d' q1
    rw [hs] at r1; cases r1
    exact r3.imp id fun ⟨x, y⟩ => ⟨i, x, y⟩
  refine ⟨hl.trans R.len, fun i d h => ?_, fun i d h => ?_, fun i j d f a h1 h2 h3 h4 => ?_, fun b o h n => ?_, fun i hi => ?_, fun p hp => ?_⟩
  · have hj : i ∉ S := fun hj => by
      obtain ⟨_, _, _, _, q, _, _⟩ := ins i hj
      rw [q] at h; cases h
    rw [out i hj] at h
    obtain ⟨v, h1, h2⟩ := R.fz i d h
    exact ⟨v, h1, h2.mono m⟩
  · by_cases hj : i ∈ S
    · obtain ⟨d0, f, a, q1, q2, q3, q4⟩ := ins i hj
      rw [q2] at h; cases h
      obtain ⟨b, r1, _, r3⟩ := R.op i d0 q1
      rw [q3] at r1; cases r1
      exact ⟨a, q3, q4, r3⟩
    · rw [out i hj] at h
      obtain ⟨a, r1, r2, r3⟩ := R.op i d h
      obtain ⟨u, hu, _⟩ := r2.there
      exact ⟨a, r1, r2.mono m ((fr a u hu (nA i d a hj h r1)).trans hu.symm), r3⟩
  · obtain ⟨d', h1'⟩ := op' i d h1
    obtain ⟨f', h2'⟩ := op' j f h2
    exact R.inj i j d' f' a h1' h2' h3 h4
  · refine fr b o (R.fr b o h n) fun hA' => ?_
    rcases hb b hA' with q | ⟨i, hi, q⟩
    · rw [h] at q; cases q
    · exact n i hi q
  · obtain ⟨⟨u, hu⟩, h1⟩ := R.io i hi
    refine ⟨?_, h1⟩
    by_cases hA' : Z.adr i ∈ A
    · obtain ⟨j, hj, hs⟩ := hA _ hA'
      obtain ⟨_, f, a, _, _, q3, q4⟩ := ins j hj
      rw [hs] at q3; cases q3
      obtain ⟨u', hu', _⟩ := q4.there
      exact ⟨u', hu'⟩
    · exact ⟨u, fr _ u hu hA'⟩
  · obtain ⟨h1, h2, h3, h4⟩ := R.tp p hp
    refine ⟨fr _ _ h1 fun hA' => ?_, h2, h3, fun j f hj => ?_⟩
    · obtain ⟨j, hj, hs⟩ := hA _ hA'
      obtain ⟨d0, _, _, q1, _, _, _⟩ := ins j hj
      exact h4 j d0 q1 hs
    · obtain ⟨d0, q⟩ := op' j f hj
      exact h4 j d0 q
end ZZ

namespace ZZ
open PySem PySem.Spec PyProof.Rows L2

/-! ### the arguments, at a call -/
theorem args_ok {K : PySem.W.Frag} {Z : ZC} {σ : SS} {H : Hp} {e : En} (R : Rel K Z σ H e) : ∀ {as : List Arg} {vs : List V} {ds full : List D}, ARel K σ H as vs ds → fillA as e ds = some full → ArgR K H (maskA as) vs full
  | [], [], [], full, _, h => by cases h; trivial
  | .v _ :: r, v :: vs, d :: ds, full, a, h => by
    simp only [fillA] at h
    obtain ⟨f', h1, rfl⟩ := Option.map_eq_some_iff.mp h
    exact ⟨a.1, args_ok R a.2 h1⟩
  | .io i :: r, v :: vs, _ :: ds, full, a, h => by
    simp only [fillA] at h
    split at h
    · rename_i d hd
      obtain ⟨f', h1, rfl⟩ := Option.map_eq_some_iff.mp h
      obtain ⟨x, hx, o, _⟩ := R.op i d hd
      rw [a.1] at hx; cases hx
      exact ⟨⟨x, rfl, o⟩, args_ok R a.2 h1⟩
    · cases h
  | [], [], _ :: _, _, a, _ => a.elim
  | [], _ :: _, _, _, a, _ => a.elim
  | .v _ :: _, [], _, _, a, _ => a.elim
  | .v _ :: _, _ :: _, [], _, a, _ => a.elim
  | .io _ :: _, [], _, _, a, _ => a.elim
  | .io _ :: _, _ :: _, [], _, a, _ => a.elim
def adrS (σ : SS) (i : Nat) : Addr := match σ[i]? with
  | some (some (.ref a)) => a
  | _ => 0
theorem fill_op {e : En} : ∀ {as : List Arg} {ds full : List D}, fillA as e ds = some full → ∀ j ∈ slA as, ∃ d, e[j]? = some (.op d)
  | [], [], full, h, j, hj => by cases hj
  | .v _ :: r, d :: ds, full, h, j, hj => by
    simp only [fillA] at h
    obtain ⟨f', h1, rfl⟩ := Option.map_eq_some_iff.mp h
    exact fill_op h1 j hj
  | .io i :: r, _ :: ds, full, h, j, hj => by
    simp only [fillA] at h
    split at h
    · rename_i d hd
      obtain ⟨f', h1, rfl⟩ := Option.map_eq_some_iff.mp h
      rcases List.mem_cons.mp hj with rfl | hj
      · exact ⟨d, hd⟩
      · exact fill_op h1 j hj
    · cases h
  | [], _ :: _, _, h, _, _ => by cases h
  | .v _ :: _, [], _, h, _, _ => by cases h
  | .io _ :: _, [], _, h, _, _ => by cases h
theorem adr_map {K : PySem.W.Frag} {σ : SS} {H : Hp} {ws : List V} : ∀ {as : List Arg} {vs : List V} {ds : List D} (k : Nat), ARel K σ H as vs ds → (∀ j : Nat, ws[k + j]? = vs[j]?) → (posT (maskA as) k).map (adrV ws) = (slA as).map (adrS σ)
  | [], [], [], k, _, _ => rfl
  | .v _ :: r, v :: vs, d :: ds, k, a, h => adr_map (k + 1) a.2 fun j => by
    have := h (j + 1)
    rw [List.getElem?_cons_succ] at this
    rw [← this]; congr 1; omega
  | .io i :: r, v :: vs, _ :: ds, k, a, h => by
    have ih := adr_map (ws := ws) (k + 1) a.2 fun j => by
      have := h (j + 1)
      rw [List.getElem?_cons_succ] at this
      rw [← this]; congr 1; omega
    have h0 : ws[k]? = some v := by simpa using h 0
    have e1 : adrV ws k = adrS σ i := by
      unfold adrV adrS
      rw [h0, a.1]
      cases v <;> rfl
    show adrV ws k :: _ = adrS σ i :: _
    rw [e1, ih]
  | [], [], _ :: _, _, a, _ => a.elim
  | [], _ :: _, _, _, a, _ => a.elim
  | .v _ :: _, [], _, _, a, _ => a.elim
  | .v _ :: _, _ :: _, [], _, a, _ => a.elim
  | .io _ :: _, [], _, _, a, _ => a.elim
  | .io _ :: _, _ :: _, [], _, a, _ => a.elim
theorem nodup_of_inj {α β : Type} {f : α → β} : ∀ {l : List α}, l.Nodup → (∀ x ∈ l, ∀ y ∈ l, f x = f y → x = y) → (l.map f).Nodup
  | [], _, _ => List.nodup_nil
  | a :: l, n, h => by
    rw [List.nodup_cons] at n
    rw [List.map_cons, List.nodup_cons]
    refine ⟨fun hm => ?_, nodup_of_inj n.2 fun x hx y hy => h x (List.mem_cons_of_mem _ hx) y (List.mem_cons_of_mem _ hy)⟩
    obtain ⟨x, hx, e⟩ := List.mem_map.mp hm
    have := h x (List.mem_cons_of_mem _ hx) a List.mem_cons_self e
    exact n.1 (this ▸ hx)
theorem put_spec : ∀ {as : List Arg} {outs : List D} {e e2 : En}, putA as outs e = some e2 → (slA as).Nodup → e2.length = e.length ∧ (∀ j : Nat, j ∉ slA as → e2[j]? = e[j]?) ∧
    ∀ (n j : Nat), (slA as)[n]? = some j → j < e.length → ∃ o, outs[n]? = some o ∧ e2[j]? = some (.op o)
  | [], [], e, e2, h, _ => by cases h; exact ⟨rfl, fun _ _ => rfl, fun n j h => by simp [slA] at h⟩
  | .v _ :: r, os, e, e2, h, n => put_spec (as := r) h n
  | .io i :: r, o :: os, e, e2, h, n => by
    have n' : i ∉ slA r ∧ (slA r).Nodup := List.nodup_cons.mp n
    obtain ⟨h1, h2, h3⟩ := put_spec (as := r) (e := e.set i (.op o)) h n'.2
    refine ⟨by rw [h1, List.length_set], fun j hj => ?_, fun m j hm hl => ?_⟩
    · have q : j ≠ i ∧ j ∉ slA r := ⟨fun x => hj (by rw [x]; exact List.mem_cons_self), fun x => hj (List.mem_cons_of_mem _ x)⟩
      rw [h2 j q.2, List.getElem?_set_ne (Ne.symm q.1)]
    · cases m with
      | zero =>
        have : i = j := by simpa [slA] using hm
        subst this
        exact ⟨o, rfl, by rw [h2 i n'.1, List.getElem?_set_self hl]⟩
      | succ m => exact h3 m j (by simpa [slA] using hm) (by rw [List.length_set]; exact hl)
  | [], _ :: _, _, _, h, _ => by cases h
  | .io _ :: _, [], _, _, h, _ => by cases h
theorem out_get {K : PySem.W.Frag} {H : Hp} {vs : List V} : ∀ {is : List Nat} {os : List D}, OutR K H vs is os → ∀ (n i : Nat) (o : D), is[n]? = some i → os[n]? = some o → Opn K H (adrV vs i) o
  | [], [], _, n, i, o, h, _ => by simp at h
  | i :: is, o :: os, r, 0, j, p, h1, h2 => by simp at h1 h2; subst h1 h2; exact r.1
  | i :: is, o :: os, r, n + 1, j, p, h1, h2 => out_get r.2 n j p (by simpa using h1) (by simpa using h2)
  | [], _ :: _, r, _, _, _, _, _ => r.elim
  | _ :: _, [], r, _, _, _, _, _ => r.elim
theorem ARel.len {K : PySem.W.Frag} {σ : SS} {H : Hp} : ∀ {as : List Arg} {vs : List V} {ds : List D}, ARel K σ H as vs ds → vs.length = as.length
  | [], [], [], _ => rfl
  | .v _ :: r, v :: vs, d :: ds, h => by rw [List.length_cons, List.length_cons, ARel.len h.2]
  | .io i :: r, v :: vs, _ :: ds, h => by rw [List.length_cons, List.length_cons, ARel.len h.2]
  | [], [], _ :: _, h => h.elim
  | [], _ :: _, _, h => h.elim
  | .v _ :: _, [], _, h => h.elim
  | .v _ :: _, _ :: _, [], h => h.elim
  | .io _ :: _, [], _, h => h.elim
  | .io _ :: _, _ :: _, [], h => h.elim
/-- what the callee is asked, from the caller's side -/
theorem sp_call {K : PySem.W.Frag} {Z : ZC} {σ : SS} {H : Hp} {e e2 : En} {as : List Arg} {vs : List V} {ds full : List D} {opn : Bool} {F : List D → FO} {d : D} {outs : List D} {Q : VK} {E : XK} (R : Rel K Z σ H e) (a : ARel K σ H as vs ds) (hf : fillA as e ds = some full) (hF : F full = .ok d outs) (hp : putA as outs e = some e2) (nd : (slA as).Nodup)
    (q : ∀ v H', Mono H H' → Rel K Z σ H' e2 → RetR K opn H H' v d → (opn = true → ∀ x, v = .ref x → H x = none → NewO K Z σ e2 H' v d) → Q v H') : spF K (maskA as) opn F vs H Q E := by
  have hop := fill_op hf
  have sl : ∀ j ∈ slA as, ∃ d x, e[j]? = some (.op d) ∧ σ[j]? = some (some (.ref x)) ∧ adrS σ j = x := fun j hj => by
    obtain ⟨d, hd⟩ := hop j hj
    obtain ⟨x, hx, _⟩ := R.op j d hd
    exact ⟨d, x, hd, hx, by unfold adrS; rw [hx]⟩
  have em : (posT (maskA as) 0).map (adrV vs) = (slA as).map (adrS σ) := adr_map 0 a fun j => by simp
  refine ⟨full, args_ok R a hf, ?_, ?_⟩
  · rw [em]
    refine nodup_of_inj nd fun x hx y hy hxy => ?_
    obtain ⟨d1, a1, p1, p2, p3⟩ := sl x hx
    obtain ⟨d2, a2, q1, q2, q3⟩ := sl y hy
    rw [p3, q3] at hxy
    subst hxy
    exact R.inj x y d1 d2 a1 p1 q1 p2 q2
  · rw [hF]
    intro v H' m fr o r
    obtain ⟨h1, h2, h3⟩ := put_spec hp nd
    have R2 : Rel K Z σ H' e2 := by
      refine rel_after (S := slA as) R m fr h1 h2 (fun j hj => ?_) fun x hx => ?_
      · obtain ⟨d1, x, p1, p2, p3⟩ := sl j hj
        obtain ⟨n, hn⟩ := List.getElem?_of_mem hj
        obtain ⟨o1, q1, q2⟩ := h3 n j hn (lt_of_get p1)
        refine ⟨d1, o1, x, p1, q2, p2, ?_⟩
        have e1 : ((posT (maskA as) 0).map (adrV vs))[n]? = some x := by rw [em, List.getElem?_map, hn, ← p3]; rfl
        rw [List.getElem?_map] at e1
        obtain ⟨p, hp, rfl⟩ := Option.map_eq_some_iff.mp e1
        exact out_get o n p o1 hp q1
      · rw [em] at hx
        obtain ⟨j, hj, rfl⟩ := List.mem_map.mp hx
        obtain ⟨d1, x, p1, p2, p3⟩ := sl j hj
        exact ⟨j, hj, by rw [p3]; exact p2⟩
    refine q v H' m R2 r fun ho x hv hx => ?_
    subst ho
    obtain ⟨y, rfl, o1, _⟩ := r
    cases hv
    obtain ⟨b1, b2, b3⟩ := R.fresh hx
    refine ⟨x, rfl, o1, b1, fun i f hi => ?_, b3⟩
    by_cases hj : i ∈ slA as
    · obtain ⟨d1, y, p1, p2, _⟩ := sl i hj
      exact b2 i d1 p1
    · rw [h2 i hj] at hi
      exact b2 i f hi
section
variable {X : Cx} {Z : ZC} {pos p : Pos}
theorem runG {CX : CXT} {k : Nat} {f : Addr} {fd : FuncData} {ps : List Str} {sp : Sp} {E : XK} {pins : List (Addr × Obj)} {σ : SS} {H : Hp} {s : Shared} {Q : VK} {us : List Value} {vs : List V} (F : FnG X.prog X.w X.K X.mg X.base CX k f fd ps sp) (hr : Room k X.A) (hgd : X.A.guards = some []) {as : Args} (hb : BindsTo s fd as (ps.zip us)) (hx : Passes CX X E)
    (I : Inv X pins σ H s) (r : Vals vs us) (h : sp vs H Q E) : codeAny (model X.prog X.w) X.A (.call (.ref f) as) (fun r s' => match r with
      | .ok (.ret u) => EP X pins σ Q u s'
      | .ok _ => False
      | .error e => X.xe e s') s := by
  refine codeAny_mono (F.rn X.A X.stack s H as us vs Q E hr hgd I.env0 hb r h) fun r s' hq => ?_
  cases r with
  | error e => exact hx pins σ H s e s' I hq
  | ok fl =>
    cases fl with
    | ret u => exact I.after hq
    | next => exact hq.elim
    | brk => exact hq.elim
    | cont => exact hq.elim
theorem t_call {K : PySem.W.Frag} {as : List Arg} {F : List D → FO} {Q : VK} {E : XK} {σ : SS} {H : Hp} (nd : (slA as).Nodup) (p : tM K Z (callM F as) σ H Q) : tA K Z as σ H fun vs H1 => spF K (maskA as) false F vs H1 Q E := by
  obtain ⟨e, R, p⟩ := p
  refine ⟨e, R, pst_bnd p fun vs H1 ds e1 m1 R1 r1 p1 => ?_⟩
  cases hf : fillA as e1 ds with
  | none => rw [hf] at p1; exact p1.elim
  | some full =>
    rw [hf] at p1
    dsimp only at p1
    cases hF : F full with
    | ok d outs =>
      rw [hF] at p1
      dsimp only at p1
      cases hp : putA as outs e1 with
      | none => rw [hp] at p1; exact p1.elim
      | some e2 =>
        rw [hp] at p1
        exact sp_call R1 r1 hf hF hp nd fun v H' m R2 r _ => p1 v H' m R2 r
    | exc x outs => rw [hF] at p1; exact p1.elim
    | no => rw [hF] at p1; exact p1.elim
theorem t_callO {K : PySem.W.Frag} {as : List Arg} {F : List D → FO} {Q : VK} {E : XK} {σ : SS} {H : Hp} (nd : (slA as).Nodup) (p : tO K Z (callM F as) σ H Q) : tA K Z as σ H fun vs H1 => spF K (maskA as) true F vs H1 Q E := by
  obtain ⟨e, R, p⟩ := p
  refine ⟨e, R, pst_bnd p fun vs H1 ds e1 m1 R1 r1 p1 => ?_⟩
  cases hf : fillA as e1 ds with
  | none => rw [hf] at p1; exact p1.elim
  | some full =>
    rw [hf] at p1
    dsimp only at p1
    cases hF : F full with
    | ok d outs =>
      rw [hF] at p1
      dsimp only at p1
      cases hp : putA as outs e1 with
      | none => rw [hp] at p1; exact p1.elim
      | some e2 =>
        rw [hp] at p1
        exact sp_call R1 r1 hf hF hp nd fun v H' m R2 r o => by
          obtain ⟨x, hv, o1, hx⟩ := r
          exact p1 v H' m R2 (o rfl x hv hx)
    | exc x outs => rw [hF] at p1; exact p1.elim
    | no => rw [hF] at p1; exact p1.elim
theorem call_v {f : Addr} {fd : FuncData} {ps : List Str} {k : Nat} {sp : Sp} {x : Str} {a : Expr} {es : List Expr} {t : TA} (G : FnG X.prog X.w X.K X.mg X.base CX0 k f fd ps sp) (hr : Room k X.A) (hgd : X.A.guards = some []) (hg : Gl X x) (hm : X.mg x = some (.ref f)) (hk : PySem.W.keepIn X.K (.ref f) = true) (hb : Binds X.K fd ps [])
    (ha : PA X (a :: es) t) (hdb : (x == ("__debug__" : Str)) = false := by decide) (he : starEach (a :: es) X.env = (false, eval a X.env) :: starEach es X.env := by rfl) (hpl : (backTo pos (starEach es X.env)).any (·.1) = false := by rfl) :
    PE X (.Call (.Name x p) (a :: es) [] pos) (fun σ H Q => t σ H fun vs H1 => sp vs H1 Q E0) := by
  refine ⟨fun pins s σ H Q I h => wpAny_Call_Name_kw (ld_glob I hg hm (PySem.W.callWith_K (h₀ := X.base) I.ok.mod.kin hk (thn (ha.run pos pins s σ H _ I h) fun us s1 ⟨vs, H1, I1, r, q⟩ => ⟨I1.kIn, ?_⟩) he hpl) hdb)⟩
  have hl : (us ++ []).length = ps.length := by
    rw [List.append_nil, ← r.length]; exact G.ln _ _ _ _ q
  have hb' := hb s1 us I1.kIn hl
  rw [List.append_nil] at hb'
  refine wpAny_call (codeAny_mono (runG G hr hgd hb' pass0 I1 r q) fun r s' hq => ?_)
  cases r with
  | error e => exact hq
  | ok fl => cases fl <;> first | exact hq | exact hq.elim
theorem e_call {f : Addr} {fd : FuncData} {ps : List Str} {k : Nat} {mask : List Bool} {F : List D → FO} {x : Str} {a : Expr} {es : List Expr} {as : List Arg} (G : FnG X.prog X.w X.K X.mg X.base CX0 k f fd ps (spF X.K mask false F)) (hr : Room k X.A) (hgd : X.A.guards = some []) (hg : Gl X x) (hm : X.mg x = some (.ref f)) (hk : PySem.W.keepIn X.K (.ref f) = true) (hb : Binds X.K fd ps [])
    (ha : PA X (a :: es) (tA X.K Z as)) (hmk : maskA as = mask := by rfl) (nd : (slA as).Nodup := by decide) (hdb : (x == ("__debug__" : Str)) = false := by decide) (he : starEach (a :: es) X.env = (false, eval a X.env) :: starEach es X.env := by rfl) (hpl : (backTo pos (starEach es X.env)).any (·.1) = false := by rfl) :
    PE X (.Call (.Name x p) (a :: es) [] pos) (tM X.K Z (callM F as)) := by
  subst hmk
  exact PE_weak (call_v G hr hgd hg hm hk hb ha hdb he hpl) fun σ H Q q => t_call nd q
theorem e_callO {f : Addr} {fd : FuncData} {ps : List Str} {k : Nat} {mask : List Bool} {F : List D → FO} {x : Str} {a : Expr} {es : List Expr} {as : List Arg} (G : FnG X.prog X.w X.K X.mg X.base CX0 k f fd ps (spF X.K mask true F)) (hr : Room k X.A) (hgd : X.A.guards = some []) (hg : Gl X x) (hm : X.mg x = some (.ref f)) (hk : PySem.W.keepIn X.K (.ref f) = true) (hb : Binds X.K fd ps [])
    (ha : PA X (a :: es) (tA X.K Z as)) (hmk : maskA as = mask := by rfl) (nd : (slA as).Nodup := by decide) (hdb : (x == ("__debug__" : Str)) = false := by decide) (he : starEach (a :: es) X.env = (false, eval a X.env) :: starEach es X.env := by rfl) (hpl : (backTo pos (starEach es X.env)).any (·.1) = false := by rfl) :
    PE X (.Call (.Name x p) (a :: es) [] pos) (tO X.K Z (callM F as)) := by
  subst hmk
  exact PE_weak (call_v G hr hgd hg hm hk hb ha hdb he hpl) fun σ H Q q => t_callO nd q
end
end ZZ

namespace ZZ
open PySem PySem.Spec PyProof.Rows L2

/-! ### statements -/
def sNx : M Fl := ret .nx
def sSeq (s t : M Fl) : M Fl := bnd s fun f => match f with
  | .nx => t
  | f => ret f
theorem pstS_mono {K : PySem.W.Frag} {Z : ZC} {D : Ends} {σ σ2 : SS} {H H' : Hp} {o : Out Fl} (h : pstS K Z D σ H o) (m : Mono H H') : pstS K Z D σ2 H' o := by
  cases o with
  | ok f e =>
    cases f with
    | nx => exact fun s H2 m2 R => h s H2 (m.trans m2) R
    | bk => exact fun s H2 m2 R => h s H2 (m.trans m2) R
    | ct => exact fun s H2 m2 R => h s H2 (m.trans m2) R
    | rt d => exact fun s v H2 m2 R r => h s v H2 (m.trans m2) R r
    | ro d => exact fun s v H2 m2 R r => h s v H2 (m.trans m2) R r
  | exc x e => exact fun s H2 m2 R => h s H2 (m.trans m2) R
  | no => exact h
/-- from an expression on -/
theorem pstS_bnd {K : PySem.W.Frag} {Z : ZC} {β α : Type} {r : RR β α} {σ : SS} {H : Hp} {D : Ends} {m : M α} {f : α → M Fl} {e : En} {Q : β → Hp → Prop} (h : pstS K Z D σ H (bnd m f e))
    (k : ∀ b H1 d e1, m e = .ok d e1 → Mono H H1 → Rel K Z σ H1 e1 → r σ e1 H1 b d → pstS K Z D σ H1 (f d e1) → Q b H1) : pst K Z r σ H Q (m e) := by
  unfold bnd at h
  cases q : m e with
  | ok d e1 =>
    rw [q] at h
    exact fun b H1 m1 R p => k b H1 d e1 q m1 R p (pstS_mono h m1)
  | exc x e1 =>
    rw [q] at h
    exact fun H' m1 R => h σ H' m1 R
  | no => rw [q] at h; exact h
section
variable {X : Cx} {Z : ZC} {pos : Pos}
theorem s_nil : PSs X [] (tS X.K Z sNx) := PSs_weak pss_nil fun D σ H ⟨e, R, p⟩ => p σ H .refl R
theorem s_cons {st : Stmt} {rest : List Stmt} {a b : M Fl} (h : PS X st (tS X.K Z a)) (k : PSs X rest (tS X.K Z b)) : PSs X (st :: rest) (tS X.K Z (sSeq a b)) :=
  PSs_weak (pss_cons h k) fun D σ H ⟨e, R, p⟩ => ⟨e, R, by
    have p : pstS X.K Z D σ H (bnd a (fun f => match f with | .nx => b | f => ret f) e) := p
    unfold bnd at p
    cases q : a e with
    | ok f e1 =>
      rw [q] at p
      cases f with
      | nx => exact fun σ' H' m R' => ⟨e1, R', pstS_mono p m⟩
      | rt d => exact p
      | ro d => exact p
      | bk => exact p
      | ct => exact p
    | exc x e1 => rw [q] at p; exact p
    | no => rw [q] at p; exact p⟩
theorem s_one {st : Stmt} {a : M Fl} (h : PS X st (tS X.K Z a)) : PSs X [st] (tS X.K Z a) := pss_one h
def sBk : M Fl := ret .bk
def sCt : M Fl := ret .ct
theorem s_pass : PS X (.Pass pos) (tS X.K Z sNx) := PS_weak ps_pass fun D σ H ⟨e, R, p⟩ => p σ H .refl R
theorem s_break : PS X (.Break pos) (tS X.K Z sBk) := PS_weak ps_break fun D σ H ⟨e, R, p⟩ => p σ H .refl R
theorem s_cont : PS X (.Continue pos) (tS X.K Z sCt) := PS_weak ps_continue fun D σ H ⟨e, R, p⟩ => p σ H .refl R
/-- a statement that no way reaches -/
def sNo : M Fl := fun _ => .no
theorem s_no {st : Stmt} : PS X st (tS X.K Z sNo) := PS_weak ps_never fun D σ H ⟨e, R, p⟩ => p
def sExpr (m : M D) : M Fl := bnd m fun _ => ret .nx
theorem s_expr {e : Expr} {m : M D} (h : PE X e (tM X.K Z m)) (hs : swapsWith e none pos.line X.env = pure false := by rfl) : PS X (.Expr e pos) (tS X.K Z (sExpr m)) :=
  PS_weak (ps_expr h hs) fun D σ H ⟨en, R, p⟩ => ⟨en, R, pstS_bnd p fun v H1 d e1 _ m1 R1 r1 p1 => p1 σ H1 .refl R1⟩
def sRet (m : M D) : M Fl := bnd m fun d => ret (.rt d)
theorem s_ret {e : Expr} {m : M D} (h : PE X e (tM X.K Z m)) : PS X (.Return (some e) pos) (tS X.K Z (sRet m)) :=
  PS_weak (ps_ret h) fun D σ H ⟨en, R, p⟩ => ⟨en, R, pstS_bnd p fun v H1 d e1 _ m1 R1 r1 p1 => p1 σ v H1 .refl R1 r1⟩
def sRetN : M Fl := ret (.rt .none)
theorem s_retN : PS X (.Return none pos) (tS X.K Z sRetN) := PS_weak ps_retN fun D σ H ⟨e, R, p⟩ => p σ .non H .refl R .non
/-- an open thing is handed back -/
def sRetO (m : M D) : M Fl := bnd m fun d => ret (.ro d)
theorem s_retO {e : Expr} {m : M D} (h : PE X e (tO X.K Z m)) : PS X (.Return (some e) pos) (tS X.K Z (sRetO m)) :=
  PS_weak (ps_ret h) fun D σ H ⟨en, R, p⟩ => ⟨en, R, pstS_bnd p fun v H1 d e1 _ m1 R1 r1 p1 => by
    obtain ⟨a, rfl, o, hb, _⟩ := r1
    exact p1 σ a H1 .refl R1 o hb⟩
def vo (i : Nat) : M D := fun e => match e[i]? with
  | some (.op d) => .ok d e
  | _ => .no
theorem s_retV {e : Expr} {i : Nat} (h : PE X e (tVar i)) (hi : i ∉ Z.ios) : PS X (.Return (some e) pos) (tS X.K Z (sRetO (vo i))) :=
  PS_weak (ps_ret h) fun D σ H ⟨en, R, p⟩ => by
    have p : pstS X.K Z D σ H (bnd (vo i) (fun d => ret (.ro d)) en) := p
    unfold bnd vo at p
    split at p
    · rename_i d e1 h1
      split at h1
      · cases h1
        rename_i hd
        obtain ⟨a, ha, o, hb⟩ := R.op i _ hd
        exact ⟨.ref a, ha, p σ a H .refl R o (hb.resolve_right fun q => hi q.1)⟩
      · cases h1
    · rename_i h1; split at h1 <;> cases h1
    · exact p.elim
def sIf (c : M Bool) (s t : M Fl) : M Fl := bnd c fun b => if b = true then s else t
theorem s_if {c : Expr} {a b : List Stmt} {mc : M Bool} {s t : M Fl} (hc : PT X c (tT X.K Z mc)) (ha : PSs X a (tS X.K Z s)) (hb : PSs X b (tS X.K Z t)) : PS X (.If c a b pos) (tS X.K Z (sIf mc s t)) :=
  PS_weak (ps_if hc ha hb) fun D σ H ⟨en, R, p⟩ => ⟨en, R, pstS_bnd p fun v H1 d e1 _ m1 R1 r1 p1 => by
    cases r1
    cases v with
    | true => rw [if_pos rfl] at p1 ⊢; exact ⟨e1, R1, p1⟩
    | false => rw [if_neg Bool.false_ne_true] at p1 ⊢; exact ⟨e1, R1, p1⟩⟩

/-! ### targets -/
def setN (i : Nat) (d : D) (e : En) : Option En := match e[i]? with
  | some _ => some (e.set i (.fz d))
  | none => none
def setNs : List Nat → List D → En → Option En
  | [], [], e => some e
  | i :: is, d :: ds, e => (setN i d e).bind (setNs is ds)
  | _, _, _ => none
def gsN : List Nat → TGs
  | [] => gNil
  | i :: is => gCons (gName i) (gsN is)
theorem rel_setN {K : PySem.W.Frag} {σ : SS} {H : Hp} {e e' : En} {i : Nat} {v : V} {d : D} (R : Rel K Z σ H e) (r : Rp K H v d) (h : setN i d e = some e') (hi : i ∉ Z.ios) : Rel K Z (σ.set i (some v)) H e' := by
  unfold setN at h
  split at h
  · rename_i hs
    cases h
    exact R.setF (lt_of_get hs) hi r
  · cases h
theorem g_ns {K : PySem.W.Frag} {H : Hp} {Q : SS → Hp → Prop} : ∀ {is : List Nat} {σ : SS} {e e' : En} {vs : List V} {ds : List D}, Rel K Z σ H e → RpA K H vs ds → setNs is ds e = some e' → (∀ i ∈ is, i ∉ Z.ios) → (∀ σ', Rel K Z σ' H e' → Q σ' H) → gsN is vs σ H Q
  | [], σ, e, e', vs, [], R, r, h, _, q => by
    cases r
    cases h
    exact ⟨rfl, q σ R⟩
  | i :: is, σ, e, e', vs, d :: ds, R, r, h, hi, q => by
    cases r with
    | cons r1 r2 =>
      simp only [setNs] at h
      obtain ⟨e1, h1, h2⟩ := Option.bind_eq_some_iff.mp h
      exact ⟨_, _, rfl, g_ns (rel_setN R r1 h1 (hi i List.mem_cons_self)) r2 h2 (fun j hj => hi j (List.mem_cons_of_mem _ hj)) q⟩
  | [], _, _, _, _, _ :: _, _, _, h, _, _ => by cases h
  | _ :: _, _, _, _, _, [], _, _, h, _, _ => by cases h
/-- what a target does with data -/
def TgOk (K : PySem.W.Frag) (Z : ZC) (g : TG) (f : D → En → Option En) : Prop := ∀ (σ : SS) (H : Hp) (e e' : En) (v : V) (d : D) (Q : SS → Hp → Prop), Rel K Z σ H e → Rp K H v d → f d e = some e' → (∀ σ', Rel K Z σ' H e' → Q σ' H) → g v σ H Q
theorem tg_n {K : PySem.W.Frag} {i : Nat} (hi : i ∉ Z.ios) : TgOk K Z (gName i) (setN i) := fun σ H e e' v d Q R r h q => q _ (rel_setN R r h hi)
def setT (is : List Nat) : D → En → Option En
  | .tuple ds, e => setNs is ds e
  | .list ds, e => setNs is ds e
  | _, _ => none
theorem setNs_len : ∀ {is : List Nat} {ds : List D} {e e' : En}, setNs is ds e = some e' → ds.length = is.length
  | [], [], _, _, _ => rfl
  | i :: is, d :: ds, e, e', h => by
    simp only [setNs] at h
    obtain ⟨e1, h1, h2⟩ := Option.bind_eq_some_iff.mp h
    rw [List.length_cons, List.length_cons, setNs_len h2]
  | [], _ :: _, _, _, h => by cases h
  | _ :: _, [], _, _, h => by cases h
def gSeqT (K : PySem.W.Frag) (is : List Nat) : TG := fun v σ H Q => gTup K is.length (gsN is) v σ H Q ∨ gUnl K is.length (gsN is) v σ H Q
theorem tg_t {K : PySem.W.Frag} {is : List Nat} (hi : ∀ i ∈ is, i ∉ Z.ios) : TgOk K Z (gSeqT K is) (setT is) := fun σ H e e' v d Q R r h q => by
  cases d with
  | tuple ds =>
    obtain ⟨a, xs, rfl, ha, ra⟩ := rp_tup r
    exact .inl ⟨a, xs, rfl, ha, ra.length.trans (setNs_len h), g_ns R ra h hi q⟩
  | list ds =>
    obtain ⟨a, xs, rfl, ha, ra⟩ := rp_lst r
    exact .inr ⟨a, xs, rfl, ha, ra.length.trans (setNs_len h), g_ns R ra h hi q⟩
  | _ => cases h
theorem pg_or {tg : Expr} {g g' : TG} (h : PG X tg g) (h' : PG X tg g') : PG X tg (fun v σ H Q => g v σ H Q ∨ g' v σ H Q) := ⟨fun pins s σ H v u Q I r q => q.elim (h.run pins s σ H v u Q I r) (h'.run pins s σ H v u Q I r)⟩
theorem pg_seq {es : List Expr} {k : Nat} {is : List Nat} (hc : X.calm = true) (h : PGs X es (gsN is)) (hn : (assignEach es X.env).length = is.length := by rfl) (hst : (assignEach es X.env).findIdx? (·.1) = none := by rfl) : PG X (.Tuple es k pos) (gSeqT X.K is) :=
  pg_or (pg_tup hc h hn hst) (pg_unl hc h hn hst)
/-- target = e -/
def sAsg (f : D → En → Option En) (m : M D) : M Fl := bnd m fun d e => match f d e with
  | some e' => .ok .nx e'
  | none => .no
theorem t_asg {K : PySem.W.Frag} {g : TG} {f : D → En → Option En} (hg : TgOk K Z g f) {m : M D} {D : Ends} {σ : SS} {H : Hp} (p : tS K Z (sAsg f m) D σ H) : tAsg (tM K Z m) g D σ H := by
  obtain ⟨e, R, p⟩ := p
  refine ⟨e, R, pstS_bnd p fun v H1 d e1 _ m1 R1 r1 p1 => ?_⟩
  cases h : f d e1 with
  | none => rw [h] at p1; exact p1.elim
  | some e2 =>
    rw [h] at p1
    exact hg σ H1 e1 e2 v d _ R1 r1 h fun σ' R' => p1 σ' H1 .refl R'
theorem s_set {i : Nat} {x : Str} {e : Expr} {m : M D} {pos' : Pos} (hN : X.N.Nodup) (hi : X.N[i]? = some x) (hx : Loc X.env.scope x) (hio : i ∉ Z.ios) (h : PE X e (tM X.K Z m)) (hs : swapsWith e (some (.Name x pos')) pos.line X.env = pure false := by rfl)
    (hf : X.fn x = true ∨ X.env.scope.names.lookup x = some .local := by first | exact .inl rfl | exact .inr rfl | assumption) : PS X (.Assign [.Name x pos'] e pos) (tS X.K Z (sAsg (setN i) m)) :=
  PS_weak (ps_set hN hi hx h hs hf) fun D σ H p => t_asg (tg_n hio) p
theorem s_tup {tg e : Expr} {m : M D} {is : List Nat} (hg : PG X tg (gSeqT X.K is)) (hio : ∀ i ∈ is, i ∉ Z.ios) (h : PE X e (tM X.K Z m)) (hs : swapsWithSole [tg] e pos.line X.env = pure false := by rfl) (hw : swappedStores [tg] e X.env = pure none := by rfl)
    (h1 : (assignEach [tg] X.env).map (·.2) = [assign tg X.env] := by rfl) : PS X (.Assign [tg] e pos) (tS X.K Z (sAsg (setT is) m)) :=
  PS_weak (ps_asg h hg hs hw h1) fun D σ H p => t_asg (tg_t hio) p
/-- x = a new thing, open -/
def setO (i : Nat) (d : D) (e : En) : Option En := match e[i]? with
  | some _ => some (e.set i (.op d))
  | none => none
def sAsgO (i : Nat) (m : M D) : M Fl := bnd m fun d e => match setO i d e with
  | some e' => .ok .nx e'
  | none => .no
theorem rel_setO {K : PySem.W.Frag} {σ : SS} {H : Hp} {e e' : En} {i : Nat} {v : V} {d : D} (R : Rel K Z σ H e) (r : NewO K Z σ e H v d) (h : setO i d e = some e') (hi : i ∉ Z.ios) : Rel K Z (σ.set i (some v)) H e' := by
  obtain ⟨a, rfl, o, hb, hs, ht⟩ := r
  unfold setO at h
  split at h
  · rename_i q
    cases h
    exact R.setO (lt_of_get q) hi o hb hs ht
  · cases h
theorem t_asgO {K : PySem.W.Frag} {i : Nat} {m : M D} {D : Ends} {σ : SS} {H : Hp} (hio : i ∉ Z.ios) (p : tS K Z (sAsgO i m) D σ H) : tAsg (tO K Z m) (gName i) D σ H := by
  obtain ⟨e, R, p⟩ := p
  refine ⟨e, R, pstS_bnd p fun v H1 d e1 _ m1 R1 r1 p1 => ?_⟩
  cases h : setO i d e1 with
  | none => rw [h] at p1; exact p1.elim
  | some e2 =>
    rw [h] at p1
    exact p1 _ H1 .refl (rel_setO R1 r1 h hio)
theorem s_setO {i : Nat} {x : Str} {e : Expr} {m : M D} {pos' : Pos} (hN : X.N.Nodup) (hi : X.N[i]? = some x) (hx : Loc X.env.scope x) (hio : i ∉ Z.ios) (h : PE X e (tO X.K Z m)) (hs : swapsWith e (some (.Name x pos')) pos.line X.env = pure false := by rfl)
    (hf : X.fn x = true ∨ X.env.scope.names.lookup x = some .local := by first | exact .inl rfl | exact .inr rfl | assumption) : PS X (.Assign [.Name x pos'] e pos) (tS X.K Z (sAsgO i m)) :=
  PS_weak (ps_set hN hi hx h hs hf) fun D σ H p => t_asgO hio p
/-- behind a statement something open is locked -/
theorem ps_lk {st : Stmt} {t : TS} (h : PS X st t) : PS X st (fun D σ H => t { D with nx := fun σ' H' => D.nx σ' H' ∨ ∃ a u, H' a = some u ∧ Mut (some u) ∧ ∀ od, D.nx σ' (upd H' a (.frz od u)) } σ H) := by
  refine ⟨fun pins s σ H D I q => thn (h.run pins s σ H _ I q) fun f s' hf => ?_⟩
  cases f with
  | next =>
    obtain ⟨σ', H', I', q'⟩ := hf
    rcases q' with q' | ⟨a, u, hu, mu, q'⟩
    · exact ⟨σ', H', I', q'⟩
    · obtain ⟨od, I2⟩ := I'.lock hu mu
      exact ⟨σ', _, I2, q' od⟩
  | ret u => exact hf
  | brk => exact hf
  | cont => exact hf
theorem t_asgL {K : PySem.W.Frag} {i : Nat} {m : M D} {D : Ends} {σ : SS} {H : Hp} (hio : i ∉ Z.ios) (p : tS K Z (sAsg (setN i) m) D σ H) : tAsg (tO K Z m) (gName i) { D with nx := fun σ' H' => D.nx σ' H' ∨ ∃ a u, H' a = some u ∧ Mut (some u) ∧ ∀ od, D.nx σ' (upd H' a (.frz od u)) } σ H := by
  obtain ⟨e, R, p⟩ := p
  refine ⟨e, R, pstS_bnd p fun v H1 d e1 _ m1 R1 r1 p1 => ?_⟩
  cases h : setN i d e1 with
  | none => rw [h] at p1; exact p1.elim
  | some e2 =>
    rw [h] at p1
    obtain ⟨a, rfl, o, hb, hs, ht⟩ := r1
    obtain ⟨u, hu, mu⟩ := o.there
    exact .inr ⟨a, u, hu, mu, fun od => p1 _ _ (mono_upd hu mu) (rel_setN (R1.other hu mu hb hs ht) (o.lock hu (fun _ => mono_upd hu mu) od) h hio)⟩

/-! ### changes of an open slot -/
/-- x[i] = v, x an open slot -/
def setIx (xs : List D) (k : Int) (v : D) : Option (List D) := (ixN xs.length k).map fun j => xs.set j v
def sSetIx (i : Nat) (mk mv : M D) : M Fl := bnd mv fun v => bnd (chkO i) fun _ => bnd mk fun k e => match k with
  | .int k => (match e[i]? with
    | some (.op (.list xs)) => (match setIx xs k v with | some ys => .ok .nx (e.set i (.op (.list ys))) | none => .no)
    | _ => .no)
  | _ => .no
theorem chkO_ok {K : PySem.W.Frag} {σ : SS} {H : Hp} {D : Ends} {i : Nat} {f : Unit → M Fl} {e : En} (R : Rel K Z σ H e) (p : pstS K Z D σ H (bnd (chkO i) f e)) : ∃ a d, e[i]? = some (.op d) ∧ σ[i]? = some (some (.ref a)) ∧ pstS K Z D σ H (f () e) := by
  unfold bnd chkO at p
  split at p
  · rename_i u e1 h1
    split at h1
    · cases h1
      rename_i d hd
      obtain ⟨a, ha, _⟩ := R.op i d hd
      exact ⟨a, d, hd, ha, p⟩
    · cases h1
  · rename_i h1; split at h1 <;> cases h1
  · exact p.elim
theorem s_setIx {i : Nat} {o k e : Expr} {mk mv : M D} {p2 : Pos} (ho : PE X o (tVar i)) (hk : PE X k (tM X.K Z mk)) (hv : PE X e (tM X.K Z mv)) (hs : swapsWithSole [.Subscript o k p2] e pos.line X.env = pure false := by rfl) (hw : swappedStores [.Subscript o k p2] e X.env = pure none := by rfl)
    (h1 : (assignEach [.Subscript o k p2] X.env).map (·.2) = [assign (.Subscript o k p2) X.env] := by rfl)
    (ha : ∀ v, assign (.Subscript o k p2) X.env v = (do
      let ov ← holding [v] (eval o X.env)
      let iv ← holding [v, ov] (eval k X.env)
      standAt p2
      holding [v, ov, iv] (setItem ov iv v)
      release [v, ov, iv] []) := by intro _; rfl) : PS X (.Assign [.Subscript o k p2] e pos) (tS X.K Z (sSetIx i mk mv)) :=
  PS_weak (ps_asg hv (pg_sub ho hk set_list ha) hs hw h1) fun D σ H ⟨en, R, p⟩ => ⟨en, R, pstS_bnd p fun v H1 d e1 _ m1 R1 r1 p1 => by
    obtain ⟨a, d0, hd0, ha, p2⟩ := chkO_ok R1 p1
    refine ⟨.ref a, ha, e1, R1, pstS_bnd p2 fun w H2 kd e2 _ m2 R2 r2 p3 => ?_⟩
    cases kd with
    | int kk =>
      cases rp_int r2
      have p3 : pstS X.K Z D σ H2 (match e2[i]? with
        | some (.op (.list xs)) => (match setIx xs kk d with | some ys => .ok .nx (e2.set i (.op (.list ys))) | none => .no)
        | _ => .no) := p3
      split at p3
      · rename_i xs h2
        split at p3
        · rename_i ys hy
          obtain ⟨b, hb, ⟨vs, hvs, ra⟩, _⟩ := R2.op i (.list xs) h2
          rw [ha] at hb; cases hb
          unfold setIx at hy
          obtain ⟨j, hj, rfl⟩ := Option.map_eq_some_iff.mp hy
          refine ⟨a, vs, kk, j, rfl, rfl, hvs, by rw [ra.length]; exact hj, ?_⟩
          have mo : Mono H2 (upd H2 a (.lst (vs.set j v))) := mono_upd hvs trivial
          exact p3 σ _ mo (R2.mut h2 ha hvs trivial ⟨_, upd_same, (ra.mono mo).set ((Rp.mono m2 r1).mono mo) j⟩)
        · exact p3.elim
      · exact p3.elim
    | _ => exact p3.elim⟩
/-- x.append(e) -/
def sApp (i : Nat) (m : M D) : M Fl := bnd (chkO i) fun _ => bnd m fun v e => match e[i]? with
  | some (.op (.list xs)) => if xs.length < sizeLine then .ok .nx (e.set i (.op (.list (xs ++ [v])))) else .no
  | _ => .no
theorem tyL {K : PySem.W.Frag} {H : Hp} {a : Addr} {xs : List V} (h : H a = some (.lst xs)) : tyV K "list" (.ref a) H := Or.inl ⟨rfl, _, Or.inl (Or.inl h)⟩
theorem lst_of {K : PySem.W.Frag} {σ : SS} {H : Hp} {e : En} {i : Nat} {a : Addr} {d : D} (R : Rel K Z σ H e) (hd : e[i]? = some (.op d)) (ha : σ[i]? = some (some (.ref a))) : (∃ xs, H a = some (.lst xs)) ∨ ∃ ks, d = .dict ks := by
  obtain ⟨b, hb, o, _⟩ := R.op i d hd
  rw [ha] at hb; cases hb
  cases d with
  | list ds => obtain ⟨xs, h, _⟩ := o; exact .inl ⟨xs, h⟩
  | dict ks => exact .inr ⟨ks, rfl⟩
  | _ => exact o.elim
def chkL (i : Nat) : M Unit := fun e => match e[i]? with
  | some (.op (.list _)) => .ok () e
  | _ => .no
theorem chkL_ok {K : PySem.W.Frag} {σ : SS} {H : Hp} {D : Ends} {i : Nat} {f : Unit → M Fl} {e : En} (R : Rel K Z σ H e) (p : pstS K Z D σ H (bnd (chkL i) f e)) : ∃ a xs vs, e[i]? = some (.op (.list xs)) ∧ σ[i]? = some (some (.ref a)) ∧ H a = some (.lst vs) ∧ pstS K Z D σ H (f () e) := by
  unfold bnd chkL at p
  split at p
  · rename_i u e1 h1
    split at h1
    · cases h1
      rename_i d hd
      obtain ⟨a, ha, ⟨vs, hvs, _⟩, _⟩ := R.op i _ hd
      exact ⟨a, d, vs, hd, ha, hvs, p⟩
    · cases h1
  · rename_i h1; split at h1 <;> cases h1
  · exact p.elim
def sMt (i : Nat) (m : M D) (f : List D → D → Option (List D)) : M Fl := bnd (chkL i) fun _ => bnd m fun v e => match e[i]? with
  | some (.op (.list xs)) => (match f xs v with | some ys => .ok .nx (e.set i (.op (.list ys))) | none => .no)
  | _ => .no
def appD (xs : List D) (v : D) : Option (List D) := if xs.length < sizeLine then some (xs ++ [v]) else none
def extD (xs : List D) (v : D) : Option (List D) := match v with
  | .list ys => if xs.length + ys.length ≤ sizeLine then some (xs ++ ys) else none
  | _ => none
theorem s_mt {i : Nat} {st : Stmt} {m : M D} {r : V → List V → Hp → VK → Prop} {f : List D → D → Option (List D)} {te : TE} {rr : RR V D} (hp : PS X st (tDrop (tBM X.K "list" r (tVar i) (tCons (tG X.K Z rr m) tNil))))
    (hr : ∀ (a : Addr) (ws : List V) (ds es : List D) (v : V) (d : D) (σ : SS) (e : En) (H : Hp) (Q : VK), H a = some (.lst ws) → RpA X.K H ws ds → rr σ e H v d → e[i]? = some (.op (.list ds)) → σ[i]? = some (some (.ref a)) → f ds d = some es → (∀ w H', (∃ zs, H' = upd H a (.lst zs) ∧ RpA X.K H zs es) → Q w H') → r (.ref a) [v] H Q) :
    PS X st (tS X.K Z (sMt i m f)) := PS_weak hp fun D σ H ⟨en, R, p⟩ => by
    obtain ⟨a, xs, vs, hx, ha, hvs, p⟩ := chkL_ok R p
    refine ⟨.ref a, ha, tyL hvs, en, R, pstS_bnd p fun v H1 d e1 _ m1 R1 r1 p1 => ?_⟩
    have p1 : pstS X.K Z D σ H1 (match e1[i]? with
      | some (.op (.list xs)) => (match f xs d with | some ys => .ok .nx (e1.set i (.op (.list ys))) | none => .no)
      | _ => .no) := p1
    split at p1
    · rename_i ys hy
      obtain ⟨b, hb, ⟨ws, hws, ra⟩, _⟩ := R1.op i (.list ys) hy
      rw [ha] at hb; cases hb
      split at p1
      · rename_i zs hz
        refine hr a ws ys zs v d σ e1 H1 _ hws ra r1 hy ha hz fun w H' ⟨us, e', ru⟩ => ?_
        subst e'
        have mo : Mono H1 (upd H1 a (.lst us)) := mono_upd hws trivial
        exact p1 σ _ mo (R1.mut hy ha hws trivial ⟨_, upd_same, ru.mono mo⟩)
      · exact p1.elim
    · exact p1.elim
theorem s_app {i : Nat} {o e : Expr} {m : M D} {p1 p2 : Pos} (ho : PE X o (tVar i)) (h : PE X e (tM X.K Z m)) (hbase : attributeBase o "append" X.env (eval o X.env) = eval o X.env := by rfl)
    (hfew : ((backTo p2 (starEach [e] X.env)).all (fun x => !x.1) && (backToKw p2 (keywordEach [] X.env)).all (fun x => x.1.isSome) && decide ([e].length + ([] : List Keyword).length + (if ([] : List Keyword).isEmpty then 0 else 1) < 30)) = true := by rfl)
    (hline : (p1.endLine == p2.line) = true := by rfl) (hse : starEach [e] X.env = (false, eval e X.env) :: starEach [] X.env := by rfl) (hpl : (backTo p2 (starEach [] X.env)).any (·.1) = false := by rfl) (hs : swapsWith (.Call (.Attribute o "append" p1) [e] [] p2) none pos.line X.env = pure false := by rfl) :
    PS X (.Expr (.Call (.Attribute o "append" p1) [e] [] p2) pos) (tS X.K Z (sMt i m appD)) :=
  s_mt (te := tVar i) (ps_expr (pe_bm PySem.F.plainAttrs_list PySem.F.slot_list_append PySem.F.type_list_append mt_append ho (pa_cons h pa_nil hse) hbase hfew hline hse hpl) hs) fun a ws ds es v d σ e H Q hw ra rv _ _ hf q => by
    unfold appD at hf
    split at hf
    · cases hf
      exact ⟨a, ws, v, rfl, rfl, hw, by rw [ra.length]; assumption, q _ _ ⟨_, rfl, ra.append (.cons rv .nil)⟩⟩
    · cases hf
/-- what is given: a list that stands as a list's object does -/
def LitL (K : PySem.W.Frag) (H : Hp) (b : Addr) (zs : List V) : Prop := H b = some (.lst zs) ∨ FzL K H b zs
theorem LitL.obj {K : PySem.W.Frag} {pins : List (Addr × Obj)} {σ : SS} {H : Hp} {s : Shared} {b : Addr} {zs : List V} (I : Inv X pins σ H s) (h : LitL X.K H b zs) : ∃ (its : List Value) (n : Nat), Vals zs its ∧ zs.length ≤ sizeLine ∧ s.heap.get? b = some { cls := .type "list", data := .seq its.toArray n } := by
  rcases h with h | ⟨o, h⟩ | ⟨its, n, h, hz, r⟩
  · obtain ⟨z, its, n, r, e⟩ := I.hok b _ h
    exact ⟨its, n, r, z, e⟩
  · obtain ⟨_, z, its, n, r, e⟩ := I.hok b _ h
    exact ⟨its, n, r, z, e⟩
  · have hlen : zs.length = its.toList.length := r.length
    have h2 : its.toList.length = its.size := Array.length_toList
    have h3 : its.size ≤ sizeLine := hz
    have h4 : zs.length ≤ sizeLine := by rw [hlen, h2]; exact h3
    exact ⟨its.toList, n, r, h4, by simpa using I.kIn b _ h⟩
def rExtS (K : PySem.W.Frag) : V → List V → Hp → VK → Prop := fun x vs H Q => ∃ l b xs zs, x = .ref l ∧ vs = [.ref b] ∧ H l = some (.lst xs) ∧ LitL K H b zs ∧ xs.length + zs.length ≤ sizeLine ∧ Q .non (upd H l (.lst (xs ++ zs)))
theorem mt_extS : MtR X "list.extend" (rExtS X.K) := by
  intro pins s σ H x vs v us Q I rx rv h
  obtain ⟨l, b, xs, zs, rfl, rfl, hH, hB, hz, q⟩ := h
  cases rx
  obtain ⟨u, rfl, ru⟩ := rv.one
  cases ru
  obtain ⟨z, its, n, r, hl, e⟩ := I.lstM hH
  obtain ⟨its2, n2, r2, _, e2⟩ := hB.obj (K := X.K) I
  have hl2 := r2.length
  have e3 : its.toArray.size + its2.toArray.size ≤ sizeLine := by rw [List.size_toArray, List.size_toArray]; omega
  have e4 : ¬ (!its.toArray.isEmpty && Builtin.List.listTooLong (its.toArray.size + its2.toArray.size)) = true := by rw [notLongL e3, Bool.and_false]; exact Bool.false_ne_true
  exact call_meets F.slot_list_extend ⟨_, e, rfl⟩ F.entry_list_extend (F.args_list_extend_2 _ _) (AutoSeq1.list_extend_list_list_0 l its.toArray n b its2.toArray n2 e4 (by rw [List.size_toArray]; omega) (by omega))
    ⟨e, e2, ⟨.non, _, I.lset (its' := its ++ its2) hH e (by simp) (r.append r2) (by rw [List.length_append]; omega), rfl, q⟩⟩
theorem ext_ok {K : PySem.W.Frag} {a : Addr} {ws : List V} {ds es : List D} {v : V} {d : D} {H : Hp} {Q : VK} (hw : H a = some (.lst ws)) (ra : RpA K H ws ds) (rv : Rq K H v d) (hf : extD ds d = some es) (q : ∀ w H', (∃ zs, H' = upd H a (.lst zs) ∧ RpA K H zs es) → Q w H') : rExtS K (.ref a) [v] H Q := by
  unfold extD at hf
  split at hf
  · rename_i ys
    have : ∃ b zs, v = .ref b ∧ LitL K H b zs ∧ RpA K H zs ys := by
      rcases rv with rv | ⟨b, rfl, zs, h, r⟩
      · cases rv with
        | lst h r => exact ⟨_, _, rfl, .inr h, r⟩
      · exact ⟨b, zs, rfl, .inl h, r⟩
    obtain ⟨b, zs, rfl, h, r⟩ := this
    split at hf
    · cases hf
      have e1 := ra.length
      have e2 := r.length
      exact ⟨a, b, ws, zs, rfl, rfl, hw, h, by omega, q _ _ ⟨_, rfl, ra.append r⟩⟩
    · cases hf
  · cases hf
theorem s_ext {i : Nat} {o e : Expr} {m : M D} {p1 p2 : Pos} (ho : PE X o (tVar i)) (h : PE X e (tX X.K Z m)) (hbase : attributeBase o "extend" X.env (eval o X.env) = eval o X.env := by rfl)
    (hfew : ((backTo p2 (starEach [e] X.env)).all (fun x => !x.1) && (backToKw p2 (keywordEach [] X.env)).all (fun x => x.1.isSome) && decide ([e].length + ([] : List Keyword).length + (if ([] : List Keyword).isEmpty then 0 else 1) < 30)) = true := by rfl)
    (hline : (p1.endLine == p2.line) = true := by rfl) (hse : starEach [e] X.env = (false, eval e X.env) :: starEach [] X.env := by rfl) (hpl : (backTo p2 (starEach [] X.env)).any (·.1) = false := by rfl) (hs : swapsWith (.Call (.Attribute o "extend" p1) [e] [] p2) none pos.line X.env = pure false := by rfl) :
    PS X (.Expr (.Call (.Attribute o "extend" p1) [e] [] p2) pos) (tS X.K Z (sMt i m extD)) :=
  s_mt (te := tVar i) (ps_expr (pe_bm PySem.F.plainAttrs_list PySem.F.slot_list_extend PySem.F.type_list_extend mt_extS ho (pa_cons h pa_nil hse) hbase hfew hline hse hpl) hs) fun a ws ds es v d σ e H Q hw ra rv _ _ hf q => by
    refine ext_ok hw ra ?_ hf q
    rcases rv with rv | ⟨b, rfl, o, _⟩
    · exact .inl rv
    · exact .inr ⟨b, rfl, o⟩
end
end ZZ

namespace ZZ
open PySem PySem.Spec PyProof.Rows L2

/-! ### what is walked -/
/-- J gives the data ds, one after another, whatever comes behind H -/
structure ItD (K : PySem.W.Frag) (J : It) (ds : List D) (H : Hp) : Prop where
  go : ∀ H', Mono H H' → ∀ i, i < ds.length → J.go i H'
  stop : ∀ H', Mono H H' → J.stop ds.length H'
  yld : ∀ H', Mono H H' → ∀ (i : Nat) (d : D) x H2, ds[i]? = some d → J.yld i H' x H2 → Same H' H2 ∧ Rp K H2 x d
theorem ItD.mono {K : PySem.W.Frag} {J : It} {ds : List D} {H H' : Hp} (h : ItD K J ds H) (m : Mono H H') : ItD K J ds H' :=
  ⟨fun H2 m2 => h.go H2 (m.trans m2), fun H2 m2 => h.stop H2 (m.trans m2), fun H2 m2 => h.yld H2 (m.trans m2)⟩
theorem itd_of {K : PySem.W.Frag} {J : It} {n : Nat} {G : Hp → Prop} {Y : Nat → Hp → V → Hp → Prop} {ds : List D} {H : Hp} (w : Walk J n G Y) (hn : ds.length = n) (hG : ∀ H', Mono H H' → G H') (hY : ∀ H', Mono H H' → ∀ (i : Nat) (d : D) x H2, ds[i]? = some d → Y i H' x H2 → Same H' H2 ∧ Rp K H2 x d) : ItD K J ds H :=
  ⟨fun H' m i hi => w.goes i H' (by omega) (hG H' m), fun H' m => by rw [hn]; exact w.stops H' (hG H' m), fun H' m i d x H2 hd y => hY H' m i d x H2 hd (w.yields i H' x H2 (by have := lt_of_get hd; omega) (hG H' m) y)⟩
theorem RpA.getV {K : PySem.W.Frag} {H : Hp} {vs : List V} {ds : List D} {i : Nat} {v : V} {d : D} (r : RpA K H vs ds) (h1 : vs[i]? = some v) (h2 : ds[i]? = some d) : Rp K H v d := by
  obtain ⟨w, e, q⟩ := r.get i d h2
  rw [h1] at e; cases e
  exact q
theorem itd_list {K : PySem.W.Frag} {H : Hp} {a : Addr} {xs : List V} {ds : List D} (h : FzL K H a xs) (r : RpA K H xs ds) : ItD K (Itl K a) ds H :=
  itd_of (walk_list (xs := xs)) r.length.symm (fun H' m => (m.fzL h).sq) fun H' m i d x H2 hd ⟨e, hx⟩ => by subst e; exact ⟨Same.refl _, (r.mono m).getV hx hd⟩
theorem itd_tup {K : PySem.W.Frag} {H : Hp} {a : Addr} {xs : List V} {ds : List D} (h : SqT K H a xs) (r : RpA K H xs ds) : ItD K (Itt K a) ds H :=
  itd_of (walk_tup (xs := xs)) r.length.symm (fun H' m => m.sqT h) fun H' m i d x H2 hd ⟨e, hx⟩ => by subst e; exact ⟨Same.refl _, (r.mono m).getV hx hd⟩
/-- a range's ints -/
def rng (a b : Int) : List D := (List.range (b - a).toNat).map fun i => .int (a + (i : Nat))
theorem rng_len (a b : Int) : (rng a b).length = (b - a).toNat := by unfold rng; rw [List.length_map, List.length_range]
theorem rng_get {a b : Int} {i : Nat} {d : D} (h : (rng a b)[i]? = some d) : d = .int (a + i) := by
  unfold rng at h
  rw [List.getElem?_map] at h
  obtain ⟨j, hj, rfl⟩ := Option.map_eq_some_iff.mp h
  obtain ⟨_, e⟩ := List.getElem?_eq_some_iff.mp hj
  rw [List.getElem_range] at e
  rw [e]
theorem itd_rng {K : PySem.W.Frag} {H : Hp} {a b : Int} : ItD K (Itr a (b - a).toNat) (rng a b) H :=
  itd_of walk_range (rng_len a b) (fun _ _ => trivial) fun H' m i d x H2 hd ⟨e, hx⟩ => by subst e; subst hx; rw [rng_get hd]; exact ⟨Same.refl _, .int _⟩
def rngC (a c : Int) (n : Nat) : List D := (List.range n).map fun i => .int (a + (i : Nat) * c)
theorem itd_rngC {K : PySem.W.Frag} {H : Hp} {a c : Int} {n : Nat} : ItD K (Itc a c n) (rngC a c n) H :=
  itd_of walk_rangeC (by unfold rngC; rw [List.length_map, List.length_range]) (fun _ _ => trivial) fun H' m i d x H2 hd ⟨e, hx⟩ => by
    subst e; subst hx
    unfold rngC at hd
    rw [List.getElem?_map] at hd
    obtain ⟨j, hj, rfl⟩ := Option.map_eq_some_iff.mp hd
    obtain ⟨_, e⟩ := List.getElem?_eq_some_iff.mp hj
    rw [List.getElem_range] at e
    rw [e]; exact ⟨Same.refl _, .int _⟩
def chrs (z : Str) : List D := z.cps.toList.map fun c => .str ⟨#[c]⟩
theorem itd_str {K : PySem.W.Frag} {H : Hp} {z : Str} : ItD K (Its z) (chrs z) H :=
  itd_of walk_str (by unfold chrs; simp) (fun _ _ => trivial) fun H' m i d x H2 hd ⟨e, c, hc, hx⟩ => by
    subst e; subst hx
    unfold chrs at hd
    rw [List.getElem?_map] at hd
    obtain ⟨j, hj, rfl⟩ := Option.map_eq_some_iff.mp hd
    have : j = c := by
      rw [← Array.getElem?_toList] at hc
      rw [hj] at hc; exact Option.some.inj hc
    rw [this]; exact ⟨Same.refl _, .str _⟩
def prs (xs ys : List D) : List D := (xs.zip ys).map fun p => .tuple [p.1, p.2]
theorem prs_get {xs ys : List D} {i : Nat} {d : D} (h : (prs xs ys)[i]? = some d) : ∃ x y, xs[i]? = some x ∧ ys[i]? = some y ∧ d = .tuple [x, y] := by
  unfold prs at h
  rw [List.getElem?_map] at h
  obtain ⟨p, hp, rfl⟩ := Option.map_eq_some_iff.mp h
  obtain ⟨h1, h2⟩ := List.getElem?_zip_eq_some.mp hp
  exact ⟨p.1, p.2, h1, h2, rfl⟩
theorem pair_ok {K : PySem.W.Frag} {H H2 : Hp} {xs ys : Nat → Option V} {i : Nat} {v x y : V} {d1 d2 : D} (h : YPair xs ys i H v H2) (hx : ∀ u, xs i = some u → Rp K H u d1) (hy : ∀ u, ys i = some u → Rp K H u d2) : Same H H2 ∧ Rp K H2 v (.tuple [d1, d2]) := by
  obtain ⟨T, u, w, rfl, hT, rfl, e1, e2⟩ := h
  have s := same_upd (o := HO.tup [u, w]) hT
  exact ⟨s, .tup (SqT.of upd_same) (.cons ((hx u e1).same s) (.cons ((hy w e2).same s) .nil))⟩
theorem itd_zipL {K : PySem.W.Frag} {H : Hp} {a b : Addr} {xs ys : List V} {ds es : List D} (h : FzL K H a xs) (r : RpA K H xs ds) (h' : FzL K H b ys) (r' : RpA K H ys es) : ItD K (Itz K a b) (prs ds es) H :=
  itd_of (walk_zip (xs := xs) (ys := ys) rfl) (by unfold prs; rw [List.length_map, List.length_zip, r.length, r'.length]) (fun H' m => ⟨(m.fzL h).sq, (m.fzL h').sq⟩) fun H' m i d x H2 hd y => by
    obtain ⟨u, w, e1, e2, rfl⟩ := prs_get hd
    exact pair_ok (x := x) (y := x) y (fun z hz => (r.mono m).getV hz e1) fun z hz => (r'.mono m).getV hz e2
theorem walk_zipT {K : PySem.W.Frag} {a b : Addr} {xs ys : List V} {n : Nat} (hn : n = min xs.length ys.length) : Walk (RZ.ItzT K a b) n (fun H => SqT K H a xs ∧ SqT K H b ys) (YPair (fun i => xs[i]?) (fun i => ys[i]?)) := by
  refine ⟨fun i H hi ⟨h1, h2⟩ => ?_, fun H ⟨h1, h2⟩ => ⟨xs, ys, h1, h2, by omega⟩, fun i H x H' hi ⟨h1, h2⟩ ⟨T, u, w, e1, e2, e3, e4, e5⟩ => ⟨T, u, w, e1, e2, e3, e4 xs h1, e5 ys h2⟩⟩
  have q1 : i < xs.length := by omega
  have q2 : i < ys.length := by omega
  exact ⟨xs, ys, xs[i], ys[i], h1, h2, by simp [q1], by simp [q2]⟩
theorem itd_zipT {K : PySem.W.Frag} {H : Hp} {a b : Addr} {xs ys : List V} {ds es : List D} (h : SqT K H a xs) (r : RpA K H xs ds) (h' : SqT K H b ys) (r' : RpA K H ys es) : ItD K (RZ.ItzT K a b) (prs ds es) H :=
  itd_of (walk_zipT (xs := xs) (ys := ys) rfl) (by unfold prs; rw [List.length_map, List.length_zip, r.length, r'.length]) (fun H' m => ⟨m.sqT h, m.sqT h'⟩) fun H' m i d x H2 hd y => by
    obtain ⟨u, w, e1, e2, rfl⟩ := prs_get hd
    exact pair_ok (x := x) (y := x) y (fun z hz => (r.mono m).getV hz e1) fun z hz => (r'.mono m).getV hz e2
def enm (xs : List D) : List D := prs ((List.range xs.length).map fun i => .int (i : Nat)) xs
theorem itd_enm {K : PySem.W.Frag} {H : Hp} {a : Addr} {xs : List V} {ds : List D} (h : FzL K H a xs) (r : RpA K H xs ds) : ItD K (Ite K a) (enm ds) H :=
  itd_of (walk_enum (xs := xs)) (by unfold enm prs; rw [List.length_map, List.length_zip, List.length_map, List.length_range, r.length]; omega) (fun H' m => (m.fzL h).sq) fun H' m i d x H2 hd y => by
    obtain ⟨u, w, e1, e2, rfl⟩ := prs_get hd
    rw [List.getElem?_map] at e1
    obtain ⟨j, hj, rfl⟩ := Option.map_eq_some_iff.mp e1
    obtain ⟨_, e⟩ := List.getElem?_eq_some_iff.mp hj
    rw [List.getElem_range] at e
    subst e
    exact pair_ok (x := x) (y := x) y (fun z hz => by cases hz; exact .int _) fun z hz => (r.mono m).getV hz e2
/-- a reading of what is walked -/
def tI (K : PySem.W.Frag) (Z : ZC) (m : M (List D)) : TI := fun σ H R => ∃ e, Rel K Z σ H e ∧ match m e with
  | .ok ds e1 => ∀ J H', Mono H H' → Rel K Z σ H' e1 → ItD K J ds H' → R J H'
  | .exc x e1 => ∀ H', Mono H H' → Rel K Z σ H' e1 → Z.W x e1 σ H'
  | .no => False
theorem tI_bnd {K : PySem.W.Frag} {Z : ZC} {α β : Type} {r : RR β α} {σ : SS} {H : Hp} {R : It → Hp → Prop} {m : M α} {f : α → Option (List D)} {e : En} {Q : β → Hp → Prop} (h : match bnd m (fun d => lft (f d)) e with
  | .ok ds e1 => ∀ J H', Mono H H' → Rel K Z σ H' e1 → ItD K J ds H' → R J H'
  | .exc x e1 => ∀ H', Mono H H' → Rel K Z σ H' e1 → Z.W x e1 σ H'
  | .no => False)
    (k : ∀ b H1 d e1 ds, Mono H H1 → Rel K Z σ H1 e1 → r σ e1 H1 b d → f d = some ds → (∀ J H', Mono H1 H' → Rel K Z σ H' e1 → ItD K J ds H' → R J H') → Q b H1) : pst K Z r σ H Q (m e) := by
  unfold bnd at h
  cases q : m e with
  | ok d e1 =>
    rw [q] at h
    intro b H1 m1 R1 r1
    cases hf : f d with
    | none =>
      have h : (match lft (f d) e1 with
        | .ok ds e1 => ∀ J H', Mono H H' → Rel K Z σ H' e1 → ItD K J ds H' → R J H'
        | .exc x e1 => ∀ H', Mono H H' → Rel K Z σ H' e1 → Z.W x e1 σ H'
        | .no => False) := h
      rw [hf] at h; exact h.elim
    | some ds =>
      have h : (match lft (f d) e1 with
        | .ok ds e1 => ∀ J H', Mono H H' → Rel K Z σ H' e1 → ItD K J ds H' → R J H'
        | .exc x e1 => ∀ H', Mono H H' → Rel K Z σ H' e1 → Z.W x e1 σ H'
        | .no => False) := h
      rw [hf] at h
      exact k b H1 d e1 ds m1 R1 r1 hf fun J H' m2 => h J H' (m1.trans m2)
  | exc x e1 => rw [q] at h; exact h
  | no => rw [q] at h; exact h
section
variable {X : Cx} {Z : ZC} {pos p : Pos}
theorem PI_weak {tg e : Expr} {t t' : TI} (h : PI X tg e t) (w : ∀ σ H R, t' σ H R → t σ H R) : PI X tg e t' := ⟨fun pins s σ H R I q => h.run pins s σ H R I (w σ H R q)⟩
theorem it_list {tg : Expr} {pins : List (Addr × Obj)} {σ : SS} {H : Hp} {s : Shared} {R : It → Hp → Prop} {a : Addr} {xs : List V} (I : Inv X pins σ H s) (h : SqL X.K H a xs) (q : R (Itl X.K a) H) : wpAny (model X.prog X.w) X.A (pyIter (.ref a)) (PIE X pins σ tg R) X.xe s := by
  obtain ⟨its, rv, pl, _⟩ := I.list h
  have one : ∀ b ∈ [s.heap.objs.size], FpOk X pins H b := fun b hb => by rw [List.mem_singleton.mp hb]; exact I.fpOk (Nat.le_refl _) (I.hok.fresh (Nat.le_refl _))
  exact wpAny_pyIter_list pl.isList ⟨_, [s.heap.objs.size], _, _, H, rfl, I.kept (t' := s.toks) fun b o e => Heap.get?_push_of_some _ e, turn_list a _, ⟨_, Heap.get?_push_size _ rfl, rfl, rfl⟩, one, q⟩
theorem it_tup {tg : Expr} {pins : List (Addr × Obj)} {σ : SS} {H : Hp} {s : Shared} {R : It → Hp → Prop} {a : Addr} {xs : List V} (I : Inv X pins σ H s) (h : SqT X.K H a xs) (q : R (Itt X.K a) H) : wpAny (model X.prog X.w) X.A (pyIter (.ref a)) (PIE X pins σ tg R) X.xe s := by
  obtain ⟨its, rv, pl, _⟩ := I.tuple h
  have one : ∀ b ∈ [s.heap.objs.size], FpOk X pins H b := fun b hb => by rw [List.mem_singleton.mp hb]; exact I.fpOk (Nat.le_refl _) (I.hok.fresh (Nat.le_refl _))
  exact wpAny_pyIter_tuple (show s.heap.IsTuple a its.toArray from pl) ⟨_, [s.heap.objs.size], _, _, H, rfl, I.kept (t' := s.toks) fun b o e => Heap.get?_push_of_some _ e, turn_tuple a _, ⟨_, Heap.get?_push_size _ rfl, rfl, rfl⟩, one, q⟩
/-- a list or a tuple, as data -/
def itemsD : D → Option (List D)
  | .list ds => some ds
  | .tuple ds => some ds
  | _ => none
def items (m : M D) : M (List D) := bnd m fun d => lft (itemsD d)
theorem i_data {tg e : Expr} {m : M D} (h : PE X e (tM X.K Z m)) : PI X tg e (tI X.K Z (items m)) := by
  refine ⟨fun pins s σ H R I ⟨en, Rl, q⟩ => ?_⟩
  refine thn (h.run pins s σ H (fun v H1 => (∃ a xs, v = .ref a ∧ SqL X.K H1 a xs ∧ R (Itl X.K a) H1) ∨ ∃ a xs, v = .ref a ∧ SqT X.K H1 a xs ∧ R (Itt X.K a) H1) I ⟨en, Rl, tI_bnd q fun v H1 d e1 ds m1 R1 r1 hd k => ?_⟩) fun v s1 ⟨x, H1, I1, r1, q1⟩ => ?_
  · cases d with
    | list es =>
      cases hd
      cases r1 with
      | lst hl ra => exact .inl ⟨_, _, rfl, hl.sq, k _ H1 .refl R1 (itd_list hl ra)⟩
    | tuple es =>
      cases hd
      cases r1 with
      | tup hl ra => exact .inr ⟨_, _, rfl, hl, k _ H1 .refl R1 (itd_tup hl ra)⟩
    | _ => cases hd
  · rcases q1 with ⟨a, xs, rfl, hl, q1⟩ | ⟨a, xs, rfl, hl, q1⟩
    · cases r1; exact it_list I1 hl q1
    · cases r1; exact it_tup I1 hl q1
def itemsS : D → Option (List D)
  | .str z => some (chrs z)
  | _ => none
def signs (m : M D) : M (List D) := bnd m fun d => lft (itemsS d)
theorem i_str {tg e : Expr} {m : M D} (h : PE X e (tM X.K Z m)) : PI X tg e (tI X.K Z (signs m)) :=
  PI_weak (pi_str h) fun σ H R ⟨en, Rl, q⟩ => ⟨en, Rl, tI_bnd q fun v H1 d e1 ds m1 R1 r1 hd k => by
    cases d with
    | str z => cases hd; cases rp_str r1; exact ⟨z, rfl, k _ H1 .refl R1 itd_str⟩
    | _ => cases hd⟩
def rOk (a : Int) : Bool := decide (-4611686018427387904 ≤ a ∧ a < 4611686018427387904)
def rg1 : List D → Option (List D)
  | [.int b] => if rOk b = true then some (rng 0 b) else none
  | _ => none
def rg2 : List D → Option (List D)
  | [.int a, .int b] => if rOk a = true ∧ rOk b = true then some (rng a b) else none
  | _ => none
/-- by a step of -1 -/
def rg3 : List D → Option (List D)
  | [.int a, .int b, .int c] => if rOk a = true ∧ rOk b = true ∧ c = -1 then some (rngC a (-1) (a - b).toNat) else none
  | _ => none
def range1 (ms : List (M D)) : M (List D) := bnd (seqM ms) fun d => lft (rg1 d)
def range2 (ms : List (M D)) : M (List D) := bnd (seqM ms) fun d => lft (rg2 d)
def range3 (ms : List (M D)) : M (List D) := bnd (seqM ms) fun d => lft (rg3 d)
theorem rOk_of {a : Int} (h : rOk a = true) : -(2 ^ 62) ≤ a ∧ a < 2 ^ 62 := by
  unfold rOk at h
  simp only [decide_eq_true_eq] at h
  exact ⟨by omega, by omega⟩
theorem i_rg1 {tg a : Expr} {ms : List (M D)} (hg : Gl X "range") (hm : X.mg "range" = none) (h : PA X [a] (tMs X.K Z (seqM ms))) (hs : starEach [a] X.env = [(false, eval a X.env)] := by rfl) : PI X tg (.Call (.Name "range" p) [a] [] pos) (tI X.K Z (range1 ms)) :=
  PI_weak (pi_range1 hg hm h hs) fun σ H R ⟨en, Rl, q⟩ => ⟨en, Rl, tI_bnd q fun vs H1 d e1 ds m1 R1 r1 hd k => by
    unfold rg1 at hd
    split at hd
    · split at hd
      · rename_i b hb
        cases hd
        cases r1 with
        | cons r1 r2 =>
          cases r2
          cases rp_int r1
          refine ⟨b, rfl, (rOk_of hb).1, (rOk_of hb).2, k _ H1 .refl R1 ?_⟩
          have := itd_rng (K := X.K) (H := H1) (a := 0) (b := b)
          rw [Int.sub_zero] at this
          exact this
      · cases hd
    · cases hd⟩
theorem i_rg2 {tg a b : Expr} {ms : List (M D)} (hg : Gl X "range") (hm : X.mg "range" = none) (h : PA X [a, b] (tMs X.K Z (seqM ms))) (hs : starEach [a, b] X.env = [(false, eval a X.env), (false, eval b X.env)] := by rfl) (hs2 : starEach [b] X.env = [(false, eval b X.env)] := by rfl) : PI X tg (.Call (.Name "range" p) [a, b] [] pos) (tI X.K Z (range2 ms)) :=
  PI_weak (pi_range2 hg hm h hs hs2) fun σ H R ⟨en, Rl, q⟩ => ⟨en, Rl, tI_bnd q fun vs H1 d e1 ds m1 R1 r1 hd k => by
    unfold rg2 at hd
    split at hd
    · split at hd
      · rename_i a b hb
        cases hd
        cases r1 with
        | cons r1 r2 =>
          cases r2 with
          | cons r2 r3 =>
            cases r3
            cases rp_int r1
            cases rp_int r2
            exact ⟨a, b, rfl, ⟨(rOk_of hb.1).1, (rOk_of hb.1).2, (rOk_of hb.2).1, (rOk_of hb.2).2⟩, k _ H1 .refl R1 itd_rng⟩
      · cases hd
    · cases hd⟩
end
end ZZ

namespace ZZ
open PySem PySem.Spec PyProof.Rows L2
section
variable {X : Cx} {Z : ZC} {pos p : Pos}
theorem i_rg3 {tg a b c : Expr} {ms : List (M D)} (hg : Gl X "range") (hm : X.mg "range" = none) (h : PA X [a, b, c] (tMs X.K Z (seqM ms))) (hs : starEach [a, b, c] X.env = (false, eval a X.env) :: starEach [b, c] X.env := by rfl) (hpl : (backTo pos (starEach [b, c] X.env)).any (·.1) = false := by rfl) : PI X tg (.Call (.Name "range" p) [a, b, c] [] pos) (tI X.K Z (range3 ms)) :=
  PI_weak (pi_range3 hg hm h hs hpl) fun σ H R ⟨en, Rl, q⟩ => ⟨en, Rl, tI_bnd q fun vs H1 d e1 ds m1 R1 r1 hd k => by
    unfold rg3 at hd
    split at hd
    · split at hd
      · rename_i a b c hb
        cases hd
        cases r1 with
        | cons r1 r2 =>
          cases r2 with
          | cons r2 r3 =>
            cases r3 with
            | cons r3 r4 =>
              cases r4
              cases rp_int r1
              cases rp_int r2
              cases rp_int r3
              obtain ⟨h1, h2, rfl⟩ := hb
              exact ⟨a, b, -1, _, rfl, RgC.neg (rOk_of h1).1 (rOk_of h1).2 (rOk_of h2).1 (rOk_of h2).2, k _ H1 .refl R1 itd_rngC⟩
      · cases hd
    · cases hd⟩
def zpD : List D → Option (List D)
  | [.list xs, .list ys] => some (prs xs ys)
  | [.tuple xs, .tuple ys] => some (prs xs ys)
  | _ => none
def zipM (ms : List (M D)) : M (List D) := bnd (seqM ms) fun d => lft (zpD d)
theorem i_zip {elts : List Expr} {kk : Nat} {tpos : Pos} {a b : Expr} {ms : List (M D)} (hg : Gl X "zip") (hm : X.mg "zip" = none) (h : PA X [a, b] (tMs X.K Z (seqM ms))) (hc : PI X (.Tuple elts kk tpos) (.Call (.Name "zip" p) [a, b] [] pos) (RZ.iZipA X.K (tMs X.K Z (seqM ms)))) :
    PI X (.Tuple elts kk tpos) (.Call (.Name "zip" p) [a, b] [] pos) (tI X.K Z (zipM ms)) :=
  PI_weak hc fun σ H R ⟨en, Rl, q⟩ => ⟨en, Rl, tI_bnd q fun vs H1 d e1 ds m1 R1 r1 hd k => by
    unfold zpD at hd
    split at hd
    · cases hd
      cases r1 with
      | cons r1 r2 =>
        cases r2 with
        | cons r2 r3 =>
          cases r3
          cases r1 with
          | lst h1 ra =>
            cases r2 with
            | lst h2 rb => exact ⟨_, _, _, _, rfl, .inl ⟨h1.sq, h2.sq, k _ H1 .refl R1 (itd_zipL h1 ra h2 rb)⟩⟩
    · cases hd
      cases r1 with
      | cons r1 r2 =>
        cases r2 with
        | cons r2 r3 =>
          cases r3
          cases r1 with
          | tup h1 ra =>
            cases r2 with
            | tup h2 rb => exact ⟨_, _, _, _, rfl, .inr ⟨h1, h2, k _ H1 .refl R1 (itd_zipT h1 ra h2 rb)⟩⟩
    · cases hd⟩
def enD : List D → Option (List D)
  | [.list xs] => some (enm xs)
  | _ => none
def enumM (ms : List (M D)) : M (List D) := bnd (seqM ms) fun d => lft (enD d)
theorem i_enum {elts : List Expr} {kk : Nat} {tpos : Pos} {a : Expr} {ms : List (M D)} (hg : Gl X "enumerate") (hm : X.mg "enumerate" = none) (h : PA X [a] (tMs X.K Z (seqM ms))) (hs : starEach [a] X.env = [(false, eval a X.env)] := by rfl) :
    PI X (.Tuple elts kk tpos) (.Call (.Name "enumerate" p) [a] [] pos) (tI X.K Z (enumM ms)) :=
  PI_weak (pi_enum hg hm h hs) fun σ H R ⟨en, Rl, q⟩ => ⟨en, Rl, tI_bnd q fun vs H1 d e1 ds m1 R1 r1 hd k => by
    unfold enD at hd
    split at hd
    · cases hd
      cases r1 with
      | cons r1 r2 =>
        cases r2
        cases r1 with
        | lst h1 ra => exact ⟨_, _, rfl, h1.sq, k _ H1 .refl R1 (itd_enm h1 ra)⟩
    · cases hd⟩

/-! ### for -/
def forL (tg : D → En → Option En) (body : M Fl) : List D → M Fl
  | [] => ret .nx
  | d :: ds => fun e => match tg d e with
    | none => .no
    | some e1 => match body e1 with
      | .ok .nx e2 => forL tg body ds e2
      | .ok .ct e2 => forL tg body ds e2
      | .ok .bk e2 => .ok .nx e2
      | .ok (.rt v) e2 => .ok (.rt v) e2
      | .ok (.ro v) e2 => .ok (.ro v) e2
      | .exc x e2 => .exc x e2
      | .no => .no
def sFor (mi : M (List D)) (tg : D → En → Option En) (body : M Fl) : M Fl := bnd mi fun ds => forL tg body ds
theorem drop_get {α : Type} {l : List α} {i : Nat} (h : i < l.length) : l.drop i = l[i] :: l.drop (i + 1) := List.drop_eq_getElem_cons h
theorem t_for {K : PySem.W.Frag} {g : TG} {f : D → En → Option En} (hg : TgOk K Z g f) {mi : M (List D)} {mb : M Fl} {D : Ends} {σ : SS} {H : Hp} (p : tS K Z (sFor mi f mb) D σ H) : tFor (tI K Z mi) g (tS K Z mb) D σ H := by
  obtain ⟨e, R, p⟩ := p
  refine ⟨e, R, ?_⟩
  have p : pstS K Z D σ H (bnd mi (fun ds => forL f mb ds) e) := p
  unfold bnd at p
  cases q : mi e with
  | exc x e1 => rw [q] at p; exact fun H' m R' => p σ H' m R'
  | no => rw [q] at p; exact p
  | ok ds e1 =>
    rw [q] at p
    intro J H1 m1 R1 it
    refine ⟨fun i n σ' H' => n = ds.length - i ∧ i ≤ ds.length ∧ Mono H1 H' ∧ ∃ e', Rel K Z σ' H' e' ∧ pstS K Z D σ' H' (forL f mb (ds.drop i) e'), ⟨_, rfl, Nat.zero_le _, .refl, e1, R1, pstS_mono p m1⟩, ?_⟩
    rintro i n σ' H' ⟨rfl, hi, m, e', R', p'⟩
    by_cases hlt : i < ds.length
    · refine .inr ⟨it.go H' m i hlt, fun σ'' H'' => i + 1 ≤ ds.length ∧ Mono H1 H'' ∧ ∃ e'', Rel K Z σ'' H'' e'' ∧ pstS K Z D σ'' H'' (forL f mb (ds.drop (i + 1)) e''), fun σ'' H'' hN => ⟨ds.length - (i + 1), by omega, rfl, hN⟩, fun x H2 y => ?_⟩
      obtain ⟨s, rx⟩ := it.yld H' m i ds[i] x H2 (by simp [hlt]) y
      rw [drop_get hlt] at p'
      unfold forL at p'
      cases ht : f ds[i] e' with
      | none => rw [ht] at p'; exact p'.elim
      | some e2 =>
        rw [ht] at p'
        refine hg σ' H2 e' e2 x ds[i] _ (R'.same s) rx ht fun σ2 R2 => ⟨e2, R2, ?_⟩
        have m2 : Mono H' H2 := .same s
        have p' : pstS K Z D σ' H' (match mb e2 with
          | .ok .nx e2 => forL f mb (ds.drop (i + 1)) e2
          | .ok .ct e2 => forL f mb (ds.drop (i + 1)) e2
          | .ok .bk e2 => .ok .nx e2
          | .ok (.rt v) e2 => .ok (.rt v) e2
          | .ok (.ro v) e2 => .ok (.ro v) e2
          | .exc x e2 => .exc x e2
          | .no => .no) := p'
        cases hb : mb e2 with
        | no => rw [hb] at p'; exact p'.elim
        | exc x e3 => rw [hb] at p'; exact fun σ3 H3 m3 R3 => p' σ3 H3 (m2.trans m3) R3
        | ok fl e3 =>
          rw [hb] at p'
          cases fl with
          | nx => exact fun σ3 H3 m3 R3 => ⟨hlt, m.trans (m2.trans m3), e3, R3, pstS_mono p' (m2.trans m3)⟩
          | ct => exact fun σ3 H3 m3 R3 => ⟨hlt, m.trans (m2.trans m3), e3, R3, pstS_mono p' (m2.trans m3)⟩
          | bk => exact fun σ3 H3 m3 R3 => p' σ3 H3 (m2.trans m3) R3
          | rt v => exact fun σ3 v' H3 m3 R3 r3 => p' σ3 v' H3 (m2.trans m3) R3 r3
          | ro v => exact fun σ3 v' H3 m3 R3 r3 => p' σ3 v' H3 (m2.trans m3) R3 r3
    · have e : i = ds.length := by omega
      subst e
      rw [List.drop_length] at p'
      exact .inl ⟨it.stop H' m, p' σ' H' .refl R'⟩
theorem s_for {tg iter : Expr} {body : List Stmt} {g : TG} {f : D → En → Option En} {mi : M (List D)} {mb : M Fl} (hp : PassesOwn (model X.prog X.w) X.A X.env X.xe) (hc : X.calm = true) (hi : PI X tg iter (tI X.K Z mi)) (hg : PG X tg g) (ht : TgOk X.K Z g f) (hb : PSs X body (tS X.K Z mb))
    (hs : ∀ x, foldedSetIterable iter X.env x = pure x := by intro _; rfl) : PS X (.For tg iter body [] pos) (tS X.K Z (sFor mi f mb)) :=
  PS_weak (ps_for hp hc hi hg hb hs) fun D σ H p => t_for ht p

/-! ### while -/
def whlN (c : M Bool) (body : M Fl) : Nat → M Fl
  | 0 => fun _ => .no
  | n + 1 => fun e => match c e with
    | .ok true e1 => (match body e1 with
      | .ok .nx e2 => whlN c body n e2
      | .ok .ct e2 => whlN c body n e2
      | .ok .bk e2 => .ok .nx e2
      | .ok (.rt v) e2 => .ok (.rt v) e2
      | .ok (.ro v) e2 => .ok (.ro v) e2
      | .exc x e2 => .exc x e2
      | .no => .no)
    | .ok false e1 => .ok .nx e1
    | .exc x e1 => .exc x e1
    | .no => .no
theorem t_whl {K : PySem.W.Frag} {c : M Bool} {mb : M Fl} {D : Ends} {σ : SS} {H : Hp} {n : Nat} (p : tS K Z (whlN c mb n) D σ H) : tWhile (tT K Z c) (tS K Z mb) D σ H := by
  obtain ⟨e, R, p⟩ := p
  refine ⟨fun k σ' H' => ∃ e', Rel K Z σ' H' e' ∧ pstS K Z D σ' H' (whlN c mb k e'), ⟨n, e, R, p⟩, ?_⟩
  rintro k σ' H' ⟨e', R', p'⟩
  cases k with
  | zero => exact p'.elim
  | succ k =>
    refine ⟨e', R', ?_⟩
    unfold whlN at p'
    cases q : c e' with
    | no => rw [q] at p'; exact p'.elim
    | exc x e1 => rw [q] at p'; exact fun H1 m1 R1 => p' σ' H1 m1 R1
    | ok b e1 =>
      rw [q] at p'
      intro b' H1 m1 R1 r1
      cases r1
      cases b with
      | false => rw [if_neg Bool.false_ne_true]; exact p' σ' H1 m1 R1
      | true =>
        rw [if_pos rfl]
        refine ⟨fun σ2 H2 => ∃ e2, Rel K Z σ2 H2 e2 ∧ pstS K Z D σ2 H2 (whlN c mb k e2), fun σ2 H2 h => ⟨k, Nat.lt_succ_self k, h⟩, e1, R1, ?_⟩
        have p' : pstS K Z D σ' H' (match mb e1 with
          | .ok .nx e2 => whlN c mb k e2
          | .ok .ct e2 => whlN c mb k e2
          | .ok .bk e2 => .ok .nx e2
          | .ok (.rt v) e2 => .ok (.rt v) e2
          | .ok (.ro v) e2 => .ok (.ro v) e2
          | .exc x e2 => .exc x e2
          | .no => .no) := p'
        cases hb : mb e1 with
        | no => rw [hb] at p'; exact p'.elim
        | exc x e3 => rw [hb] at p'; exact fun σ3 H3 m3 R3 => p' σ3 H3 (m1.trans m3) R3
        | ok fl e3 =>
          rw [hb] at p'
          cases fl with
          | nx => exact fun σ3 H3 m3 R3 => ⟨e3, R3, pstS_mono p' (m1.trans m3)⟩
          | ct => exact fun σ3 H3 m3 R3 => ⟨e3, R3, pstS_mono p' (m1.trans m3)⟩
          | bk => exact fun σ3 H3 m3 R3 => p' σ3 H3 (m1.trans m3) R3
          | rt v => exact fun σ3 v' H3 m3 R3 r3 => p' σ3 v' H3 (m1.trans m3) R3 r3
          | ro v => exact fun σ3 v' H3 m3 R3 r3 => p' σ3 v' H3 (m1.trans m3) R3 r3
theorem s_whl {c : Expr} {body : List Stmt} {mc : M Bool} {mb : M Fl} {n : Nat} (hp : PassesOwn (model X.prog X.w) X.A X.env X.xe) (hc : PT X c (tT X.K Z mc)) (hb : PSs X body (tS X.K Z mb)) : PS X (.While c body [] pos) (tS X.K Z (whlN mc mb n)) :=
  PS_weak (ps_while hp hc hb) fun D σ H p => t_whl p

/-! ### comprehensions -/
def wipeE (e : En) : List Nat → En
  | [] => e
  | v :: vs => (wipeE e vs).set v .un
/-- the slots vs as they were in e -/
def restE (e : En) (e' : En) : List Nat → En
  | [] => e'
  | v :: vs => (restE e e' vs).set v (match e[v]? with | some (.fz d) => .fz d | _ => .un)
theorem wipeE_len (e : En) : ∀ vs, (wipeE e vs).length = e.length
  | [] => rfl
  | v :: vs => by unfold wipeE; rw [List.length_set, wipeE_len e vs]
theorem restE_len (e e' : En) : ∀ vs, (restE e e' vs).length = e'.length
  | [] => rfl
  | v :: vs => by unfold restE; rw [List.length_set, restE_len e e' vs]
theorem wipeE_in {e : En} {s : Sl} : ∀ {vs : List Nat} {i : Nat}, (wipeE e vs)[i]? = some s → s ≠ .un → e[i]? = some s ∧ i ∉ vs
  | [], i, h, _ => ⟨h, by simp⟩
  | v :: vs, i, h, n => by
    unfold wipeE at h
    by_cases hv : v = i
    · subst hv
      by_cases hl : v < (wipeE e vs).length
      · rw [List.getElem?_set_self hl] at h; cases h; exact absurd rfl n
      · rw [List.getElem?_eq_none (by simpa using hl)] at h; cases h
    · rw [List.getElem?_set_ne hv] at h
      obtain ⟨h1, h2⟩ := wipeE_in h n
      exact ⟨h1, by simp only [List.mem_cons, not_or]; exact ⟨fun e => hv e.symm, h2⟩⟩
theorem wipe_out' {σ : SS} {i : Nat} : ∀ {vs : List Nat}, i ∉ vs → (wipe σ vs)[i]? = σ[i]?
  | [], _ => rfl
  | v :: vs, h => by
    simp only [List.mem_cons, not_or] at h
    unfold wipe
    rw [List.getElem?_set_ne (Ne.symm h.1), wipe_out' h.2]
theorem rel_wipe {K : PySem.W.Frag} {Z : ZC} {σ : SS} {H : Hp} {e : En} {vs : List Nat} (R : Rel K Z σ H e) (hv : ∀ i ∈ Z.ios, i ∉ vs) : Rel K Z (wipe σ vs) H (wipeE e vs) where
  len := by rw [wipeE_len, wipe_length]; exact R.len
  fz := fun i d h => by
    obtain ⟨h1, h2⟩ := wipeE_in h (by simp)
    rw [wipe_out' h2]
    exact R.fz i d h1
  op := fun i d h => by
    obtain ⟨h1, h2⟩ := wipeE_in h (by simp)
    rw [wipe_out' h2]
    exact R.op i d h1
  inj := fun i j d f a h1 h2 h3 h4 => by
    obtain ⟨p1, p2⟩ := wipeE_in h1 (by simp)
    obtain ⟨q1, q2⟩ := wipeE_in h2 (by simp)
    rw [wipe_out' p2] at h3
    rw [wipe_out' q2] at h4
    exact R.inj i j d f a p1 q1 h3 h4
  fr := R.fr
  io := fun i hi => by rw [wipe_out' (hv i hi)]; exact R.io i hi
  tp := fun p hp => by
    obtain ⟨h1, h2, h3, h4⟩ := R.tp p hp
    refine ⟨h1, h2, h3, fun i d h => ?_⟩
    obtain ⟨q1, q2⟩ := wipeE_in h (by simp)
    rw [wipe_out' q2]
    exact h4 i d q1
theorem restE_at {e e' : En} {s : Sl} : ∀ {vs : List Nat} {i : Nat}, (restE e e' vs)[i]? = some s → s ≠ .un → (i ∉ vs ∧ e'[i]? = some s) ∨ (i ∈ vs ∧ ∃ d, s = .fz d ∧ e[i]? = some (.fz d))
  | [], i, h, _ => .inl ⟨by simp, h⟩
  | v :: vs, i, h, n => by
    unfold restE at h
    by_cases hv : v = i
    · subst hv
      by_cases hl : v < (restE e e' vs).length
      · rw [List.getElem?_set_self hl] at h
        split at h
        · rename_i d hd
          cases h
          exact .inr ⟨List.mem_cons_self, d, rfl, hd⟩
        · cases h; exact absurd rfl n
      · rw [List.getElem?_eq_none (by simpa using hl)] at h; cases h
    · rw [List.getElem?_set_ne hv] at h
      rcases restE_at h n with ⟨h1, h2⟩ | ⟨h1, d, h2, h3⟩
      · exact .inl ⟨by simp only [List.mem_cons, not_or]; exact ⟨fun e => hv e.symm, h1⟩, h2⟩
      · exact .inr ⟨List.mem_cons_of_mem _ h1, d, h2, h3⟩
/-- back in the def: the block's names as they were -/
theorem rel_rest {K : PySem.W.Frag} {Z : ZC} {σ : SS} {H0 H : Hp} {e e' : En} {vs : List Nat} (R0 : Rel K Z σ H0 e) (m : Mono H0 H) (R : Rel K Z (wipe σ vs) H e') (hv : ∀ i ∈ Z.ios, i ∉ vs) : Rel K Z σ H (restE e e' vs) where
  len := by rw [restE_len, R.len, wipe_length]
  fz := fun i d h => by
    rcases restE_at h (by simp) with ⟨h1, h2⟩ | ⟨h1, d', h2, h3⟩
    · have := R.fz i d h2
      rw [wipe_out' h1] at this
      exact this
    · cases h2
      obtain ⟨v, q1, q2⟩ := R0.fz i d h3
      exact ⟨v, q1, q2.mono m⟩
  op := fun i d h => by
    rcases restE_at h (by simp) with ⟨h1, h2⟩ | ⟨h1, d', h2, h3⟩
    · have := R.op i d h2
      rw [wipe_out' h1] at this
      exact this
    · cases h2
  inj := fun i j d f a h1 h2 h3 h4 => by
    rcases restE_at h1 (by simp) with ⟨p1, p2⟩ | ⟨p1, d', p2, p3⟩
    · rcases restE_at h2 (by simp) with ⟨q1, q2⟩ | ⟨q1, d', q2, q3⟩
      · rw [← wipe_out' p1] at h3
        rw [← wipe_out' q1] at h4
        exact R.inj i j d f a p2 q2 h3 h4
      · cases q2
    · cases p2
  fr := R.fr
  io := fun i hi => by
    have := R.io i hi
    rw [wipe_out' (hv i hi)] at this
    exact this
  tp := fun p hp => by
    obtain ⟨h1, h2, h3, h4⟩ := R.tp p hp
    refine ⟨h1, h2, h3, fun i d h => ?_⟩
    rcases restE_at h (by simp) with ⟨p1, p2⟩ | ⟨p1, d', p2, p3⟩
    · rw [← wipe_out' p1]; exact h4 i d p2
    · cases p2
/-- the turns of [elt for target in .. if cond]; nothing may leave them -/
def cmpL (tg : D → En → Option En) (cond : M Bool) (elt : M D) (vs : List Nat) : List D → M (List D)
  | [] => ret []
  | d :: ds => fun e => match tg d e with
    | none => .no
    | some e1 => match cond e1 with
      | .ok true e2 => (match elt e2 with
        | .ok y e3 => (match cmpL tg cond elt vs ds (wipeE e3 vs) with
          | .ok ys e4 => .ok (y :: ys) e4
          | _ => .no)
        | _ => .no)
      | .ok false e2 => (match cmpL tg cond elt vs ds (wipeE e2 vs) with
        | .ok ys e4 => .ok ys e4
        | _ => .no)
      | _ => .no
def lcM (vs : List Nat) (mi : M (List D)) (tg : D → En → Option En) (cond : M Bool) (elt : M D) : M D := bnd mi fun ds e => match cmpL tg cond elt vs ds (wipeE e vs) with
  | .ok ys e1 => if ys.length ≤ sizeLine then .ok (.list ys) (restE e e1 vs) else .no
  | _ => .no
/-- the context of a block's turn: the new list beside -/
abbrev ZT (Z : ZC) (D : Addr) (acc : List V) : ZC := ⟨Z.Hb, Z.ios, Z.adr, (D, .lst acc) :: Z.tmp, fun _ _ _ _ => False⟩
theorem rel_in {K : PySem.W.Frag} {Z : ZC} {σ : SS} {H : Hp} {e : En} {D : Addr} {acc : List V} (R : Rel K Z σ H e) (h : H D = some (.lst acc)) (hb : Z.Hb D = none) (hs : ∀ (i : Nat) (d : ZZ.D), e[i]? = some (.op d) → σ[i]? ≠ some (some (.ref D))) : Rel K (ZT Z D acc) σ H e :=
  ⟨R.len, R.fz, R.op, R.inj, R.fr, R.io, fun p hp => by
    rcases List.mem_cons.mp hp with rfl | hp
    · exact ⟨h, trivial, hb, hs⟩
    · exact R.tp p hp⟩
theorem rel_out {K : PySem.W.Frag} {Z : ZC} {σ : SS} {H : Hp} {e : En} {D : Addr} {acc : List V} (R : Rel K (ZT Z D acc) σ H e) : Rel K Z σ H e ∧ H D = some (.lst acc) ∧ Z.Hb D = none ∧ ∀ (i : Nat) (d : ZZ.D), e[i]? = some (.op d) → σ[i]? ≠ some (some (.ref D)) := by
  obtain ⟨h1, _, h3, h4⟩ := R.tp (D, .lst acc) List.mem_cons_self
  exact ⟨⟨R.len, R.fz, R.op, R.inj, R.fr, R.io, fun p hp => R.tp p (List.mem_cons_of_mem _ hp)⟩, h1, h3, h4⟩
/-- a reading under some new list -/
def tZ {β α : Type} (K : PySem.W.Frag) (Z : ZC) (r : ZC → RR β α) (m : M α) : SS → Hp → (β → Hp → Prop) → Prop := fun σ H Q => ∃ D acc, tG K (ZT Z D acc) (r (ZT Z D acc)) m σ H Q
theorem tmp_chg {K : PySem.W.Frag} {Z : ZC} {σ : SS} {H : Hp} {e : En} {D : Addr} {acc acc' : List V} (R : Rel K (ZT Z D acc) σ H e) (hn : ∀ p ∈ Z.tmp, p.1 ≠ D) : Rel K (ZT Z D acc') σ (upd H D (.lst acc')) e := by
  obtain ⟨R1, h1, h3, h4⟩ := rel_out R
  exact rel_in (R1.other h1 trivial h3 h4 hn) upd_same h3 h4
end
end ZZ

namespace ZZ
open PySem PySem.Spec PyProof.Rows L2
theorem wipe_set {σ : SS} {i : Nat} {x : Option V} : ∀ {vs : List Nat}, i ∈ vs → wipe (σ.set i x) vs = wipe σ vs
  | v :: vs, h => by
    unfold wipe
    by_cases hi : i ∈ vs
    · rw [wipe_set hi]
    · have e : i = v := (List.mem_cons.mp h).resolve_right hi
      subst e
      have k : ∀ {vs : List Nat} {σ : SS}, wipe (σ.set i x) vs = (wipe σ vs).set i x ∨ i ∈ vs := by
        intro vs
        induction vs with
        | nil => intro σ; exact .inl rfl
        | cons w ws ih =>
          intro σ
          by_cases hw : i = w
          · exact .inr (by rw [hw]; exact List.mem_cons_self)
          · rcases ih (σ := σ) with q | q
            · refine .inl ?_
              unfold wipe
              rw [q, List.set_comm _ _ hw]
            · exact .inr (List.mem_cons_of_mem _ q)
      rcases k (vs := vs) (σ := σ) with q | q
      · rw [q, List.set_set]
      · exact absurd q hi
theorem wipe_wipe (σ : SS) (vs : List Nat) : wipe (wipe σ vs) vs = wipe σ vs := by
  have k : ∀ (ws : List Nat) (τ : SS), (∀ i ∈ ws, i ∈ vs) → wipe (wipe τ ws) vs = wipe τ vs := by
    intro ws
    induction ws with
    | nil => intro τ _; rfl
    | cons w ws ih =>
      intro τ h
      show wipe ((wipe τ ws).set w none) vs = _
      rw [wipe_set (h w List.mem_cons_self)]
      exact ih τ fun i hi => h i (List.mem_cons_of_mem _ hi)
  exact k vs σ fun i hi => hi
/-- a target that stores at the places is alone -/
def TgW (K : PySem.W.Frag) (Z : ZC) (is : List Nat) (g : TG) (f : D → En → Option En) : Prop := ∀ (σ : SS) (H : Hp) (e e' : En) (v : V) (d : D) (Q : SS → Hp → Prop), Rel K Z σ H e → Rp K H v d → f d e = some e' → (∀ σ', Rel K Z σ' H e' → (∀ vs, (∀ i ∈ is, i ∈ vs) → wipe σ' vs = wipe σ vs) → Q σ' H) → g v σ H Q
theorem tw_n {K : PySem.W.Frag} {Z : ZC} {i : Nat} (hi : i ∉ Z.ios) : TgW K Z [i] (gName i) (setN i) := fun σ H e e' v d Q R r h q => q _ (rel_setN R r h hi) fun vs hv => wipe_set (hv i List.mem_cons_self)
theorem gw_ns {K : PySem.W.Frag} {Z : ZC} {H : Hp} {Q : SS → Hp → Prop} : ∀ {is : List Nat} {σ : SS} {e e' : En} {vs : List V} {ds : List D}, Rel K Z σ H e → RpA K H vs ds → setNs is ds e = some e' → (∀ i ∈ is, i ∉ Z.ios) → (∀ σ', Rel K Z σ' H e' → (∀ vs, (∀ i ∈ is, i ∈ vs) → wipe σ' vs = wipe σ vs) → Q σ' H) → gsN is vs σ H Q
  | [], σ, e, e', vs, [], R, r, h, _, q => by
    cases r
    cases h
    exact ⟨rfl, q σ R fun _ _ => rfl⟩
  | i :: is, σ, e, e', vs, d :: ds, R, r, h, hi, q => by
    cases r with
    | cons r1 r2 =>
      simp only [setNs] at h
      obtain ⟨e1, h1, h2⟩ := Option.bind_eq_some_iff.mp h
      exact ⟨_, _, rfl, gw_ns (rel_setN R r1 h1 (hi i List.mem_cons_self)) r2 h2 (fun j hj => hi j (List.mem_cons_of_mem _ hj)) fun σ' R' w => q σ' R' fun vs hv => (w vs fun j hj => hv j (List.mem_cons_of_mem _ hj)).trans (wipe_set (hv i List.mem_cons_self))⟩
  | [], _, _, _, _, _ :: _, _, _, h, _, _ => by cases h
  | _ :: _, _, _, _, _, [], _, _, h, _, _ => by cases h
theorem tw_t {K : PySem.W.Frag} {Z : ZC} {is : List Nat} (hi : ∀ i ∈ is, i ∉ Z.ios) : TgW K Z is (gSeqT K is) (setT is) := fun σ H e e' v d Q R r h q => by
  cases d with
  | tuple ds =>
    obtain ⟨a, xs, rfl, ha, ra⟩ := rp_tup r
    exact .inl ⟨a, xs, rfl, ha, ra.length.trans (setNs_len h), gw_ns R ra h hi q⟩
  | list ds =>
    obtain ⟨a, xs, rfl, ha, ra⟩ := rp_lst r
    exact .inr ⟨a, xs, rfl, ha, ra.length.trans (setNs_len h), gw_ns R ra h hi q⟩
  | _ => cases h
theorem restE_op {e e' : En} {vs : List Nat} {i : Nat} {d : D} (h : (restE e e' vs)[i]? = some (.op d)) : i ∉ vs ∧ e'[i]? = some (.op d) := by
  rcases restE_at h (by simp) with q | ⟨_, _, q, _⟩
  · exact q
  · cases q
theorem t_lc {K : PySem.W.Frag} {Z : ZC} {g : TG} {f : D → En → Option En} {is vs : List Nat} {mi : M (List D)} {mc : M Bool} {me : M D} (hg : ∀ D acc, TgW K (ZT Z D acc) is g f) (hi : ∀ i ∈ is, i ∈ vs) (hv : ∀ i ∈ Z.ios, i ∉ vs) (σ : SS) (H : Hp) (Q : VK) (p : tO K Z (lcM vs mi f mc me) σ H Q) :
    tLc (tI K Z mi) g (tZ K Z (fun _ => rB) mc) (tZ K Z (fun _ => rV K) me) vs σ H Q := by
  obtain ⟨e, R, p⟩ := p
  refine ⟨e, R, ?_⟩
  unfold lcM bnd at p
  cases q : mi e with
  | exc x e1 => rw [q] at p; exact fun H' m R' => p H' m R'
  | no => rw [q] at p; exact p
  | ok ds e1 =>
    rw [q] at p
    intro J H1 m1 R1 it D hD
    have p : pst K Z (rO K Z) σ H Q (match cmpL f mc me vs ds (wipeE e1 vs) with
      | .ok ys e2 => if ys.length ≤ sizeLine then .ok (.list ys) (restE e1 e2 vs) else .no
      | _ => .no) := p
    cases qc : cmpL f mc me vs ds (wipeE e1 vs) with
    | exc x e2 => rw [qc] at p; exact p.elim
    | no => rw [qc] at p; exact p.elim
    | ok tot ef =>
      rw [qc] at p
      have p : pst K Z (rO K Z) σ H Q (if tot.length ≤ sizeLine then .ok (.list tot) (restE e1 ef vs) else .no) := p
      by_cases hsz : tot.length ≤ sizeLine
      · rw [if_pos hsz] at p
        obtain ⟨b1, b2, b3⟩ := R1.fresh hD
        have RW := rel_wipe R1 hv
        obtain ⟨_, w2, _⟩ := RW.fresh hD
        have s0 : Same H1 (upd H1 D (.lst [])) := same_upd hD
        refine ⟨fun i n H' => ∃ acc done ys e', n = ds.length - i ∧ i ≤ ds.length ∧ Mono H1 H' ∧ Rel K (ZT Z D acc) (wipe σ vs) H' e' ∧ RpA K H' acc done ∧ cmpL f mc me vs (ds.drop i) e' = .ok ys ef ∧ done ++ ys = tot,
          ⟨_, [], [], tot, _, rfl, Nat.zero_le _, .same s0, rel_in (RW.same s0) upd_same b1 w2, .nil, qc, rfl⟩, ?_⟩
        rintro i n H' ⟨acc, done, ys, e', rfl, hil, mo, R', ra, hc, ht⟩
        by_cases hlt : i < ds.length
        · refine .inr ⟨it.go H' mo i hlt, fun H'' => ∃ acc done ys e', i + 1 ≤ ds.length ∧ Mono H1 H'' ∧ Rel K (ZT Z D acc) (wipe σ vs) H'' e' ∧ RpA K H'' acc done ∧ cmpL f mc me vs (ds.drop (i + 1)) e' = .ok ys ef ∧ done ++ ys = tot, fun H'' ⟨acc, done, ys, e', h⟩ => ⟨ds.length - (i + 1), by omega, acc, done, ys, e', rfl, h⟩, fun x H2 y => ?_⟩
          obtain ⟨s, rx⟩ := it.yld H' mo i ds[i] x H2 (by simp [hlt]) y
          rw [drop_get hlt] at hc
          unfold cmpL at hc
          cases hf : f ds[i] e' with
          | none => rw [hf] at hc; cases hc
          | some e2 =>
            rw [hf] at hc
            refine hg D acc (wipe σ vs) H2 e' e2 x ds[i] _ (R'.same s) rx hf fun σ2 R2 hw => ?_
            have w2 : wipe σ2 vs = wipe σ vs := (hw vs hi).trans (wipe_wipe σ vs)
            refine ⟨w2, D, acc, e2, R2, ?_⟩
            have hc : (match mc e2 with
              | .ok true e2 => (match me e2 with
                | .ok y e3 => (match cmpL f mc me vs (ds.drop (i + 1)) (wipeE e3 vs) with
                  | .ok ys e4 => .ok (y :: ys) e4
                  | _ => .no)
                | _ => .no)
              | .ok false e2 => (match cmpL f mc me vs (ds.drop (i + 1)) (wipeE e2 vs) with
                | .ok ys e4 => .ok ys e4
                | _ => .no)
              | _ => .no : Out (List ZZ.D)) = .ok ys ef := hc
            have m2 : Mono H1 H2 := mo.trans (.same s)
            cases hb : mc e2 with
            | no => rw [hb] at hc; cases hc
            | exc x e3 => rw [hb] at hc; cases hc
            | ok b e3 =>
              rw [hb] at hc
              intro b' H3 m3 R3 r3
              cases r3
              have out : ∀ {σ2 : SS} {H4 : Hp} {e4 : En}, wipe σ2 vs = wipe σ vs → Rel K (ZT Z D acc) σ2 H4 e4 → Rel K (ZT Z D acc) (wipe σ vs) H4 (wipeE e4 vs) := fun {σ2 H4 e4} w R4 => by
                rw [← w]
                exact rel_wipe R4 hv
              cases b with
              | false =>
                rw [if_neg Bool.false_ne_true]
                have hc : (match cmpL f mc me vs (ds.drop (i + 1)) (wipeE e3 vs) with
                  | .ok ys e4 => .ok ys e4
                  | _ => .no : Out (List ZZ.D)) = .ok ys ef := hc
                cases hr : cmpL f mc me vs (ds.drop (i + 1)) (wipeE e3 vs) with
                | no => rw [hr] at hc; cases hc
                | exc x e4 => rw [hr] at hc; cases hc
                | ok zs e4 =>
                  rw [hr] at hc
                  cases hc
                  exact ⟨acc, done, ys, wipeE e3 vs, hlt, m2.trans m3, out w2 R3, ra.mono ((Mono.same s).trans m3), hr, ht⟩
              | true =>
                rw [if_pos rfl]
                have hc : (match me e3 with
                  | .ok y e3 => (match cmpL f mc me vs (ds.drop (i + 1)) (wipeE e3 vs) with
                    | .ok ys e4 => .ok (y :: ys) e4
                    | _ => .no)
                  | _ => .no : Out (List ZZ.D)) = .ok ys ef := hc
                refine ⟨D, acc, e3, R3, ?_⟩
                cases he : me e3 with
                | no => rw [he] at hc; cases hc
                | exc x e4 => rw [he] at hc; cases hc
                | ok y e4 =>
                  rw [he] at hc
                  have hc : (match cmpL f mc me vs (ds.drop (i + 1)) (wipeE e4 vs) with
                    | .ok ys e4 => .ok (y :: ys) e4
                    | _ => .no : Out (List ZZ.D)) = .ok ys ef := hc
                  cases hr : cmpL f mc me vs (ds.drop (i + 1)) (wipeE e4 vs) with
                  | no => rw [hr] at hc; cases hc
                  | exc x e5 => rw [hr] at hc; cases hc
                  | ok zs e5 =>
                    rw [hr] at hc
                    cases hc
                    intro v H4 m4 R4 rv
                    obtain ⟨Ro, hDacc, _, _⟩ := rel_out R4
                    have l1 := (ra.length : acc.length = done.length)
                    have l2 : (done ++ y :: zs).length = tot.length := congrArg List.length ht
                    rw [List.length_append, List.length_cons] at l2
                    have mo4 : Mono H4 (upd H4 D (.lst (acc ++ [v]))) := mono_upd hDacc trivial
                    have ms : Mono H' H4 := (Mono.same s).trans (m3.trans m4)
                    refine ⟨acc, hDacc, by omega, acc ++ [v], done ++ [y], zs, wipeE e4 vs, hlt, (m2.trans m3).trans (m4.trans mo4), tmp_chg (out w2 R4) b3, (ra.mono (ms.trans mo4)).append (.cons (Rp.mono mo4 rv) .nil), hr, ?_⟩
                    rw [List.append_assoc]
                    exact ht
        · have ei : i = ds.length := by omega
          subst ei
          rw [List.drop_length] at hc
          cases hc
          rw [List.append_nil] at ht
          subst ht
          obtain ⟨Ro, hDacc, hb, hs⟩ := rel_out R'
          refine .inl ⟨it.stop H' mo, p (.ref D) H' (m1.trans mo) (rel_rest R1 mo Ro hv) ⟨D, rfl, ⟨acc, hDacc, ra⟩, hb, fun j d hj => ?_, b3⟩⟩
          obtain ⟨q1, q2⟩ := restE_op hj
          have := hs j d q2
          rw [wipe_out' q1] at this
          exact this
      · rw [if_neg hsz] at p
        exact p.elim
section
variable {X : Cx} {Z : ZC} {pos p : Pos}
abbrev BK (X : Cx) (scope : Scope) (s : Shared) (H : Hp) (C : Addr) (cl : List (Str × Addr)) (fp : List Addr) : Cx := X.blk s H scope (compEnvC scope cl C X.env) fp
theorem PTs_weak {ifs : List Expr} {t t' : TT} (h : PTs X ifs t) (w : ∀ σ H Q, t' σ H Q → t σ H Q) : PTs X ifs t' := ⟨fun pins s σ H Q I q => h.run pins s σ H Q I (w σ H Q q)⟩
theorem k_nil {Z' : ZC} : PTs X [] (tZ X.K Z' (fun _ => rB) (ret true)) := PTs_weak pts_nil fun σ H Q ⟨D, acc, e, R, p⟩ => p true H .refl R rfl
theorem k_one {c : Expr} {mc : M Bool} {Z' : ZC} (h : ∀ D acc, PT X c (tT X.K (ZT Z' D acc) mc)) : PTs X [c] (tZ X.K Z' (fun _ => rB) mc) := pts_one ⟨fun pins s σ H Q I ⟨D, acc, q⟩ => (h D acc).run pins s σ H Q I q⟩
theorem e_lc {elt tg iter : Expr} {ifs : List Expr} {scope : Scope} {own : List (Str × Nat)} {g : TG} {f : D → En → Option En} {is vs : List Nat} {mi : M (List D)} {mc : M Bool} {me : M D} (hc : X.calm = true) (hN : X.N.Nodup) (hi : PI X tg iter (tI X.K Z mi)) (ok : blkC X.N X.env.scope scope own = true) (hvs : own.map (·.2) = vs) (his : ∀ i ∈ is, i ∈ vs) (hv : ∀ i ∈ Z.ios, i ∉ vs)
    (hw : ∀ D acc, TgW X.K (ZT Z D acc) is g f) (hg : ∀ s H C cl fp, PG (BK X scope s H C cl fp) tg g) (ht : ∀ s H C cl fp, PTs (BK X scope s H C cl fp) ifs (tZ X.K Z (fun _ => rB) mc)) (he : ∀ D acc s H C cl fp, PE (BK X scope s H C cl fp) elt (tM X.K (ZT Z D acc) me)) (hs : ∀ x, foldedSetIterable iter X.env x = pure x := by intro _; rfl) :
    PE X (.ListComp elt [⟨tg, iter, ifs, 0⟩] scope pos) (tO X.K Z (lcM vs mi f mc me)) := by
  subst hvs
  exact PE_weak (pe_lc hc hN hi (blkOk_by ok) hg ht (fun s H C cl fp => (⟨fun pins s' σ H' Q I ⟨D, acc, q⟩ => (he D acc s H C cl fp).run pins s' σ H' Q I q⟩ : PE (BK X scope s H C cl fp) elt (tZ X.K Z (fun _ => rV X.K) me))) hs) (t_lc hw his hv)
/-- x = [..] on one line: open -/
theorem s_lcO {i : Nat} {y : Str} {py : Pos} {elt tg iter : Expr} {ifs : List Expr} {scope : Scope} {own : List (Str × Nat)} {g : TG} {f : D → En → Option En} {is vs : List Nat} {mi : M (List D)} {mc : M Bool} {me : M D} {spos : Pos} (hc : X.calm = true) (hN : X.N.Nodup) (hy : X.N[i]? = some y) (hyl : X.env.scope.names.lookup y = some .local) (hio : i ∉ Z.ios)
    (hsw : swapsWith (.ListComp elt [⟨tg, iter, ifs, 0⟩] scope pos) (some (.Name y py)) spos.line X.env = pure true) (hi : PI X tg iter (tI X.K Z mi)) (ok : blkC X.N X.env.scope scope own = true) (hvs : own.map (·.2) = vs) (his : ∀ i ∈ is, i ∈ vs) (hv : ∀ i ∈ Z.ios, i ∉ vs)
    (hw : ∀ D acc, TgW X.K (ZT Z D acc) is g f) (hg : ∀ s H C cl fp, PG (BK X scope s H C cl fp) tg g) (ht : ∀ s H C cl fp, PTs (BK X scope s H C cl fp) ifs (tZ X.K Z (fun _ => rB) mc)) (he : ∀ D acc s H C cl fp, PE (BK X scope s H C cl fp) elt (tM X.K (ZT Z D acc) me)) (hs : ∀ x, foldedSetIterable iter X.env x = pure x := by intro _; rfl) :
    PS X (.Assign [.Name y py] (.ListComp elt [⟨tg, iter, ifs, 0⟩] scope pos) spos) (tS X.K Z (sAsgO i (lcM vs mi f mc me))) := by
  subst hvs
  refine PS_weak (ps_setLc (i := i) hc hN hy hyl hsw hi (blkOk_by ok) hg ht (fun s H C cl fp => (⟨fun pins s' σ H' Q I ⟨D, acc, q⟩ => (he D acc s H C cl fp).run pins s' σ H' Q I q⟩ : PE (BK X scope s H C cl fp) elt (tZ X.K Z (fun _ => rV X.K) me))) hs) fun D σ H q => ?_
  exact t_lc hw his hv σ H _ (t_asgO hio q)
/-- .. locked -/
theorem s_lcL {i : Nat} {y : Str} {py : Pos} {elt tg iter : Expr} {ifs : List Expr} {scope : Scope} {own : List (Str × Nat)} {g : TG} {f : D → En → Option En} {is vs : List Nat} {mi : M (List D)} {mc : M Bool} {me : M D} {spos : Pos} (hc : X.calm = true) (hN : X.N.Nodup) (hy : X.N[i]? = some y) (hyl : X.env.scope.names.lookup y = some .local) (hio : i ∉ Z.ios)
    (hsw : swapsWith (.ListComp elt [⟨tg, iter, ifs, 0⟩] scope pos) (some (.Name y py)) spos.line X.env = pure true) (hi : PI X tg iter (tI X.K Z mi)) (ok : blkC X.N X.env.scope scope own = true) (hvs : own.map (·.2) = vs) (his : ∀ i ∈ is, i ∈ vs) (hv : ∀ i ∈ Z.ios, i ∉ vs)
    (hw : ∀ D acc, TgW X.K (ZT Z D acc) is g f) (hg : ∀ s H C cl fp, PG (BK X scope s H C cl fp) tg g) (ht : ∀ s H C cl fp, PTs (BK X scope s H C cl fp) ifs (tZ X.K Z (fun _ => rB) mc)) (he : ∀ D acc s H C cl fp, PE (BK X scope s H C cl fp) elt (tM X.K (ZT Z D acc) me)) (hs : ∀ x, foldedSetIterable iter X.env x = pure x := by intro _; rfl) :
    PS X (.Assign [.Name y py] (.ListComp elt [⟨tg, iter, ifs, 0⟩] scope pos) spos) (tS X.K Z (sAsg (setN i) (lcM vs mi f mc me))) := by
  subst hvs
  refine PS_weak (ps_lk (ps_setLc (i := i) hc hN hy hyl hsw hi (blkOk_by ok) hg ht (fun s H C cl fp => (⟨fun pins s' σ H' Q I ⟨D, acc, q⟩ => (he D acc s H C cl fp).run pins s' σ H' Q I q⟩ : PE (BK X scope s H C cl fp) elt (tZ X.K Z (fun _ => rV X.K) me))) hs)) fun D σ H q => ?_
  exact t_lc hw his hv σ H _ (t_asgL hio q)
end
end ZZ

namespace ZZ
open PySem PySem.Spec PyProof.Rows L2

/-! ### calls of built-in functions and types on data -/
def Cal1 (K : PySem.W.Frag) (r : List V → Hp → VK → Prop) (op : D → Option D) : Prop := ∀ (v : V) (x d : D) (H : Hp) (Q : VK), Rq K H v x → op x = some d → (∀ u H', Same H H' → Rp K H' u d → Q u H') → r [v] H Q
def Cal1O (K : PySem.W.Frag) (r : List V → Hp → VK → Prop) (op : D → Option D) : Prop := ∀ (v : V) (x d : D) (H : Hp) (Q : VK), Rq K H v x → op x = some d → (∀ a H', Same H H' → Opn K H' a d → H a = none → Q (.ref a) H') → r [v] H Q
def Cal2 (K : PySem.W.Frag) (r : List V → Hp → VK → Prop) (op : D → D → Option D) : Prop := ∀ (v w : V) (x y d : D) (H : Hp) (Q : VK), Rp K H v x → Rq K H w y → op x y = some d → (∀ u H', Same H H' → Rp K H' u d → Q u H') → r [v, w] H Q
section
variable {K : PySem.W.Frag} {Z : ZC} {r : List V → Hp → VK → Prop}
theorem t_c1 {op : D → Option D} {m : M D} (h : Cal1 K r op) (σ : SS) (H : Hp) (Q : VK) (p : tM K Z (una op m) σ H Q) : tCB r (tCons (tQ K Z m) tNil) σ H Q := by
  obtain ⟨e, R, p⟩ := p
  refine ⟨e, R, pst_bnd p fun v H1 x e1 m1 R1 r1 p1 => ?_⟩
  obtain ⟨d, hd, q⟩ := pst_lft p1
  exact h v x d H1 Q r1 hd fun u H' s ru => q u H' (.same s) (R1.same s) ru
theorem t_c1O {op : D → Option D} {m : M D} (h : Cal1O K r op) (σ : SS) (H : Hp) (Q : VK) (p : tO K Z (una op m) σ H Q) : tCB r (tCons (tQ K Z m) tNil) σ H Q := by
  obtain ⟨e, R, p⟩ := p
  refine ⟨e, R, pst_bnd p fun v H1 x e1 m1 R1 r1 p1 => ?_⟩
  obtain ⟨d, hd, q⟩ := pst_lft p1
  refine h v x d H1 Q r1 hd fun a H' s o hc => q (.ref a) H' (.same s) (R1.same s) ?_
  obtain ⟨hb, hs⟩ := R1.fresh hc
  exact ⟨a, rfl, o, hb, hs⟩
theorem t_c2 {op : D → D → Option D} {m m' : M D} (h : Cal2 K r op) (σ : SS) (H : Hp) (Q : VK) (p : tM K Z (bin op m m') σ H Q) : tCB r (tCons (tM K Z m) (tCons (tQ K Z m') tNil)) σ H Q := by
  obtain ⟨e, R, p⟩ := p
  refine ⟨e, R, pst_bnd p fun v H1 x e1 m1 R1 r1 p1 => ⟨e1, R1, pst_bnd p1 fun w H2 y e2 m2 R2 r2 p2 => ?_⟩⟩
  obtain ⟨d, hd, q⟩ := pst_lft p2
  exact h v w x y d H2 Q (Rp.mono m2 r1) r2 hd fun u H' s ru => q u H' (.same s) (R2.same s) ru
end
section
variable {X : Cx} {Z : ZC} {x : Str} {p pos : Pos} {a b : Expr} {id T : String} {r : List V → Hp → VK → Prop}
theorem e_f1 {op : D → Option D} {m : M D} (hc : CallR X (.builtin id) r) (h : Cal1 X.K r op) (hv : bootBuiltins x = some (.builtin id)) (hg : Gl X x) (hm : X.mg x = none) (ha : PE X a (tQ X.K Z m)) (hn : x ≠ "__name__" := by decide) (hdb : (x == ("__debug__" : Str)) = false := by decide)
    (he : starEach [a] X.env = (false, eval a X.env) :: starEach [] X.env := by rfl) : PE X (.Call (.Name x p) [a] [] pos) (tM X.K Z (una op m)) :=
  PE_weak (pe_callB hc hg hm hv (pa_cons ha pa_nil he) hn hdb he) (t_c1 h)
theorem e_t1 {op : D → Option D} {m : M D} (hc : CallR X (.type T) r) (h : Cal1 X.K r op) (hv : bootBuiltins x = some (.type T)) (hg : Gl X x) (hm : X.mg x = none) (ha : PE X a (tQ X.K Z m)) (hn : x ≠ "__name__" := by decide) (hdb : (x == ("__debug__" : Str)) = false := by decide)
    (he : starEach [a] X.env = (false, eval a X.env) :: starEach [] X.env := by rfl) : PE X (.Call (.Name x p) [a] [] pos) (tM X.K Z (una op m)) :=
  PE_weak (pe_callTy hc hg hm hv (pa_cons ha pa_nil he) hn hdb he) (t_c1 h)
theorem e_t1O {op : D → Option D} {m : M D} (hc : CallR X (.type T) r) (h : Cal1O X.K r op) (hv : bootBuiltins x = some (.type T)) (hg : Gl X x) (hm : X.mg x = none) (ha : PE X a (tQ X.K Z m)) (hn : x ≠ "__name__" := by decide) (hdb : (x == ("__debug__" : Str)) = false := by decide)
    (he : starEach [a] X.env = (false, eval a X.env) :: starEach [] X.env := by rfl) : PE X (.Call (.Name x p) [a] [] pos) (tO X.K Z (una op m)) :=
  PE_weak (pe_callTy hc hg hm hv (pa_cons ha pa_nil he) hn hdb he) (t_c1O h)
theorem e_f2 {op : D → D → Option D} {m m' : M D} (hc : CallR X (.builtin id) r) (h : Cal2 X.K r op) (hv : bootBuiltins x = some (.builtin id)) (hg : Gl X x) (hm : X.mg x = none) (ha : PE X a (tM X.K Z m)) (hb : PE X b (tQ X.K Z m')) (hn : x ≠ "__name__" := by decide) (hdb : (x == ("__debug__" : Str)) = false := by decide)
    (he : starEach [a, b] X.env = (false, eval a X.env) :: starEach [b] X.env := by rfl) (he2 : starEach [b] X.env = (false, eval b X.env) :: starEach [] X.env := by rfl) (hpl : (backTo pos (starEach [b] X.env)).any (·.1) = false := by rfl) : PE X (.Call (.Name x p) [a, b] [] pos) (tM X.K Z (bin op m m')) :=
  PE_weak (pe_callB hc hg hm hv (pa_cons ha (pa_cons hb pa_nil he2) he) hn hdb he hpl) (t_c2 h)
end

/-! len -/
def lenD : D → Option D
  | .list ds => some (.int ds.length)
  | .tuple ds => some (.int ds.length)
  | .str z => if z.length ≤ sizeLine then some (.int z.length) else none
  | _ => none
section
variable {X : Cx} {Z : ZC} {p pos : Pos} {a b : Expr} {m m' : M D}
theorem b_len {K : PySem.W.Frag} : Cal1 K (fun xs H Q => ∃ x n, xs = [x] ∧ LenV K x H n ∧ Q (.int n) H) lenD := fun v x d H Q hx h q => by
  unfold lenD at h
  split at h
  · rename_i ds; cases h
    obtain ⟨a, xs, rfl, hs, r⟩ := rq_lst hx
    exact ⟨_, ds.length, rfl, .inl ⟨xs, hs, r.length.symm⟩, q _ H (Same.refl H) (.int _)⟩
  · rename_i ds; cases h
    obtain ⟨a, xs, rfl, hs, r⟩ := rq_tup hx
    exact ⟨_, ds.length, rfl, .inr ⟨xs, hs, r.length.symm⟩, q _ H (Same.refl H) (.int _)⟩
  · rename_i z
    split at h
    · rename_i hz; cases h
      rw [rq_str hx]
      exact ⟨_, z.length, rfl, ⟨hz, rfl⟩, q _ H (Same.refl H) (.int _)⟩
    · cases h
  · cases h
theorem e_len (hg : Gl X "len") (hm : X.mg "len" = none) (ha : PE X a (tQ X.K Z m)) (he : starEach [a] X.env = (false, eval a X.env) :: starEach [] X.env := by rfl) : PE X (.Call (.Name "len" p) [a] [] pos) (tM X.K Z (una lenD m)) :=
  e_f1 call_len b_len boot_len hg hm ha (he := he)

/-! all, any -/
def boolsD : List D → Option (List Bool)
  | [] => some []
  | .bool b :: ds => (boolsD ds).map (b :: ·)
  | _ :: _ => none
theorem bools_rp {K : PySem.W.Frag} {H : Hp} : ∀ {xs : List V} {ds : List D} {bs : List Bool}, RpA K H xs ds → boolsD ds = some bs → xs = bs.map V.bl
  | _, _, _, .nil, h => by cases h; rfl
  | _, _, _, .cons (d := d) r t, h => by
    cases d with
    | bool b =>
      simp only [boolsD] at h
      obtain ⟨bs', h1, rfl⟩ := Option.map_eq_some_iff.mp h
      rw [bools_rp t h1, rp_bl r]; rfl
    | _ => cases h
def allD : D → Option D
  | .list ds => (boolsD ds).map fun bs => .bool (bs.all id)
  | _ => none
def anyD : D → Option D
  | .list ds => (boolsD ds).map fun bs => .bool (bs.any id)
  | _ => none
theorem b_all {K : PySem.W.Frag} : Cal1 K (rAll K) allD := fun v x d H Q hx h q => by
  unfold allD at h
  split at h
  · obtain ⟨bs, h1, rfl⟩ := Option.map_eq_some_iff.mp h
    obtain ⟨a, xs, rfl, hs, r⟩ := rq_lst hx
    rw [bools_rp r h1] at hs
    exact ⟨a, bs, rfl, hs, q _ H (Same.refl H) (.bl _)⟩
  · cases h
theorem b_any {K : PySem.W.Frag} : Cal1 K (rAny K) anyD := fun v x d H Q hx h q => by
  unfold anyD at h
  split at h
  · obtain ⟨bs, h1, rfl⟩ := Option.map_eq_some_iff.mp h
    obtain ⟨a, xs, rfl, hs, r⟩ := rq_lst hx
    rw [bools_rp r h1] at hs
    exact ⟨a, bs, rfl, hs, q _ H (Same.refl H) (.bl _)⟩
  · cases h
theorem boot_all : bootBuiltins "all" = some (.builtin "all") := by decide +kernel
theorem boot_any : bootBuiltins "any" = some (.builtin "any") := by decide +kernel
theorem boot_abs : bootBuiltins "abs" = some (.builtin "abs") := by decide +kernel
theorem boot_repr : bootBuiltins "repr" = some (.builtin "repr") := by decide +kernel
theorem boot_isi : bootBuiltins "isinstance" = some (.builtin "isinstance") := by decide +kernel
theorem boot_sum : bootBuiltins "sum" = some (.builtin "sum") := by decide +kernel
theorem boot_max : bootBuiltins "max" = some (.builtin "max") := by decide +kernel
theorem boot_min : bootBuiltins "min" = some (.builtin "min") := by decide +kernel
theorem boot_int : bootBuiltins "int" = some (.type "int") := by decide +kernel
theorem boot_bool : bootBuiltins "bool" = some (.type "bool") := by decide +kernel
theorem boot_str : bootBuiltins "str" = some (.type "str") := by decide +kernel
theorem boot_list : bootBuiltins "list" = some (.type "list") := by decide +kernel
theorem boot_tuple : bootBuiltins "tuple" = some (.type "tuple") := by decide +kernel
theorem boot_dict : bootBuiltins "dict" = some (.type "dict") := by decide +kernel
theorem e_all (hc : X.calm = true) (hg : Gl X "all") (hm : X.mg "all" = none) (ha : PE X a (tQ X.K Z m)) (he : starEach [a] X.env = (false, eval a X.env) :: starEach [] X.env := by rfl) : PE X (.Call (.Name "all" p) [a] [] pos) (tM X.K Z (una allD m)) :=
  e_f1 (cr_all hc) b_all boot_all hg hm ha (he := he)
theorem e_any (hc : X.calm = true) (hg : Gl X "any") (hm : X.mg "any" = none) (ha : PE X a (tQ X.K Z m)) (he : starEach [a] X.env = (false, eval a X.env) :: starEach [] X.env := by rfl) : PE X (.Call (.Name "any" p) [a] [] pos) (tM X.K Z (una anyD m)) :=
  e_f1 (cr_any hc) b_any boot_any hg hm ha (he := he)

/-! int, bool, str, abs -/
def intD : D → Option D
  | .int i => some (.int i)
  | .bool b => some (.int (if b then 1 else 0))
  | _ => none
def boolD : D → Option D
  | .int i => some (.bool (i != 0))
  | .bool b => some (.bool b)
  | _ => none
def strD : D → Option D
  | .int i => if i.natAbs.log2 < 1920 then some (.str (toString i)) else none
  | .str z => some (.str z)
  | _ => none
def absD : D → Option D
  | .int i => some (.int (if i < 0 then -i else i))
  | _ => none
theorem b_int {K : PySem.W.Frag} : Cal1 K (fun xs H Q => (∃ i, xs = [.int i] ∧ Q (.int i) H) ∨ ∃ k, xs = [.bl k] ∧ Q (.int (if k then 1 else 0)) H) intD := fun v x d H Q hx h q => by
  unfold intD at h
  split at h
  · cases h; rw [rq_int hx]; exact .inl ⟨_, rfl, q _ H (Same.refl H) (.int _)⟩
  · cases h; rw [rq_bl hx]; exact .inr ⟨_, rfl, q _ H (Same.refl H) (.int _)⟩
  · cases h
theorem b_bool {K : PySem.W.Frag} : Cal1 K (fun xs H Q => (∃ i, xs = [.int i] ∧ Q (.bl (i != 0)) H) ∨ ∃ k, xs = [.bl k] ∧ Q (.bl k) H) boolD := fun v x d H Q hx h q => by
  unfold boolD at h
  split at h
  · cases h; rw [rq_int hx]; exact .inl ⟨_, rfl, q _ H (Same.refl H) (.bl _)⟩
  · cases h; rw [rq_bl hx]; exact .inr ⟨_, rfl, q _ H (Same.refl H) (.bl _)⟩
  · cases h
theorem b_str {K : PySem.W.Frag} : Cal1 K (fun xs H Q => (∃ i, xs = [.int i] ∧ i.natAbs.log2 < 1920 ∧ Q (.str (toString i)) H) ∨ ∃ a, xs = [.str a] ∧ Q (.str a) H) strD := fun v x d H Q hx h q => by
  unfold strD at h
  split at h
  · split at h
    · rename_i hi; cases h; rw [rq_int hx]; exact .inl ⟨_, rfl, hi, q _ H (Same.refl H) (.str _)⟩
    · cases h
  · cases h; rw [rq_str hx]; exact .inr ⟨_, rfl, q _ H (Same.refl H) (.str _)⟩
  · cases h
theorem b_abs {K : PySem.W.Frag} : Cal1 K (fun xs H Q => ∃ i, xs = [.int i] ∧ Q (.int (if i < 0 then -i else i)) H) absD := fun v x d H Q hx h q => by
  unfold absD at h
  split at h
  · cases h; rw [rq_int hx]; exact ⟨_, rfl, q _ H (Same.refl H) (.int _)⟩
  · cases h
theorem e_int1 (hg : Gl X "int") (hm : X.mg "int" = none) (ha : PE X a (tM X.K Z m)) (he : starEach [a] X.env = (false, eval a X.env) :: starEach [] X.env := by rfl) : PE X (.Call (.Name "int" p) [a] [] pos) (tM X.K Z (una intD m)) :=
  e_t1 call_int1 b_int boot_int hg hm (e_q ha) (he := he)
theorem e_bool1 (hg : Gl X "bool") (hm : X.mg "bool" = none) (ha : PE X a (tM X.K Z m)) (he : starEach [a] X.env = (false, eval a X.env) :: starEach [] X.env := by rfl) : PE X (.Call (.Name "bool" p) [a] [] pos) (tM X.K Z (una boolD m)) :=
  e_t1 call_bool1 b_bool boot_bool hg hm (e_q ha) (he := he)
theorem e_str1 (hg : Gl X "str") (hm : X.mg "str" = none) (ha : PE X a (tM X.K Z m)) (he : starEach [a] X.env = (false, eval a X.env) :: starEach [] X.env := by rfl) : PE X (.Call (.Name "str" p) [a] [] pos) (tM X.K Z (una strD m)) :=
  e_t1 (call_str_int.or SkE.call_str_str) b_str boot_str hg hm (e_q ha) (he := he)
theorem e_abs (hg : Gl X "abs") (hm : X.mg "abs" = none) (ha : PE X a (tM X.K Z m)) (he : starEach [a] X.env = (false, eval a X.env) :: starEach [] X.env := by rfl) : PE X (.Call (.Name "abs" p) [a] [] pos) (tM X.K Z (una absD m)) :=
  e_f1 call_abs b_abs boot_abs hg hm (e_q ha) (he := he)

/-! list, tuple -/
def listD : D → Option D
  | .list ds => some (.list ds)
  | .tuple ds => some (.list ds)
  | _ => none
def tupD : D → Option D
  | .list ds => some (.tuple ds)
  | .tuple ds => some (.tuple ds)
  | _ => none
theorem b_list {K : PySem.W.Frag} : Cal1O K (fun xs H Q => ∃ p ys, xs = [.ref p] ∧ (SqL K H p ys ∨ SqT K H p ys) ∧ ∀ l, H l = none → Q (.ref l) (upd H l (.lst ys))) listD := fun v x d H Q hx h q => by
  unfold listD at h
  split at h
  · cases h
    obtain ⟨a, xs, rfl, hs, r⟩ := rq_lst hx
    exact ⟨a, xs, rfl, .inl hs, fun l hl => q l _ (same_upd hl) ⟨xs, upd_same, r.mono (.same (same_upd hl))⟩ hl⟩
  · cases h
    obtain ⟨a, xs, rfl, hs, r⟩ := rq_tup hx
    exact ⟨a, xs, rfl, .inr hs, fun l hl => q l _ (same_upd hl) ⟨xs, upd_same, r.mono (.same (same_upd hl))⟩ hl⟩
  · cases h
theorem b_tup {K : PySem.W.Frag} : Cal1 K (fun xs H Q => ∃ p ys, xs = [.ref p] ∧ ((SqL K H p ys ∧ ∀ l, H l = none → Q (.ref l) (upd H l (.tup ys))) ∨ (SqT K H p ys ∧ Q (.ref p) H))) tupD := fun v x d H Q hx h q => by
  unfold tupD at h
  split at h
  · cases h
    obtain ⟨a, xs, rfl, hs, r⟩ := rq_lst hx
    exact ⟨a, xs, rfl, .inl ⟨hs, fun l hl => q (.ref l) _ (same_upd hl) (.tup (SqT.of upd_same) (r.mono (.same (same_upd hl))))⟩⟩
  · cases h
    obtain ⟨a, xs, rfl, hs, r⟩ := rq_tup hx
    exact ⟨a, xs, rfl, .inr ⟨hs, q _ H (Same.refl H) (.tup hs r)⟩⟩
  · cases h
theorem e_list (hg : Gl X "list") (hm : X.mg "list" = none) (ha : PE X a (tQ X.K Z m)) (he : starEach [a] X.env = (false, eval a X.env) :: starEach [] X.env := by rfl) : PE X (.Call (.Name "list" p) [a] [] pos) (tO X.K Z (una listD m)) :=
  e_t1O call_list_of b_list boot_list hg hm ha (he := he)
theorem e_tuple (hg : Gl X "tuple") (hm : X.mg "tuple" = none) (ha : PE X a (tQ X.K Z m)) (he : starEach [a] X.env = (false, eval a X.env) :: starEach [] X.env := by rfl) : PE X (.Call (.Name "tuple" p) [a] [] pos) (tM X.K Z (una tupD m)) :=
  e_t1 call_tuple_of b_tup boot_tuple hg hm ha (he := he)

/-! sum, max, min -/
def intsD : List D → Option (List Int)
  | [] => some []
  | .int b :: ds => (intsD ds).map (b :: ·)
  | _ :: _ => none
theorem ints_rp {K : PySem.W.Frag} {H : Hp} : ∀ {xs : List V} {ds : List D} {bs : List Int}, RpA K H xs ds → intsD ds = some bs → xs = bs.map V.int
  | _, _, _, .nil, h => by cases h; rfl
  | _, _, _, .cons (d := d) r t, h => by
    cases d with
    | int b =>
      simp only [intsD] at h
      obtain ⟨bs', h1, rfl⟩ := Option.map_eq_some_iff.mp h
      rw [ints_rp t h1, rp_int r]; rfl
    | _ => cases h
def sumD : D → Option D
  | .list ds => (intsD ds).map fun bs => .int bs.sum
  | _ => none
def topI (lt : Int → Int → Bool) : List Int → Option Int
  | [] => none
  | i :: is => some (is.foldl (fun a b => if lt a b then b else a) i)
def maxD : D → Option D
  | .list ds => (intsD ds).bind fun bs => (topI (fun a b => decide (a < b)) bs).map .int
  | _ => none
def minD : D → Option D
  | .list ds => (intsD ds).bind fun bs => (topI (fun a b => decide (b < a)) bs).map .int
  | _ => none
theorem fold_max : ∀ (is : List Int) (i : Int), (is.foldl (fun a b => if decide (a < b) then b else a) i ∈ i :: is) ∧ ∀ y ∈ i :: is, y ≤ is.foldl (fun a b => if decide (a < b) then b else a) i
  | [], i => ⟨by simp, fun y hy => by simp at hy; subst hy; exact Int.le_refl _⟩
  | j :: is, i => by
    simp only [List.foldl_cons]
    have ih := fold_max is (if decide (i < j) then j else i)
    refine ⟨?_, fun y hy => ?_⟩
    · rcases List.mem_cons.mp ih.1 with h | h
      · rw [h]; split <;> simp
      · exact List.mem_cons_of_mem _ (List.mem_cons_of_mem _ h)
    · have h0 := ih.2 _ List.mem_cons_self
      rcases List.mem_cons.mp hy with rfl | hy
      · refine Int.le_trans ?_ h0; split <;> simp_all <;> omega
      · rcases List.mem_cons.mp hy with rfl | hy
        · refine Int.le_trans ?_ h0; split <;> simp_all <;> omega
        · exact ih.2 y (List.mem_cons_of_mem _ hy)
theorem fold_min : ∀ (is : List Int) (i : Int), (is.foldl (fun a b => if decide (b < a) then b else a) i ∈ i :: is) ∧ ∀ y ∈ i :: is, is.foldl (fun a b => if decide (b < a) then b else a) i ≤ y
  | [], i => ⟨by simp, fun y hy => by simp at hy; subst hy; exact Int.le_refl _⟩
  | j :: is, i => by
    simp only [List.foldl_cons]
    have ih := fold_min is (if decide (j < i) then j else i)
    refine ⟨?_, fun y hy => ?_⟩
    · rcases List.mem_cons.mp ih.1 with h | h
      · rw [h]; split <;> simp
      · exact List.mem_cons_of_mem _ (List.mem_cons_of_mem _ h)
    · have h0 := ih.2 _ List.mem_cons_self
      rcases List.mem_cons.mp hy with rfl | hy
      · refine Int.le_trans h0 ?_; split <;> simp_all <;> omega
      · rcases List.mem_cons.mp hy with rfl | hy
        · refine Int.le_trans h0 ?_; split <;> simp_all <;> omega
        · exact ih.2 y (List.mem_cons_of_mem _ hy)
theorem b_sum {K : PySem.W.Frag} : Cal1 K (rSum K) sumD := fun v x d H Q hx h q => by
  unfold sumD at h
  split at h
  · obtain ⟨bs, h1, rfl⟩ := Option.map_eq_some_iff.mp h
    obtain ⟨a, xs, rfl, hs, r⟩ := rq_lst hx
    rw [ints_rp r h1] at hs
    exact ⟨a, bs, rfl, hs, q _ H (Same.refl H) (.int _)⟩
  · cases h
theorem b_max {K : PySem.W.Frag} : Cal1 K (rMax K) maxD := fun v x d H Q hx h q => by
  unfold maxD at h
  split at h
  · obtain ⟨bs, h1, h2⟩ := Option.bind_eq_some_iff.mp h
    obtain ⟨i, h3, rfl⟩ := Option.map_eq_some_iff.mp h2
    obtain ⟨a, xs, rfl, hs, r⟩ := rq_lst hx
    rw [ints_rp r h1] at hs
    cases bs with
    | nil => cases h3
    | cons j js =>
      cases h3
      refine ⟨a, _, rfl, hs, by simp, fun m hm hy => ?_⟩
      have f := fold_max js j
      have : m = js.foldl (fun a b => if decide (a < b) then b else a) j := Int.le_antisymm (f.2 m hm) (hy _ f.1)
      rw [this]
      exact q _ H (Same.refl H) (.int _)
  · cases h
theorem b_min {K : PySem.W.Frag} : Cal1 K (rMin K) minD := fun v x d H Q hx h q => by
  unfold minD at h
  split at h
  · obtain ⟨bs, h1, h2⟩ := Option.bind_eq_some_iff.mp h
    obtain ⟨i, h3, rfl⟩ := Option.map_eq_some_iff.mp h2
    obtain ⟨a, xs, rfl, hs, r⟩ := rq_lst hx
    rw [ints_rp r h1] at hs
    cases bs with
    | nil => cases h3
    | cons j js =>
      cases h3
      refine ⟨a, _, rfl, hs, by simp, fun m hm hy => ?_⟩
      have f := fold_min js j
      have : m = js.foldl (fun a b => if decide (b < a) then b else a) j := Int.le_antisymm (hy _ f.1) (f.2 m hm)
      rw [this]
      exact q _ H (Same.refl H) (.int _)
  · cases h
theorem e_sum (hc : X.calm = true) (hg : Gl X "sum") (hm : X.mg "sum" = none) (ha : PE X a (tQ X.K Z m)) (he : starEach [a] X.env = (false, eval a X.env) :: starEach [] X.env := by rfl) : PE X (.Call (.Name "sum" p) [a] [] pos) (tM X.K Z (una sumD m)) :=
  e_f1 (cr_sum hc) b_sum boot_sum hg hm ha (he := he)
theorem e_max1 (hc : X.calm = true) (hg : Gl X "max") (hm : X.mg "max" = none) (ha : PE X a (tQ X.K Z m)) (he : starEach [a] X.env = (false, eval a X.env) :: starEach [] X.env := by rfl) : PE X (.Call (.Name "max" p) [a] [] pos) (tM X.K Z (una maxD m)) :=
  e_f1 (cr_max hc) b_max boot_max hg hm ha (he := he)
theorem e_min1 (hc : X.calm = true) (hg : Gl X "min") (hm : X.mg "min" = none) (ha : PE X a (tQ X.K Z m)) (he : starEach [a] X.env = (false, eval a X.env) :: starEach [] X.env := by rfl) : PE X (.Call (.Name "min" p) [a] [] pos) (tM X.K Z (una minD m)) :=
  e_f1 (cr_min hc) b_min boot_min hg hm ha (he := he)
def max2D : D → D → Option D
  | .int i, .int j => some (.int (if j > i then j else i))
  | _, _ => none
def min2D : D → D → Option D
  | .int i, .int j => some (.int (if j < i then j else i))
  | _, _ => none
theorem b_max2 {K : PySem.W.Frag} : Cal2 K (fun xs H Q => ∃ i j, xs = [.int i, .int j] ∧ Q (.int (if j > i then j else i)) H) max2D := fun v w x y d H Q hx hy h q => by
  unfold max2D at h
  split at h
  · cases h; rw [rp_int hx, rq_int hy]; exact ⟨_, _, rfl, q _ H (Same.refl H) (.int _)⟩
  · cases h
theorem b_min2 {K : PySem.W.Frag} : Cal2 K (fun xs H Q => ∃ i j, xs = [.int i, .int j] ∧ Q (.int (if j < i then j else i)) H) min2D := fun v w x y d H Q hx hy h q => by
  unfold min2D at h
  split at h
  · cases h; rw [rp_int hx, rq_int hy]; exact ⟨_, _, rfl, q _ H (Same.refl H) (.int _)⟩
  · cases h
theorem e_max2 (hc : X.calm = true) (hg : Gl X "max") (hm : X.mg "max" = none) (ha : PE X a (tM X.K Z m)) (hb : PE X b (tM X.K Z m')) (he : starEach [a, b] X.env = (false, eval a X.env) :: starEach [b] X.env := by rfl) (he2 : starEach [b] X.env = (false, eval b X.env) :: starEach [] X.env := by rfl) : PE X (.Call (.Name "max" p) [a, b] [] pos) (tM X.K Z (bin max2D m m')) :=
  e_f2 (call_max2 hc) b_max2 boot_max hg hm ha (e_q hb) (he := he) (he2 := he2) (hpl := by rw [he2]; rfl)
theorem e_min2 (hc : X.calm = true) (hg : Gl X "min") (hm : X.mg "min" = none) (ha : PE X a (tM X.K Z m)) (hb : PE X b (tM X.K Z m')) (he : starEach [a, b] X.env = (false, eval a X.env) :: starEach [b] X.env := by rfl) (he2 : starEach [b] X.env = (false, eval b X.env) :: starEach [] X.env := by rfl) : PE X (.Call (.Name "min" p) [a, b] [] pos) (tM X.K Z (bin min2D m m')) :=
  e_f2 (call_min2 hc) b_min2 boot_min hg hm ha (e_q hb) (he := he) (he2 := he2) (hpl := by rw [he2]; rfl)

/-! isinstance -/
def tyD : D → String
  | .none => "NoneType" | .bool _ => "bool" | .int _ => "int" | .str _ => "str" | .list _ => "list" | .tuple _ => "tuple" | .dict _ => "dict"
def isiT (T t : String) : Bool := t == T || (T == "int" && t == "bool")
def isiD (T : String) (d : D) : Option D := some (.bool (isiT T (tyD d)))
theorem ty_rq {K : PySem.W.Frag} {H : Hp} {v : V} {d : D} (h : Rq K H v d) : TyX K H v (.type (tyD d)) := by
  rcases h with h | ⟨a, rfl, o⟩
  · cases h with
    | non => exact .base .non
    | bl b => exact .base (.bl b)
    | int i => exact .base (.int i)
    | str x => exact .base (.str x)
    | lst h _ =>
      rcases h with ⟨o, h⟩ | ⟨its, n, h, _⟩
      · exact .base (.frz h)
      · exact .kList h rfl
    | tup h _ =>
      rcases h with (h | ⟨o, h⟩) | ⟨o, its, n, h, hc, _⟩
      · exact .base (.tup h)
      · exact .fTuple h
      · exact .kTuple h hc
    | dic h _ => exact .fDict h
  · cases d with
    | list ds => obtain ⟨xs, h, _⟩ := o; exact .base (.lst h)
    | dict ds => obtain ⟨xs, h, _⟩ := o; exact .base (.dK h)
    | _ => exact o.elim
theorem kit_all : ∀ t ∈ ["NoneType", "int", "bool", "str", "list", "tuple", "dict"], ∀ T ∈ ["int", "bool", "str", "list", "tuple", "dict"], kitB t T = some (isiT T t) := by decide +kernel
theorem tyD_in (d : D) : tyD d ∈ ["NoneType", "int", "bool", "str", "list", "tuple", "dict"] := by cases d <;> simp [tyD]
theorem kit_ok (d : D) {T : String} (h : T ∈ ["int", "bool", "str", "list", "tuple", "dict"]) : kitB (tyD d) T = some (isiT T (tyD d)) := kit_all _ (tyD_in d) _ h
theorem e_isi {m : M D} {T : String} {pT : Pos} {nT : Str} (hT : T ∈ ["int", "bool", "str", "list", "tuple", "dict"]) (hv : bootBuiltins nT = some (.type T)) (hgT : Gl X nT) (hmT : X.mg nT = none) (hg : Gl X "isinstance") (hm : X.mg "isinstance" = none) (ha : PE X a (tQ X.K Z m)) (hn : nT ≠ "__name__" := by decide) (hd : (nT == ("__debug__" : Str)) = false := by decide)
    (he : starEach [a, .Name nT pT] X.env = (false, eval a X.env) :: starEach [.Name nT pT] X.env := by rfl) : PE X (.Call (.Name "isinstance" p) [a, .Name nT pT] [] pos) (tM X.K Z (una (isiD T) m)) := by
  refine PE_weak (pe_callB call_isi hg hm boot_isi (pa_cons ha (pa_cons (pe_bltn (pos := pT) hgT hmT hv (v := .ty T) rfl hn hd) pa_nil) he) (he := he)) fun σ H Q ⟨e, R, p⟩ => ⟨e, R, pst_bnd p fun v H1 x e1 m1 R1 r1 p1 => ?_⟩
  exact ⟨v, .ty T, _, .type T, _, rfl, .ty T, ty_rq r1, kit_ty (kit_ok x hT), p1 (.bl _) H1 .refl R1 (.bl _)⟩

/-! repr -/
def reprD (d : D) : Option D := if PyData.canLay0 d = true ∧ PyData.showable d = true ∧ PyData.depth d ≤ 60 ∧ (PyData.shown d).length ≤ sizeLine then some (.str (PyData.shown d)) else none
def rRep (K : PySem.W.Frag) : List V → Hp → VK → Prop := fun xs H Q => ∃ v d, xs = [v] ∧ Rq K H v d ∧ PyData.canLay0 d = true ∧ PyData.showable d = true ∧ PyData.depth d ≤ 60 ∧ (PyData.shown d).length ≤ sizeLine ∧ Q (.str (PyData.shown d)) H
theorem call_repr (hgd : X.A.guards = some []) (hu : X.A.units + 66 < cLine) : CallR X (.builtin "repr") (rRep X.K) := by
  intro pins s σ H xs us Q I r h
  obtain ⟨v, d, rfl, hv, h0, h1, h2, h3, q⟩ := h
  obtain ⟨u, rfl, rx⟩ := vals1 r
  have dp := hv.dp h0
  have ref : ∀ a : Addr, v = .ref a → wpAny (model X.prog X.w) X.A (call (.builtin "repr") [u]) (EP X pins σ Q) X.xe s := fun a e => by
    subst e
    cases rx
    obtain ⟨as, rd⟩ := Dp.reads I d (.ref a) (.ref a) dp rfl
    exact repr_of_reads' rd h1 (PyData.noDict_hsm (PyData.hasDict_of_canLay d h0)) hgd (by omega) (fun _ _ e => e) (fun h' t tk hk => ⟨.str _, H, I.kept hk, ⟨_, rfl⟩, q⟩) h3
  cases d with
  | none =>
    cases dp; cases rx
    exact PySem.P.repr_of_none ⟨.str "None", H, I.tok _, ⟨_, rfl⟩, by simpa only [PyData.shown] using q⟩
  | bool b =>
    cases dp; cases rx
    exact PySem.P.repr_of_bool ⟨.str _, H, I.tok _, ⟨_, rfl⟩, by simpa only [PyData.shown] using q⟩
  | int i =>
    cases dp
    obtain ⟨t, rfl⟩ := rx
    exact PySem.P.repr_of_int (by simpa [PyData.showable] using h1) ⟨.str _, H, I.tok _, ⟨_, rfl⟩, by simpa only [PyData.shown] using q⟩
  | str x =>
    cases dp
    obtain ⟨t, rfl⟩ := rx
    exact PySem.P.repr_of_str ⟨.str _, H, I.tok _, ⟨_, rfl⟩, by simpa only [PyData.shown] using q⟩ (by simpa only [PyData.shown] using h3)
  | list ds => cases dp; exact ref _ rfl
  | tuple ds => cases dp; exact ref _ rfl
  | dict ds => simp [PyData.canLay0] at h0
theorem b_repr {K : PySem.W.Frag} : Cal1 K (rRep K) reprD := fun v x d H Q hx h q => by
  unfold reprD at h
  split at h
  · rename_i g
    cases h
    exact ⟨v, x, rfl, hx, g.1, g.2.1, g.2.2.1, g.2.2.2, q _ H (Same.refl H) (.str _)⟩
  · cases h
theorem e_repr (hgd : X.A.guards = some []) (hu : X.A.units + 66 < cLine) (hg : Gl X "repr") (hm : X.mg "repr" = none) (ha : PE X a (tQ X.K Z m)) (he : starEach [a] X.env = (false, eval a X.env) :: starEach [] X.env := by rfl) : PE X (.Call (.Name "repr" p) [a] [] pos) (tM X.K Z (una reprD m)) :=
  e_f1 (call_repr hgd hu) b_repr boot_repr hg hm ha (he := he)
end
end ZZ

namespace ZZ
open PySem PySem.Spec PyProof.Rows L2

/-! ### a[b] -/
theorem atI_rp {K : PySem.W.Frag} {H : Hp} {xs : List V} {ds : List D} (r : RpA K H xs ds) {i : Int} {d : D} (h : atI ds i = some d) : ∃ v, atI xs i = some v ∧ Rp K H v d := by
  unfold atI at h ⊢
  rw [r.length]
  cases e : ixN ds.length i with
  | none => rw [e] at h; cases h
  | some j => rw [e] at h; exact r.get j d h
def keyD : D → Option Key
  | .int i => some (.inl i)
  | .str x => some (.inr x)
  | _ => none
theorem keyD_eq {d : D} {k : Key} (h : keyD d = some k) : d = kD k := by cases d <;> cases h <;> rfl
theorem rp_key {K : PySem.W.Frag} {H : Hp} {v : V} {k : Key} (h : Rp K H v (kD k)) : v = kV k := by cases k <;> cases h <;> rfl
def getK (ds : List (D × D)) (k : D) : Option D := (ds.find? fun p => PyData.eqv p.1 k).map (·.2)
theorem getK_rp {K : PySem.W.Frag} {H : Hp} {k : Key} {d : D} : ∀ {kvs : List (Key × V)} {ds : List (D × D)}, RpK K H kvs ds → getK ds (kD k) = some d → ∃ v, valV kvs k = some v ∧ Rp K H v d
  | _, _, .nil, h => by cases h
  | _, _, .cons (k := j) (v := v) (vs := vs) (d := d') (ds := ds) r t, h => by
    have tl := getK_rp (d := d) (k := k) t
    unfold getK valV at *
    rw [List.find?_cons] at h ⊢
    rw [eqv_key] at h
    by_cases e : j = k
    · rw [decide_eq_true e] at h ⊢
      cases h
      exact ⟨v, rfl, r⟩
    · rw [decide_eq_false e] at h ⊢
      exact tl h
def ixD : D → D → Option D
  | .list ds, .int i => atI ds i
  | .tuple ds, .int i => atI ds i
  | .str z, .int i => if z.length ≤ sizeLine then (atI z.cps.toList i).map fun c => .str ⟨#[c]⟩ else none
  | .dict ds, k => (keyD k).bind fun _ => getK ds k
  | _, _ => none
abbrev rIxA (K : PySem.W.Frag) : R2 := fun x y H Q => rIx K x y H Q ∨ (∃ a v, x = .ref a ∧ DGet H a y (some v) ∧ Q v H)
section
variable {X : Cx} {Z : ZC} {a b : Expr} {pos : Pos} {ma mb : M D}
theorem ix_dict (hu : X.A.units + 66 < cLine) : IxR X (fun x y H Q => ∃ a v, x = .ref a ∧ DGet H a y (some v) ∧ Q v H) := by
  intro value slice pins s σ H x y v u Q I rx ry h hs
  obtain ⟨a, w, rfl, g, q⟩ := h
  cases rx
  exact tail_any (dict_typeIs I g) PySem.F.slot_dict_getitem.lookup (d_getItem (by omega) I g ry fun w' s3 I3 rw' => ⟨w, H, I3, rw', q⟩) hs
theorem ix_all (hu : X.A.units + 66 < cLine) : IxR X (rIxA X.K) := ix_seq.or (ix_dict hu)
theorem b_ix {K : PySem.W.Frag} : BinQ K (rIxA K) ixD := fun v w x y d H Q hx hy h q => by
  unfold ixD at h
  split at h
  · obtain ⟨a, xs, rfl, hs, r⟩ := rq_lst hx
    rw [rq_int hy]
    obtain ⟨u, h1, ru⟩ := atI_rp r h
    exact .inl (.inl ⟨a, xs, _, u, rfl, rfl, hs, h1, q u ru⟩)
  · obtain ⟨a, xs, rfl, hs, r⟩ := rq_tup hx
    rw [rq_int hy]
    obtain ⟨u, h1, ru⟩ := atI_rp r h
    exact .inl (.inr (.inl ⟨a, xs, _, u, rfl, rfl, hs, h1, q u ru⟩))
  · split at h
    · rename_i hz
      obtain ⟨c, h1, rfl⟩ := Option.map_eq_some_iff.mp h
      rw [rq_str hx, rq_int hy]
      exact .inl (.inr (.inr ⟨_, _, c, rfl, rfl, hz, h1, q _ (.str _)⟩))
    · cases h
  · obtain ⟨k, h1, h2⟩ := Option.bind_eq_some_iff.mp h
    obtain ⟨a, kvs, rfl, hd, r⟩ := rq_dic hx
    have e := keyD_eq h1
    subst e
    obtain ⟨u, h3, ru⟩ := getK_rp r h2
    have hv : w = kV k := by
      rcases hy with hy | ⟨c, rfl, o⟩
      · exact rp_key hy
      · cases k <;> exact o.elim
    subst hv
    exact .inr ⟨a, u, rfl, .inl ⟨kvs, k, hd, rfl, h3.symm⟩, q u ru⟩
  · cases h
theorem e_ix (hu : X.A.units + 66 < cLine) (ha : PE X a (tM X.K Z ma)) (hb : PE X b (tM X.K Z mb)) (hs : PlainIx b := by exact fun _ _ => rfl) : PE X (.Subscript a b pos) (tM X.K Z (bin ixD ma mb)) :=
  PE_weak (pe_ix (ix_all hu) ha (e_q hb) hs) (t_bin b_ix.r)
theorem e_ixL {i : Nat} (hu : X.A.units + 66 < cLine) (ha : PE X a (tVar i)) (hb : PE X b (tM X.K Z mb)) (hs : PlainIx b := by exact fun _ _ => rfl) : PE X (.Subscript a b pos) (tM X.K Z (binL ixD i mb)) :=
  PE_weak (pe_ix (ix_all hu) ha hb hs) (t_binQL b_ix)

/-! ### a[lo:hi] -/
def cutD (xs : List D) (lo hi : Option Int) : List D := (xs.drop (HT.sIx xs.length 0 lo)).take (HT.sIx xs.length xs.length hi - HT.sIx xs.length 0 lo)
theorem cut_rp {K : PySem.W.Frag} {H : Hp} {xs : List V} {ds : List D} (r : RpA K H xs ds) (lo hi : Option Int) : RpA K H (cutV xs lo hi) (cutD ds lo hi) := by
  unfold cutV cutD
  rw [r.length]
  exact (r.drop _).take _
def slD : D → Option Int → Option Int → Option D
  | .list ds, lo, hi => some (.list (cutD ds lo hi))
  | .tuple ds, lo, hi => some (.tuple (cutD ds lo hi))
  | .str z, lo, hi => if z.length ≤ sizeLine then some (.str (cutS z lo hi)) else none
  | _, _, _ => none
def partM : Option (M D) → M (Option Int)
  | none => ret none
  | some m => bnd m fun d => lft (match d with | .int i => some (some i) | _ => none)
def slM (m : M D) (lo hi : Option (M D)) : M D := bnd m fun x => bnd (partM lo) fun l => bnd (partM hi) fun h => lft (slD x l h)
abbrev rSlA3 (K : PySem.W.Frag) : V → Option Int → Option Int → Hp → VK → Prop := fun x lo hi H Q => rSlL K x lo hi H Q ∨ rSlA K x lo hi H Q ∨ rSlS x lo hi H Q
theorem sl_all : SlR X (rSlA3 X.K) := sl_list.or (sl_tupA.or sl_str)
def tOp' (K : PySem.W.Frag) (Z : ZC) : Option (M D) → TO
  | none => tNoPart
  | some m => tPart (tM K Z m)
theorem pst_part {K : PySem.W.Frag} {β α : Type} {r : RR β α} {σ : SS} {H : Hp} {Q : β → Hp → Prop} {m : Option (M D)} {f : Option Int → M α} {e : En} {R : Option Int → Hp → Prop} (R0 : Rel K Z σ H e) (p : pst K Z r σ H Q (bnd (partM m) f e))
    (k : ∀ o H1 e1, Mono H H1 → Rel K Z σ H1 e1 → pst K Z r σ H1 Q (f o e1) → R o H1) : tOp' K Z m σ H R := by
  cases m with
  | none => exact k none H e .refl R0 p
  | some m =>
    refine ⟨e, R0, ?_⟩
    unfold partM bnd at p
    cases hm : m e with
    | no => simp only [hm] at p; exact p.elim
    | exc x e1 => simp only [hm] at p; exact p
    | ok d e1 =>
      simp only [hm] at p
      cases d with
      | int i => exact fun v H1 m1 R1 r1 => ⟨i, rp_int r1, k (some i) H1 e1 m1 R1 (pst.mono p m1)⟩
      | _ => exact p.elim
theorem po_0 : PO X none (tOp' X.K Z none) := po_none
theorem po_1 {e : Expr} {m : M D} (h : PE X e (tM X.K Z m)) : PO X (some e) (tOp' X.K Z (some m)) := po_some h
theorem sl_ok {K : PySem.W.Frag} {v : V} {x d : D} {l h : Option Int} {H : Hp} {Q : VK} (hx : Rq K H v x) (hd : slD x l h = some d) (q : ∀ u H', Same H H' → (Rp K H' u d ∨ ∃ a, u = .ref a ∧ Opn K H' a d ∧ H a = none) → Q u H') : rSlA3 K v l h H Q := by
  unfold slD at hd
  split at hd
  · cases hd
    obtain ⟨a, xs, rfl, hs, r⟩ := rq_lst hx
    exact .inl ⟨a, xs, rfl, hs, fun p hp => q _ _ (same_upd hp) (.inr ⟨p, rfl, ⟨_, upd_same, (cut_rp r l h).mono (.same (same_upd hp))⟩, hp⟩)⟩
  · cases hd
    obtain ⟨a, xs, rfl, hs, r⟩ := rq_tup hx
    refine .inr (.inl ⟨a, xs, rfl, hs, fun hw => q _ H (Same.refl H) (.inl (.tup hs ?_)), fun _ p hp => q _ _ (same_upd hp) (.inl (.tup (SqT.of upd_same) ((cut_rp r l h).mono (.same (same_upd hp)))))⟩)
    have := cut_rp r l h
    unfold cutV at this
    rw [hw.1, hw.2, List.drop_zero, Nat.sub_zero, List.take_length] at this
    exact this
  · split at hd
    · rename_i hz; cases hd
      rw [rq_str hx]
      exact .inr (.inr ⟨_, rfl, hz, q _ H (Same.refl H) (.inl (.str _))⟩)
    · cases hd
  · cases hd
theorem sl_fin {K : PySem.W.Frag} {σ : SS} {H : Hp} {Q : VK} {v : V} {x : D} {l h : Option Int} {e : En} (R : Rel K Z σ H e) (hx : Rq K H v x) (p : pst K Z (rX K Z) σ H Q (lft (slD x l h) e)) : rSlA3 K v l h H Q := by
  obtain ⟨d, hd, q⟩ := pst_lft p
  refine sl_ok hx hd fun u H' s ru => q u H' (.same s) (R.same s) ?_
  rcases ru with ru | ⟨c, rfl, o, hc⟩
  · exact .inl ru
  · obtain ⟨hb, hs⟩ := R.fresh hc
    exact .inr ⟨c, rfl, o, hb, hs⟩
theorem e_sl {lo hi : Option Expr} {p2 : Pos} {ml mh : Option (M D)} (ha : PE X a (tM X.K Z ma)) (hl : PO X lo (tOp' X.K Z ml)) (hh : PO X hi (tOp' X.K Z mh)) : PE X (.Subscript a (.Slice lo hi none p2) pos) (tX X.K Z (slM ma ml mh)) :=
  PE_weak (pe_slice sl_all ha hl hh) fun σ H Q ⟨e, R, p⟩ => ⟨e, R, pst_bnd p fun v H1 x e1 m1 R1 r1 p1 => pst_part R1 p1 fun l H2 e2 m2 R2 p2 => pst_part R2 p2 fun u H3 e3 m3 R3 p3 => sl_fin R3 (.inl (Rp.mono (m2.trans m3) r1)) p3⟩
def slL (i : Nat) (lo hi : Option (M D)) : M D := bnd (vq i) fun _ => bnd (partM lo) fun l => bnd (partM hi) fun h => bnd (vq i) fun x => lft (slD x l h)
theorem e_slL {i : Nat} {lo hi : Option Expr} {p2 : Pos} {ml mh : Option (M D)} (ha : PE X a (tVar i)) (hl : PO X lo (tOp' X.K Z ml)) (hh : PO X hi (tOp' X.K Z mh)) : PE X (.Subscript a (.Slice lo hi none p2) pos) (tX X.K Z (slL i ml mh)) :=
  PE_weak (pe_slice sl_all ha hl hh) fun σ H Q ⟨e, R, p⟩ => by
    obtain ⟨v, _, hv, _, p⟩ := vq_ok R p
    refine ⟨v, hv, pst_part R p fun l H2 e2 m2 R2 p2 => pst_part R2 p2 fun u H3 e3 m3 R3 p3 => ?_⟩
    obtain ⟨v', x, hv', rq, p4⟩ := vq_ok R3 p3
    rw [hv] at hv'; cases hv'
    exact sl_fin R3 rq p4
/-- xs[::-1] of a list -/
def revD : D → Option D
  | .list ds => some (.list ds.reverse)
  | _ => none
theorem e_rev {k : Nat} {p1 p2 p3 : Pos} (ha : PE X a (tQ X.K Z ma)) : PE X (.Subscript a (.Slice none none (some (.UnaryOp .USub (.Constant (.int 1) k p1) p2)) p3) pos) (tO X.K Z (una revD ma)) :=
  PE_weak (pe_revL ha) fun σ H Q ⟨e, R, p⟩ => ⟨e, R, pst_bnd p fun v H1 x e1 m1 R1 r1 p1 => by
    obtain ⟨d, hd, q⟩ := pst_lft p1
    unfold revD at hd
    split at hd
    · cases hd
      obtain ⟨a, xs, rfl, hs, r⟩ := rq_lst r1
      refine ⟨a, xs, rfl, hs, fun p hp => q _ _ (.same (same_upd hp)) (R1.same (same_upd hp)) ⟨p, rfl, ⟨_, upd_same, r.reverse.mono (.same (same_upd hp))⟩, R1.fresh hp⟩⟩
    · cases hd⟩
/-- list(range(..)), tuple(range(..)) -/
def rgOk (a b : Int) : Bool := decide (-(2 ^ 62) ≤ a ∧ a < 2 ^ 62 ∧ -(2 ^ 62) ≤ b ∧ b < 2 ^ 62 ∧ (b - a).toNat ≤ 2 ^ 24)
def lrgD (mk : List D → D) : D → D → Option D
  | .int a, .int b => if rgOk a b then some (mk (rng a b)) else none
  | _, _ => none
theorem lrgD_some {mk : List D → D} {x y d : D} (h : lrgD mk x y = some d) : ∃ a b, x = .int a ∧ y = .int b ∧ RgOk a b ∧ d = mk (rng a b) := by
  cases x with
  | int a =>
    cases y with
    | int b =>
      simp only [lrgD] at h
      by_cases ok : rgOk a b = true
      · rw [if_pos ok] at h
        cases h
        unfold rgOk at ok
        exact ⟨a, b, rfl, rfl, by unfold RgOk; exact of_decide_eq_true ok, rfl⟩
      · rw [if_neg ok] at h; cases h
    | _ => cases h
  | _ => cases h
theorem rg_rp {K : PySem.W.Frag} {H : Hp} {a b : Int} : RpA K H (rgV a b) (rng a b) := by
  unfold rgV rng
  generalize (b - a).toNat = n
  have : ∀ l : List Nat, RpA K H (l.map fun i => V.int (a + (i : Nat))) (l.map fun i => PyData.int (a + (i : Nat))) := fun l => by
    induction l with
    | nil => exact .nil
    | cons i l ih => exact .cons (.int _) ih
  exact this _
theorem t_rg1 {K : PySem.W.Frag} {β α : Type} {r : RR β α} {m : M D} {σ : SS} {H : Hp} {Q : β → Hp → Prop} {f : D → M α} {e : En} {R : Int → Int → Hp → Prop} (R0 : Rel K Z σ H e) (p : pst K Z r σ H Q (bnd m f e))
    (k : ∀ d H1 e1, Mono H H1 → Rel K Z σ H1 e1 → pst K Z r σ H1 Q (f d e1) → ∃ n, d = .int n ∧ R 0 n H1) : tRg1 (tM K Z m) σ H R := ⟨e, R0, pst_bnd p fun v H1 x e1 m1 R1 r1 p1 => by
    obtain ⟨n, rfl, q⟩ := k x H1 e1 m1 R1 p1
    exact ⟨n, rp_int r1, q⟩⟩
theorem e_lrg1 {p p' pos2 : Pos} (hc : X.calm = true) (hg : Gl X "list") (hm : X.mg "list" = none) (hg' : Gl X "range") (hm' : X.mg "range" = none) (ha : PE X a (tM X.K Z ma)) (na : starEach [a] X.env = (false, eval a X.env) :: starEach [] X.env := by rfl)
    (nb : starEach [.Call (.Name "range" p') [a] [] pos2] X.env = (false, eval (.Call (.Name "range" p') [a] [] pos2) X.env) :: starEach [] X.env := by rfl) : PE X (.Call (.Name "list" p) [.Call (.Name "range" p') [a] [] pos2] [] pos) (tO X.K Z (bin (lrgD .list) (ret (.int 0)) ma)) :=
  PE_weak (pe_listRg hc hg hm (prg_1 hg' hm' ha na) nb) fun σ H Q ⟨e, R, p⟩ => t_rg1 R (show pst X.K Z (rO X.K Z) σ H Q (bnd ma (fun y => lft (lrgD .list (.int 0) y)) e) from p) fun d H1 e1 m1 R1 p1 => by
    obtain ⟨d', hd, q⟩ := pst_lft p1
    obtain ⟨a, n, ha, rfl, ok, rfl⟩ := lrgD_some hd
    cases ha
    exact (⟨n, rfl, ok, fun c hc => q _ _ (.same (same_upd hc)) (R1.same (same_upd hc)) ⟨c, rfl, ⟨_, upd_same, rg_rp⟩, R1.fresh hc⟩⟩)
theorem e_trg1 {p p' pos2 : Pos} (hc : X.calm = true) (hg : Gl X "tuple") (hm : X.mg "tuple" = none) (hg' : Gl X "range") (hm' : X.mg "range" = none) (ha : PE X a (tM X.K Z ma)) (na : starEach [a] X.env = (false, eval a X.env) :: starEach [] X.env := by rfl)
    (nb : starEach [.Call (.Name "range" p') [a] [] pos2] X.env = (false, eval (.Call (.Name "range" p') [a] [] pos2) X.env) :: starEach [] X.env := by rfl) : PE X (.Call (.Name "tuple" p) [.Call (.Name "range" p') [a] [] pos2] [] pos) (tM X.K Z (bin (lrgD .tuple) (ret (.int 0)) ma)) :=
  PE_weak (pe_tupRg hc hg hm (prg_1 hg' hm' ha na) nb) fun σ H Q ⟨e, R, p⟩ => t_rg1 R (show pst X.K Z (rV X.K) σ H Q (bnd ma (fun y => lft (lrgD .tuple (.int 0) y)) e) from p) fun d H1 e1 m1 R1 p1 => by
    obtain ⟨d', hd, q⟩ := pst_lft p1
    obtain ⟨a, n, ha, rfl, ok, rfl⟩ := lrgD_some hd
    cases ha
    exact (⟨n, rfl, ok, fun c hc => q _ _ (.same (same_upd hc)) (R1.same (same_upd hc)) (.tup (SqT.of upd_same) rg_rp)⟩)
theorem t_rg2 {K : PySem.W.Frag} {β α : Type} {r : RR β α} {m m' : M D} {σ : SS} {H : Hp} {Q : β → Hp → Prop} {f : D → D → M α} {e : En} {R : Int → Int → Hp → Prop} (R0 : Rel K Z σ H e) (p : pst K Z r σ H Q (bnd m (fun x => bnd m' fun y => f x y) e))
    (k : ∀ c d H1 e1, Mono H H1 → Rel K Z σ H1 e1 → pst K Z r σ H1 Q (f c d e1) → ∃ i j, c = .int i ∧ d = .int j ∧ R i j H1) : tRg2 (tM K Z m) (tM K Z m') σ H R := ⟨e, R0, pst_bnd p fun v H1 x e1 m1 R1 r1 p1 => ⟨e1, R1, pst_bnd p1 fun w H2 y e2 m2 R2 r2 p2 => by
    obtain ⟨i, j, rfl, rfl, q⟩ := k x y H2 e2 (m1.trans m2) R2 p2
    exact ⟨i, j, rp_int r1, rp_int r2, q⟩⟩⟩
theorem e_lrg2 {p p' pos2 : Pos} (hc : X.calm = true) (hg : Gl X "list") (hm : X.mg "list" = none) (hg' : Gl X "range") (hm' : X.mg "range" = none) (ha : PE X a (tM X.K Z ma)) (hb : PE X b (tM X.K Z mb)) (na : starEach [a, b] X.env = (false, eval a X.env) :: starEach [b] X.env := by rfl) (na2 : starEach [b] X.env = (false, eval b X.env) :: starEach [] X.env := by rfl) (hpl : (backTo pos2 (starEach [b] X.env)).any (·.1) = false := by rfl)
    (nb : starEach [.Call (.Name "range" p') [a, b] [] pos2] X.env = (false, eval (.Call (.Name "range" p') [a, b] [] pos2) X.env) :: starEach [] X.env := by rfl) : PE X (.Call (.Name "list" p) [.Call (.Name "range" p') [a, b] [] pos2] [] pos) (tO X.K Z (bin (lrgD .list) ma mb)) :=
  PE_weak (pe_listRg hc hg hm (prg_2 hg' hm' ha hb na na2 hpl) nb) fun σ H Q ⟨e, R, p⟩ => t_rg2 R p fun c d H1 e1 m1 R1 p1 => by
    obtain ⟨d', hd, q⟩ := pst_lft p1
    obtain ⟨i, j, rfl, rfl, ok, rfl⟩ := lrgD_some hd
    exact (⟨i, j, rfl, rfl, ok, fun c hc => q _ _ (.same (same_upd hc)) (R1.same (same_upd hc)) ⟨c, rfl, ⟨_, upd_same, rg_rp⟩, R1.fresh hc⟩⟩)
theorem e_trg2 {p p' pos2 : Pos} (hc : X.calm = true) (hg : Gl X "tuple") (hm : X.mg "tuple" = none) (hg' : Gl X "range") (hm' : X.mg "range" = none) (ha : PE X a (tM X.K Z ma)) (hb : PE X b (tM X.K Z mb)) (na : starEach [a, b] X.env = (false, eval a X.env) :: starEach [b] X.env := by rfl) (na2 : starEach [b] X.env = (false, eval b X.env) :: starEach [] X.env := by rfl) (hpl : (backTo pos2 (starEach [b] X.env)).any (·.1) = false := by rfl)
    (nb : starEach [.Call (.Name "range" p') [a, b] [] pos2] X.env = (false, eval (.Call (.Name "range" p') [a, b] [] pos2) X.env) :: starEach [] X.env := by rfl) : PE X (.Call (.Name "tuple" p) [.Call (.Name "range" p') [a, b] [] pos2] [] pos) (tM X.K Z (bin (lrgD .tuple) ma mb)) :=
  PE_weak (pe_tupRg hc hg hm (prg_2 hg' hm' ha hb na na2 hpl) nb) fun σ H Q ⟨e, R, p⟩ => t_rg2 R p fun c d H1 e1 m1 R1 p1 => by
    obtain ⟨d', hd, q⟩ := pst_lft p1
    obtain ⟨i, j, rfl, rfl, ok, rfl⟩ := lrgD_some hd
    exact (⟨i, j, rfl, rfl, ok, fun c hc => q _ _ (.same (same_upd hc)) (R1.same (same_upd hc)) (.tup (SqT.of upd_same) rg_rp)⟩)
end
end ZZ

namespace ZZ
open PySem PySem.Spec PyProof.Rows L2

/-! ### names of the module -/
section
variable {X : Cx} {Z : ZC} {pos : Pos}
theorem e_gl {x : Str} {v : V} {u : Value} {d : D} (hg : Gl X x) (hm : X.mg x = some u) (r : RelV v u) (h : ∀ H, Rp X.K H v d) (hd : (x == ("__debug__" : Str)) = false := by decide) : PE X (.Name x pos) (tM X.K Z (ret d)) :=
  PE_weak (pe_glob hg hm r hd) fun σ H Q ⟨e, R, p⟩ => p v H .refl R (h H)

/-! ### a, b = x, y with stores from the right -/
def parB (N : List Str) (scope : Scope) : List Str → List Nat → Bool
  | [], [] => true
  | x :: xs, i :: is => decide (N[i]? = some x) && (scope.names.lookup x == some .local) && parB N scope xs is
  | _, _ => false
theorem asg_all (hN : X.N.Nodup) {Q : SS → Hp → Prop} {pins : List (Addr × Obj)} {H : Hp} : ∀ {xs : List Str} {is : List Nat} {us : List Value} {vs : List V} {σ : SS} {s : Shared}, parB X.N X.env.scope xs is = true → Vals vs us → Inv X pins σ H s → gsN is vs σ H Q →
    wpAny (model X.prog X.w) X.A (assignInOrder (xs.map fun n => bindName X.env n) us) (fun _ s' => ∃ σ' H', Inv X pins σ' H' s' ∧ Q σ' H') X.xe s
  | [], [], us, vs, σ, s, _, r, I, q => by
    obtain ⟨rfl, q⟩ := q
    cases r
    exact assignInOrder_nil ⟨σ, H, I, q⟩
  | x :: xs, i :: is, us, vs, σ, s, h, r, I, q => by
    simp only [parB, Bool.and_eq_true] at h
    obtain ⟨⟨h1, h2⟩, h3⟩ := h
    obtain ⟨v, vs', rfl, q⟩ := q
    cases r with
    | cons r1 r2 =>
      have hl : X.env.scope.names.lookup x = some .local := by
        have := h2
        revert this
        cases X.env.scope.names.lookup x with
        | none => intro z; cases z
        | some b => cases b <;> intro z <;> first | rfl | (exfalso; revert z; decide)
      exact assignInOrder_cons (wpAny_bindName (store_ok I hN (of_decide_eq_true h1) (.inl hl) r1 (fun s2 I2 => asg_all hN h3 r2 I2 q) (.inr hl)))
  | [], _ :: _, _, _, _, _, h, _, _, _ => by cases h
  | _ :: _, [], _, _, _, _, h, _, _, _ => by cases h
def setTr (is : List Nat) : D → En → Option En
  | .tuple ds, e => setNs is ds.reverse e
  | _, _ => none
theorem vals_rev {vs : List V} {us : List Value} (r : Vals vs us) : Vals vs.reverse us.reverse := by
  induction r with
  | nil => exact .nil
  | cons h t ih =>
    rw [List.reverse_cons, List.reverse_cons]
    exact ih.append (.cons h .nil)
theorem s_par {elts : List Expr} {k : Nat} {tpos : Pos} {e : Expr} {m : M D} {xs : List Str} {is : List Nat} (hc : X.calm = true) (hN : X.N.Nodup) (hp : parB X.N X.env.scope xs.reverse is = true) (hio : ∀ i ∈ is, i ∉ Z.ios) (h : PE X e (tM X.K Z m))
    (hw : swappedStores [.Tuple elts k tpos] e X.env = pure (some xs) := by rfl) (hs : swapsWithSole [.Tuple elts k tpos] e pos.line X.env = pure false := by rfl) : PS X (.Assign [.Tuple elts k tpos] e pos) (tS X.K Z (sAsg (setTr is) m)) := by
  refine ⟨fun pins s σ H D I ⟨en, R, p⟩ => ?_⟩
  refine Assign_Tuple_swapped (names := xs) (thn (h.run pins s σ H (fun v H1 => ∃ a vs, v = .ref a ∧ SqT X.K H1 a vs ∧ vs.length = xs.length ∧ gsN is vs.reverse σ H1 D.nx) I ⟨en, R, ?_⟩) fun v s1 ⟨x, H1, I1, r1, a, vs, ex, hs1, hl, q1⟩ => ?_) hs hw
  · refine pstS_bnd p fun v H1 d e1 hm m1 R1 r1 p1 => ?_
    cases d with
    | tuple ds =>
      obtain ⟨a, vs, rfl, hs1, ra⟩ := rp_tup r1
      cases hst : setTr is (.tuple ds) e1 with
      | none => rw [hst] at p1; exact p1.elim
      | some e' =>
        rw [hst] at p1
        refine ⟨a, vs, rfl, hs1, ?_, ?_⟩
        · have h1 := setNs_len hst
          have h2 : ∀ {xs : List Str} {is : List Nat}, parB X.N X.env.scope xs is = true → xs.length = is.length := fun {xs is} h => by
            induction xs generalizing is with
            | nil => cases is with
              | nil => rfl
              | cons => cases h
            | cons x xs ih => cases is with
              | nil => cases h
              | cons i is =>
                simp only [parB, Bool.and_eq_true] at h
                rw [List.length_cons, List.length_cons, ih h.2]
          have h3 := h2 hp
          rw [List.length_reverse] at h1 h3
          rw [ra.length, h1, h3]
        · exact g_ns R1 ra.reverse hst hio fun σ' R' => p1 σ' H1 .refl R'
    | _ => exact p1.elim
  · subst ex
    cases r1
    obtain ⟨its, rv, ht, hz⟩ := I1.tuple hs1
    have hn : xs.length = its.toArray.size := by rw [List.size_toArray, ← rv.length]; exact hl.symm
    rw [hn]
    refine unpackItems_tuple (I.ok.hd hc) ht fun h' hx' => ?_
    have I3 := I1.kept (h' := h') (t' := s1.toks) fun b o e => hx' b o (Nat.ne_of_lt (Heap.lt_size e)) e
    have := asg_all (X := X) hN hp (vals_rev rv) I3 q1
    rw [List.map_reverse] at this
    rw [List.map_reverse]
    exact thn this fun _ s2 q => q

/-! ### displays of dicts -/
abbrev ZD (Z : ZC) (p : Addr) : ZC := ⟨Z.Hb, Z.ios, Z.adr, (p, .dK []) :: Z.tmp, fun _ _ _ _ => False⟩
def tD (K : PySem.W.Frag) (Z : ZC) (m : M D) : TE := fun σ H Q => ∃ p, tM K (ZD Z p) m σ H Q
theorem e_D {a : Expr} {m : M D} (h : ∀ p, PE X a (tM X.K (ZD Z p) m)) : PE X a (tD X.K Z m) := ⟨fun pins s σ H Q I ⟨p, q⟩ => (h p).run pins s σ H Q I q⟩
def seqP : List (M D × M D) → M (List (D × D))
  | [] => ret []
  | (mk, mv) :: r => bnd mk fun k => bnd mv fun v => bnd (seqP r) fun ps => ret ((k, v) :: ps)
def RpP (K : PySem.W.Frag) (H : Hp) (ps : List (V × V)) (ds : List (D × D)) : Prop := RpA K H (ps.map (·.1)) (ds.map (·.1)) ∧ RpA K H (ps.map (·.2)) (ds.map (·.2))
def rP (K : PySem.W.Frag) : RR (List (V × V)) (List (D × D)) := fun _ _ H ps ds => RpP K H ps ds
abbrev trsOf (K : PySem.W.Frag) (Z : ZC) (ms : List (M D × M D)) : List (TE × TE) := ms.map fun p => (tD K Z p.1, tD K Z p.2)
theorem t_prs {K : PySem.W.Frag} {p : Addr} : ∀ {ms : List (M D × M D)} {σ : SS} {H : Hp} {Q : List (V × V) → Hp → Prop}, tG K (ZD Z p) (rP K) (seqP ms) σ H Q → tPairs (trsOf K Z ms) σ H Q
  | [], σ, H, Q, ⟨e, R, q⟩ => q [] H .refl R ⟨.nil, .nil⟩
  | (mk, mv) :: r, σ, H, Q, ⟨e, R, q⟩ => ⟨p, e, R, pst_bnd q fun v H1 x e1 m1 R1 r1 p1 => ⟨p, e1, R1, pst_bnd p1 fun w H2 y e2 m2 R2 r2 p2 => t_prs ⟨e2, R2, pst_bnd p2 fun ps H3 ds e3 m3 R3 r3 p3 =>
      p3 _ H3 .refl R3 ⟨.cons (Rp.mono (m2.trans m3) r1) r3.1, .cons (Rp.mono m3 r2) r3.2⟩⟩⟩⟩
def putD (ds : List (D × D)) (k v : D) : List (D × D) :=
  if (ds.any fun p => PyData.eqv p.1 k) = true then ds.map (fun p => if PyData.eqv p.1 k = true then (p.1, v) else p) else ds ++ [(k, v)]
theorem any_kd {K : PySem.W.Frag} {H : Hp} {k : Key} : ∀ {kvs : List (Key × V)} {ds : List (D × D)}, RpK K H kvs ds → (ds.any fun p => PyData.eqv p.1 (kD k)) = kvs.any fun kv => decide (kv.1 = k)
  | _, _, .nil => rfl
  | _, _, .cons r t => by rw [List.any_cons, List.any_cons, any_kd t, eqv_key]
theorem RpK.app {K : PySem.W.Frag} {H : Hp} {k : Key} {v : V} {d : D} (rv : Rp K H v d) : ∀ {kvs : List (Key × V)} {ds : List (D × D)}, RpK K H kvs ds → RpK K H (kvs ++ [(k, v)]) (ds ++ [(kD k, d)])
  | _, _, .nil => .cons rv .nil
  | _, _, .cons r t => .cons r (RpK.app rv t)
theorem RpK.chg {K : PySem.W.Frag} {H : Hp} {k : Key} {v : V} {d : D} (rv : Rp K H v d) : ∀ {kvs : List (Key × V)} {ds : List (D × D)}, RpK K H kvs ds → RpK K H (kvs.map (fun kv => if kv.1 = k then (kv.1, v) else kv)) (ds.map (fun p => if PyData.eqv p.1 (kD k) = true then (p.1, d) else p))
  | _, _, .nil => .nil
  | _, _, .cons (k := j) r t => by
    rw [List.map_cons, List.map_cons, eqv_key]
    by_cases e : j = k
    · rw [if_pos e, if_pos (decide_eq_true e)]
      exact .cons rv (RpK.chg rv t)
    · rw [if_neg e, if_neg (by rw [decide_eq_false e]; exact Bool.false_ne_true)]
      exact .cons r (RpK.chg rv t)
theorem RpK.put {K : PySem.W.Frag} {H : Hp} {k : Key} {v : V} {d : D} (rv : Rp K H v d) {kvs : List (Key × V)} {ds : List (D × D)} (r : RpK K H kvs ds) : RpK K H (putK kvs k v) (putD ds (kD k) d) := by
  unfold putK putD
  rw [any_kd r]
  split
  · exact r.chg rv
  · exact r.app rv
def keysD : List (D × D) → Option (List (Key × D))
  | [] => some []
  | (k, v) :: r => (keyD k).bind fun k => (keysD r).map ((k, v) :: ·)
def dspD (ps : List (D × D)) : Option D := (keysD ps).bind fun _ => if ps.length ≤ 15 then some (.dict (ps.foldl (fun acc p => putD acc p.1 p.2) [])) else none
theorem keysD_ok {K : PySem.W.Frag} {H : Hp} : ∀ {ps : List (V × V)} {ds : List (D × D)} {ks : List (Key × D)}, RpP K H ps ds → keysD ds = some ks → ∃ kvs : List (Key × V), ps = kvs.map (fun kv => (kV kv.1, kv.2)) ∧ kvs.length = ds.length ∧
    ∀ (a : List (Key × V)) (b : List (D × D)), RpK K H a b → RpK K H (mergeK a kvs) (ds.foldl (fun acc p => putD acc p.1 p.2) b)
  | [], [], ks, _, h => ⟨[], rfl, rfl, fun a b r => r⟩
  | p :: ps, (k, v) :: ds, ks, r, h => by
    obtain ⟨r1, r2⟩ := r
    cases r1 with
    | cons r1 t1 =>
      cases r2 with
      | cons r2 t2 =>
        simp only [keysD] at h
        obtain ⟨j, h1, h2⟩ := Option.bind_eq_some_iff.mp h
        obtain ⟨ks', h3, rfl⟩ := Option.map_eq_some_iff.mp h2
        obtain ⟨kvs, e1, e2, e3⟩ := keysD_ok (K := K) (H := H) ⟨t1, t2⟩ h3
        have ek := keyD_eq h1
        subst ek
        refine ⟨(j, p.2) :: kvs, ?_, by rw [List.length_cons, List.length_cons, e2], fun a b r => e3 _ _ (r.put r2)⟩
        rw [List.map_cons, ← e1, ← rp_key r1]
  | [], _ :: _, _, r, _ => by obtain ⟨r, _⟩ := r; cases r
  | _ :: _, [], _, r, _ => by obtain ⟨r, _⟩ := r; cases r
def dspM (ms : List (M D × M D)) : M D := bnd (seqP ms) fun ps => lft (dspD ps)
theorem p_nil : PPs X pos [] [] (trsOf X.K Z []) := pps_nil
theorem p_cons {k v : Expr} {ks : List (Option Expr)} {vs : List Expr} {mk mv : M D} {ms : List (M D × M D)} (hk : ∀ p, PE X k (tM X.K (ZD Z p) mk)) (hv : ∀ p, PE X v (tM X.K (ZD Z p) mv)) (hr : PPs X pos ks vs (trsOf X.K Z ms)) : PPs X pos (some k :: ks) (v :: vs) (trsOf X.K Z ((mk, mv) :: ms)) :=
  pps_cons (e_D hk) (e_D hv) hr
theorem rel_inD {K : PySem.W.Frag} {σ : SS} {H : Hp} {e : En} {p : Addr} (R : Rel K Z σ H e) (h : H p = some (.dK [])) (hb : Z.Hb p = none) (hs : ∀ (i : Nat) (d : D), e[i]? = some (.op d) → σ[i]? ≠ some (some (.ref p))) : Rel K (ZD Z p) σ H e :=
  ⟨R.len, R.fz, R.op, R.inj, R.fr, R.io, fun q hq => by
    rcases List.mem_cons.mp hq with rfl | hq
    · exact ⟨h, trivial, hb, hs⟩
    · exact R.tp q hq⟩
theorem rel_outD {K : PySem.W.Frag} {σ : SS} {H : Hp} {e : En} {p : Addr} (R : Rel K (ZD Z p) σ H e) : Rel K Z σ H e ∧ H p = some (.dK []) ∧ Z.Hb p = none ∧ ∀ (i : Nat) (d : D), e[i]? = some (.op d) → σ[i]? ≠ some (some (.ref p)) := by
  obtain ⟨h1, _, h2, h3⟩ := R.tp (p, .dK []) List.mem_cons_self
  exact ⟨⟨R.len, R.fz, R.op, R.inj, R.fr, R.io, fun q hq => R.tp q (List.mem_cons_of_mem _ hq)⟩, h1, h2, h3⟩
theorem seqP_len : ∀ (ms : List (M D × M D)) (e : En) (xs : List (D × D)) (e' : En), seqP ms e = .ok xs e' → xs.length = ms.length
  | [], e, xs, e', h => by cases h; rfl
  | (mk, mv) :: ms, e, xs, e', h => by
    simp only [seqP, bnd] at h
    split at h
    · split at h
      · split at h
        · rename_i h2
          cases h
          rw [List.length_cons, List.length_cons, seqP_len ms _ _ _ h2]
        · cases h
        · cases h
      · cases h
      · cases h
    · cases h
    · cases h
/-- where no exception comes -/
def noX {α : Type} (m : M α) : M α := fun e => match m e with
  | .exc _ _ => .no
  | o => o
theorem e_dsp {keys : List (Option Expr)} {values : List Expr} {ms : List (M D × M D)} (h : PPs X pos keys values (trsOf X.K Z ms)) (hall : keys.all (·.isSome) = true := by rfl) (hl : keys.length = values.length := by rfl) (h0 : keys ≠ [] := by exact List.cons_ne_nil _ _) (h15 : keys.length ≤ 15 := by decide) :
    PE X (.Dict keys values pos) (tO X.K Z (noX (dspM ms))) := PE_weak (pe_disp h hall hl h0 h15) fun σ H Q ⟨e, R, q⟩ p hp => by
  obtain ⟨hb, hs, ht⟩ := R.fresh hp
  have R1 : Rel X.K (ZD Z p) σ (upd H p (.dK [])) e := rel_inD (R.same (same_upd hp)) upd_same hb hs
  refine t_prs (p := p) ⟨e, R1, ?_⟩
  unfold noX dspM bnd at q
  cases hm : seqP ms e with
  | no => simp only [hm] at q; exact q.elim
  | exc x e1 => simp only [hm] at q; exact q.elim
  | ok ds e1 =>
    simp only [hm] at q
    intro ps H2 m2 R2 r2
    obtain ⟨R3, e3, hb3, hs3⟩ := rel_outD R2
    refine ⟨e3, ?_⟩
    cases hd : dspD ds with
    | none => rw [hd] at q; exact q.elim
    | some d =>
      rw [hd] at q
      unfold dspD at hd
      obtain ⟨ks, h1, h2⟩ := Option.bind_eq_some_iff.mp hd
      split at h2
      · rename_i hlen
        cases h2
        obtain ⟨kvs, ek, el, er⟩ := keysD_ok r2 h1
        refine ⟨kvs, ek, by omega, ?_⟩
        have ht3 : ∀ t ∈ Z.tmp, t.1 ≠ p := ht
        have mo : Mono H2 (upd H2 p (.dK (mergeK [] kvs))) := mono_upd e3 trivial
        have m3 : Mono H (upd H2 p (.dK (mergeK [] kvs))) := ((Mono.same (same_upd hp)).trans m2).trans mo
        refine q (.ref p) _ m3 (R3.other e3 trivial hb3 hs3 ht3) ⟨p, rfl, ⟨_, upd_same, ?_⟩, hb3, hs3, ht3⟩
        exact RpK.mono mo (er [] [] .nil)
      · cases h2
theorem e_dsp0 : PE X (.Dict [] [] pos) (tO X.K Z (ret (.dict []))) := PE_weak pe_dnewK fun σ H Q ⟨e, R, q⟩ p hp => q _ _ (.same (same_upd hp)) (R.same (same_upd hp)) ⟨p, rfl, ⟨[], upd_same, .nil⟩, R.fresh hp⟩
end
end ZZ

namespace ZZ
open PySem PySem.Spec PyProof.Rows L2

/-! ### calls with keywords alone -/
section
variable {X : Cx} {Z : ZC} {pos : Pos}
theorem kk_nil : PK X [] (tMs X.K Z (seqM [])) := ⟨fun p pins s σ H Q I ⟨e, R, q⟩ => pk_nil.run p pins s σ H Q I (q [] H .refl R .nil)⟩
theorem kk_cons {nm : Option Str} {a : Expr} {kp : Pos} {kws : List Keyword} {m : M D} {ms : List (M D)} (h : PE X a (tM X.K Z m)) (k : PK X kws (tMs X.K Z (seqM ms))) : PK X (⟨nm, a, kp⟩ :: kws) (tMs X.K Z (seqM (m :: ms))) :=
  ⟨fun p pins s σ H Q I ⟨e, R, q⟩ => (pk_cons h k).run p pins s σ H Q I ⟨e, R, pst_bnd q fun v H1 d e1 m1 R1 r1 p1 => ⟨e1, R1, pst_bnd p1 fun w H2 y e2 m2 R2 r2 p2 => p2 _ H2 .refl R2 (.cons (Rp.mono m2 r1) r2)⟩⟩⟩
def pickD (pm : List Nat) (xs : List D) : List D := pm.map fun i => xs.getD i .none
def callK (F : List D → FO) (pm : List Nat) (ms : List (M D)) : M D := bnd (seqM ms) fun xs e => match F (pickD pm xs) with
  | .ok d [] => .ok d e
  | _ => .no
/-- how f(k = v, ..) binds -/
def KwB (fd : FuncData) (ps ks : List Str) (pm : List Nat) : Prop := ∀ ws : List Value, ws.length = ks.length → bindArgs fd ⟨[], ks.zip ws⟩ = pure (ps.zip (pm.map fun i => ws.getD i .none))
theorem pick_rp {K : PySem.W.Frag} {H : Hp} {vs : List V} {ds : List D} (r : RpA K H vs ds) (i : Nat) : Rp K H (vs.getD i .non) (ds.getD i .none) := by
  rw [List.getD_eq_getElem?_getD, List.getD_eq_getElem?_getD]
  cases h : ds[i]? with
  | none =>
    have : vs[i]? = none := by
      rw [List.getElem?_eq_none_iff] at h ⊢
      rw [r.length]; exact h
    rw [this]; exact .non
  | some d =>
    obtain ⟨v, hv, q⟩ := r.get i d h
    rw [hv]; exact q
theorem pick_v {vs : List V} {us : List Value} (r : Vals vs us) : ∀ i : Nat, RelV (vs.getD i .non) (us.getD i .none) := by
  induction r with
  | nil => intro i; exact rfl
  | cons h t ih =>
    intro i
    cases i with
    | zero => exact h
    | succ i => exact ih i
theorem arg_false {K : PySem.W.Frag} {H : Hp} : ∀ {n : Nat} {vs : List V} {ds : List D}, RpA K H vs ds → vs.length = n → ArgR K H (List.replicate n false) vs ds
  | _, _, _, .nil, h => by cases h; trivial
  | _, _, _, .cons r t, h => by cases h; exact ⟨r, arg_false t rfl⟩
theorem pos_false : ∀ (n k : Nat), posT (List.replicate n false) k = []
  | 0, _ => rfl
  | n + 1, k => pos_false n (k + 1)
theorem e_callK {f : Addr} {fd : FuncData} {ps ks : List Str} {pm : List Nat} {k : Nat} {F : List D → FO} {x : Str} {p : Pos} {kws : List Keyword} {ms : List (M D)} {mask : List Bool} (G : FnG X.prog X.w X.K X.mg X.base CX0 k f fd ps (spF X.K mask false F)) (hr : Room k X.A) (hgd : X.A.guards = some []) (hg : Gl X x) (hm : X.mg x = some (.ref f)) (hk : PySem.W.keepIn X.K (.ref f) = true) (hb : KwB fd ps ks pm)
    (hkw : PK X kws (tMs X.K Z (seqM ms))) (hmk : mask = List.replicate pm.length false := by rfl) (hn : ms.length = ks.length := by rfl) (hpm : pm.length = ps.length := by rfl) (hall : (backToKw pos (keywordEach kws X.env)).all (·.1.isSome) = true := by rfl) (hks : (backToKw pos (keywordEach kws X.env)).filterMap (·.1) = ks := by rfl) (hdb : (x == ("__debug__" : Str)) = false := by decide)
    (hpl : ((backTo pos (starEach [] X.env)).any (·.1) || (backToKw pos (keywordEach kws X.env)).any (·.1.isNone)) = false := by rfl) : PE X (.Call (.Name x p) [] kws pos) (tM X.K Z (callK F pm ms)) := by
  refine ⟨fun pins s σ H Q I ⟨e, R, q⟩ => ?_⟩
  refine wpAny_Call_Name_kw (ld_glob I hg hm ?_ hdb)
  refine PySem.W.callWith_KW0 (h₀ := X.base) I.ok.mod.kin hk hall (thn (hkw.run pos pins s σ H (fun vs H1 => vs.length = ks.length ∧ spF X.K mask false F (pm.map fun i => vs.getD i .non) H1 Q E0) I ⟨e, R, ?_⟩) fun ws s2 ⟨zs, H2, I2, rz, hl, q2⟩ => ⟨I2.kIn, ?_⟩) hpl
  · refine pst_bndE q fun vs H1 ds e1 he m1 R1 r1 p1 => ?_
    have hlen : vs.length = ks.length := by rw [r1.length, seqM_len _ _ _ _ he, hn]
    refine ⟨hlen, pickD pm ds, ?_, ?_, ?_⟩
    · subst hmk
      refine arg_false ?_ (by rw [List.length_map])
      unfold pickD
      have : ∀ l : List Nat, RpA X.K H1 (l.map fun i => vs.getD i .non) (l.map fun i => ds.getD i .none) := fun l => by
        induction l with
        | nil => exact .nil
        | cons i l ih => exact .cons (pick_rp r1 i) ih
      exact this pm
    · subst hmk; rw [pos_false]; exact List.nodup_nil
    · cases hF : F (pickD pm ds) with
      | no => rw [hF] at p1; exact p1.elim
      | exc x outs => rw [hF] at p1; exact p1.elim
      | ok d outs =>
        rw [hF] at p1
        cases outs with
        | cons => exact p1.elim
        | nil =>
          intro v H' mo fr _ rr
          subst hmk
          rw [pos_false] at fr
          refine p1 v H' mo ?_ rr
          refine rel_after (S := []) (A := []) R1 mo (by simpa using fr) rfl (fun _ _ => rfl) (fun j hj => absurd hj (by simp)) fun a ha => absurd ha (by simp)
  · rw [hks]
    have hw : ws.length = ks.length := by rw [← rz.length, hl]
    have rr : Vals (pm.map fun i => zs.getD i .non) (pm.map fun i => ws.getD i .none) := by
      have : ∀ l : List Nat, Vals (l.map fun i => zs.getD i .non) (l.map fun i => ws.getD i .none) := fun l => by
        induction l with
        | nil => exact .nil
        | cons i l ih => exact .cons (pick_v rz i) ih
      exact this pm
    refine wpAny_call (codeAny_mono (runG G hr hgd (.of_eq (hb ws hw)) pass0 I2 rr q2) fun r s' hq => ?_)
    cases r with
    | error e => exact hq
    | ok fl => cases fl <;> first | exact hq | exact hq.elim
end

end ZZ

namespace ZZ
open PySem PySem.Spec PyProof.Rows L2

/-! ### what is walked, of any kind -/
section
variable {X : Cx} {Z : ZC} {pos p : Pos}
theorem it_str {tg : Expr} {pins : List (Addr × Obj)} {σ : SS} {H : Hp} {s : Shared} {R : It → Hp → Prop} {x : Str} {t : Tok} (I : Inv X pins σ H s) (q : R (Its x) H) : wpAny (model X.prog X.w) X.A (pyIter (.str x t)) (PIE X pins σ tg R) X.xe s := by
  have e : ∀ (nm : String) (h : nm = "str_ascii_iterator" ∨ nm = "str_iterator"), (s.heap.push { cls := .type nm, data := .fields #[.str x t, .int 0 0] }).get? s.heap.objs.size = some { cls := .type nm, data := .fields #[.str x t, .int 0 0] } := fun nm h => Heap.get?_push_size _ rfl
  cases ha : x.cps.all (· < 128)
  · refine wpAny_pyIter_wide ha (pi_one (tk := s.toks) I _ (turn_str _ x t "str_iterator" (.inr rfl))
      ⟨_, e _ (.inr rfl), rfl, rfl⟩ q)
  · refine wpAny_pyIter_ascii ha (pi_one (tk := s.toks) I _ (turn_str _ x t "str_ascii_iterator" (.inl rfl))
      ⟨_, e _ (.inl rfl), rfl, rfl⟩ q)
def itemsA : D → Option (List D)
  | .list ds => some ds
  | .tuple ds => some ds
  | .str z => some (chrs z)
  | _ => none
def walkA (m : M D) : M (List D) := bnd m fun d => lft (itemsA d)
theorem i_any {tg e : Expr} {m : M D} (h : PE X e (tM X.K Z m)) : PI X tg e (tI X.K Z (walkA m)) := by
  refine ⟨fun pins s σ H R I ⟨en, Rl, q⟩ => ?_⟩
  refine thn (h.run pins s σ H (fun v H1 => (∃ a xs, v = .ref a ∧ SqL X.K H1 a xs ∧ R (Itl X.K a) H1) ∨ (∃ a xs, v = .ref a ∧ SqT X.K H1 a xs ∧ R (Itt X.K a) H1) ∨ ∃ z, v = .str z ∧ R (Its z) H1) I ⟨en, Rl, tI_bnd q fun v H1 d e1 ds m1 R1 r1 hd k => ?_⟩) fun v s1 ⟨x, H1, I1, r1, q1⟩ => ?_
  · cases d with
    | list es =>
      cases hd
      cases r1 with
      | lst hl ra => exact .inl ⟨_, _, rfl, hl.sq, k _ H1 .refl R1 (itd_list hl ra)⟩
    | tuple es =>
      cases hd
      cases r1 with
      | tup hl ra => exact .inr (.inl ⟨_, _, rfl, hl, k _ H1 .refl R1 (itd_tup hl ra)⟩)
    | str z => cases hd; exact .inr (.inr ⟨z, rp_str r1, k _ H1 .refl R1 itd_str⟩)
    | _ => cases hd
  · rcases q1 with ⟨a, xs, rfl, hl, q1⟩ | ⟨a, xs, rfl, hl, q1⟩ | ⟨z, rfl, q1⟩
    · cases r1; exact it_list I1 hl q1
    · cases r1; exact it_tup I1 hl q1
    · obtain ⟨t, rfl⟩ := r1; exact it_str I1 q1
end

/-! ### a def that stands in the module -/
structure CalF (P : Program) (w : World) (K : PySem.W.Frag) (mg : Str → Option Value) (base : Heap) (k : Nat) (x : Str) (st : Stmt) (ps : List Str) (mask : List Bool) (opn : Bool) (F : List D → FO) : Prop where
  ex : ∃ f fd, FnG P w K mg base CX0 k f fd ps (spF K mask opn F) ∧ mg x = some (.ref f) ∧ PySem.W.keepIn K (.ref f) = true ∧ Binds K fd ps [] ∧
    ∃ (kV doc pm : Value) (an : Option Addr) (cdv ct : Value), fd = PySem.W.fnOf x x (defArgs st) (defBody st) (defScope st) .none kV doc pm an cdv ct
def KwS (x : Str) (st : Stmt) (ps ks : List Str) (pm : List Nat) : Prop := ∀ (kV doc pm' : Value) (an : Option Addr) (cdv ct : Value), KwB (PySem.W.fnOf x x (defArgs st) (defBody st) (defScope st) .none kV doc pm' an cdv ct) ps ks pm
section
variable {X : Cx} {Z : ZC} {pos p : Pos} {k j : Nat} {x : Str} {st : Stmt} {ps ks : List Str} {mask : List Bool} {F : List D → FO} {a : Expr} {es : List Expr} {as : List Arg}
theorem d_call (C : CalF X.prog X.w X.K X.mg X.base k x st ps mask false F) (hr : Room j X.A) (hgd : X.A.guards = some []) (ha : PA X (a :: es) (tA X.K Z as)) (hj : k ≤ j := by decide) (hg : Gl X x := by rfl) (hmk : maskA as = mask := by rfl) (nd : (slA as).Nodup := by decide) (hdb : (x == ("__debug__" : Str)) = false := by decide) (he : starEach (a :: es) X.env = (false, eval a X.env) :: starEach es X.env := by rfl) (hpl : (backTo pos (starEach es X.env)).any (·.1) = false := by rfl) :
    PE X (.Call (.Name x p) (a :: es) [] pos) (tM X.K Z (callM F as)) := by
  obtain ⟨f, fd, G, m, kp, b, _⟩ := C.ex
  exact e_call G (hr.mono hj) hgd hg m kp b ha hmk nd hdb he hpl
theorem d_callO (C : CalF X.prog X.w X.K X.mg X.base k x st ps mask true F) (hr : Room j X.A) (hgd : X.A.guards = some []) (ha : PA X (a :: es) (tA X.K Z as)) (hj : k ≤ j := by decide) (hg : Gl X x := by rfl) (hmk : maskA as = mask := by rfl) (nd : (slA as).Nodup := by decide) (hdb : (x == ("__debug__" : Str)) = false := by decide) (he : starEach (a :: es) X.env = (false, eval a X.env) :: starEach es X.env := by rfl) (hpl : (backTo pos (starEach es X.env)).any (·.1) = false := by rfl) :
    PE X (.Call (.Name x p) (a :: es) [] pos) (tO X.K Z (callM F as)) := by
  obtain ⟨f, fd, G, m, kp, b, _⟩ := C.ex
  exact e_callO G (hr.mono hj) hgd hg m kp b ha hmk nd hdb he hpl
theorem d_callK {kws : List Keyword} {ms : List (M D)} {pm : List Nat} (C : CalF X.prog X.w X.K X.mg X.base k x st ps mask false F) (hr : Room j X.A) (hgd : X.A.guards = some []) (hb : KwS x st ps ks pm) (hkw : PK X kws (tMs X.K Z (seqM ms))) (hj : k ≤ j := by decide) (hg : Gl X x := by rfl) (hmk : mask = List.replicate pm.length false := by rfl) (hn : ms.length = ks.length := by rfl) (hpm : pm.length = ps.length := by rfl) (hall : (backToKw pos (keywordEach kws X.env)).all (·.1.isSome) = true := by rfl) (hks : (backToKw pos (keywordEach kws X.env)).filterMap (·.1) = ks := by rfl) (hdb : (x == ("__debug__" : Str)) = false := by decide)
    (hpl : ((backTo pos (starEach [] X.env)).any (·.1) || (backToKw pos (keywordEach kws X.env)).any (·.1.isNone)) = false := by rfl) : PE X (.Call (.Name x p) [] kws pos) (tM X.K Z (callK F pm ms)) := by
  obtain ⟨f, fd, G, m, kp, b, kV, doc, pm', an, cdv, ct, rfl⟩ := C.ex
  exact e_callK G (hr.mono hj) hgd hg m kp (hb kV doc pm' an cdv ct) hkw hmk hn hpm hall hks hdb hpl
end
theorem hu66 {k : Nat} {A : Around} (h : Room k A) : A.units + 66 < cLine := by have := h.un; omega
theorem hu64 {k : Nat} {A : Around} (h : Room k A) : A.units + 64 < cLine := by have := h.un; omega
theorem cal0 {P : Program} {w : World} {K : PySem.W.Frag} {mg : Str → Option Value} {base : Heap} {k : Nat} {x : Str} {st : Stmt} {N ps : List Str} {mask : List Bool} {n : Nat} {m : M Fl} {f : Addr} {kV doc pm cdv ct : Value} {an : Option Addr} (F : Fun K x x st f (PySem.W.fnOf x x (defArgs st) (defBody st) (defScope st) .none kV doc pm an cdv ct)) (hm : mg x = some (.ref f)) (S : FnScope N ps (defScope st)) (hps : ps.length = mask.length) (hN : N.length = mask.length + n)
    (hb : ∀ (kV doc pm : Value) (an : Option Addr) (cdv ct : Value) (us : List Value), us.length = ps.length → bindArgs (PySem.W.fnOf x x (defArgs st) (defBody st) (defScope st) .none kV doc pm an cdv ct) ⟨us, []⟩ = pure (ps.zip us))
    (body : ∀ (cdv : Value) (A : Around) (outer : List Env) (s : Shared) (H : Hp) (E : XK) (Z : ZC), Z.ios = posT mask 0 → Room k (A.deeper (envOfC x (defScope st) s.heap.objs.size f cdv)) → (A.deeper (envOfC x (defScope st) s.heap.objs.size f cdv)).guards = some [] →
      PSs (cxOf CX0 P w K mg base N x (defScope st) f cdv A outer s H E).nox (defBody st) (tS K Z m)) : CalF P w K mg base (k + 1) x st ps mask false (mkF mask n m) :=
  ⟨f, _, fnG0 F S hps hN body, hm, F.kp, F.binds hb, kV, doc, pm, an, cdv, ct, rfl⟩
theorem cal0o {P : Program} {w : World} {K : PySem.W.Frag} {mg : Str → Option Value} {base : Heap} {k : Nat} {x : Str} {st : Stmt} {N ps : List Str} {mask : List Bool} {n : Nat} {m : M Fl} {f : Addr} {kV doc pm cdv ct : Value} {an : Option Addr} (F : Fun K x x st f (PySem.W.fnOf x x (defArgs st) (defBody st) (defScope st) .none kV doc pm an cdv ct)) (hm : mg x = some (.ref f)) (S : FnScope N ps (defScope st)) (hps : ps.length = mask.length) (hN : N.length = mask.length + n)
    (hb : ∀ (kV doc pm : Value) (an : Option Addr) (cdv ct : Value) (us : List Value), us.length = ps.length → bindArgs (PySem.W.fnOf x x (defArgs st) (defBody st) (defScope st) .none kV doc pm an cdv ct) ⟨us, []⟩ = pure (ps.zip us))
    (body : ∀ (cdv : Value) (A : Around) (outer : List Env) (s : Shared) (H : Hp) (E : XK) (Z : ZC), Z.ios = posT mask 0 → Room k (A.deeper (envOfC x (defScope st) s.heap.objs.size f cdv)) → (A.deeper (envOfC x (defScope st) s.heap.objs.size f cdv)).guards = some [] →
      PSs (cxOf CX0 P w K mg base N x (defScope st) f cdv A outer s H E).nox (defBody st) (tS K Z m)) : CalF P w K mg base (k + 1) x st ps mask true (mkFo mask n m) :=
  ⟨f, _, fnG0o F S hps hN body, hm, F.kp, F.binds hb, kV, doc, pm, an, cdv, ct, rfl⟩
theorem pNever {M : Model} {A : Around} {env : Env} : PassesOwn M A env (fun _ _ => False) := .never
end ZZ

namespace ZZ
open PySem PySem.Spec PyProof.Rows L2

/-! ### the end of a law -/
theorem lawG {P : Program} {w : World} {K : PySem.W.Frag} {mg mb : Str → Option Value} {k : Nat} {fa a : Addr} {x y : Str} {st : Stmt} {FL : List D → FO} {t : Shared} {vs : List Value} {ns : List Int} {outs : List D}
    (kin : K.In t.heap) (gns : t.heap.Ns mainGlobals mg) (bns : t.heap.Ns builtinsNs mb) (boot : ∀ y : Str, y ≠ "__name__" → mb y = bootBuiltins y) (lim : t.heap.NoLimit) (gen : t.gens = #[])
    (at_ : t.heap.get? a = some { cls := .type "list", data := .seq vs.toArray }) (hints : IntsAre vs ns) (few : ns.length ≤ sizeLine) (room : Room k callerA)
    (F : ∀ base : Heap, K.In base → base.Ns mainGlobals mg → CalF P w K mg base k y st [x] [false] false FL) (hfa : mg y = some (.ref fa))
    (good : FL [.list (ns.map PyData.int)] = .ok (.bool true) outs) :
    codeAny (model P w) callerA (.call (.ref fa) ⟨[.ref a], []⟩) (fun r t' => r = .ok (.ret (.bool true)) ∧ OldK t.heap t'.heap ∧ t'.os = t.os ∧ AllBare t'.gens) t := by
  have rv := vals_ints hints
  have lv := hints.length
  have rpi : ∀ H : Hp, RpA K H (ns.map V.int) (ns.map PyData.int) := fun H => by
    induction ns generalizing vs with
    | nil => exact .nil
    | cons i is ih =>
      refine .cons (.int i) ?_
      have : ∀ l : List Int, RpA K H (l.map V.int) (l.map PyData.int) := fun l => by
        induction l with
        | nil => exact .nil
        | cons j l ih => exact .cons (.int j) ih
      exact this is
  have main : ∀ H : Hp, FzL K H a (ns.map V.int) → HOk P w H t.heap → (∀ b, H b = none ∨ b = a ∧ ∃ o ys, H b = some (.frz o (.lst ys))) → (H a ≠ none → K.lookup a = none) →
      codeAny (model P w) callerA (.call (.ref fa) ⟨[.ref a], []⟩) (fun r t' => r = .ok (.ret (.bool true)) ∧ OldK t.heap t'.heap ∧ t'.os = t.os ∧ AllBare t'.gens) t := by
    intro H hz ok only nk
    have dictN : ∀ {b : Addr} {o : Obj} {es : Array DictEntry} {ep : Nat}, t.heap.get? b = some o → o.data = .dict es ep → H b = none := fun {b o es ep} e d => by
      rcases only b with q | ⟨rfl, _⟩
      · exact q
      · rw [at_] at e
        injection e with e
        rw [← e] at d
        cases d
    have nsB : ∀ {b : Addr} {m : Str → Option Value}, t.heap.Ns b m → (hidT t.heap H).Ns b m := by
      rintro b m ⟨o, es, ep, e, d, r⟩
      exact ⟨o, es, ep, hidT_get e (dictN e d), d, r⟩
    have kinB : K.In (hidT t.heap H) := by
      intro b o e
      refine hidT_get (kin b o e) ?_
      rcases only b with q | ⟨rfl, ob, ys, q⟩
      · exact q
      · have z := nk (by rw [q]; exact Option.some_ne_none _)
        rw [z] at e
        cases e
    obtain ⟨mc, l1, l2⟩ := lim
    have env : Env0 P w K mg (hidT t.heap H) callerA [] t H :=
      ⟨rfl, ⟨kinB, nsB gns, ⟨mb, nsB bns, boot⟩, ⟨mc, nsB l1, l2⟩⟩, fun b o e => of_hidT e, Nat.le_of_eq (hidT_size _ _), trivial, fun b hb => (List.not_mem_nil (show b ∈ ([] : List Addr) from hb)).elim, ok, .of_eq gen⟩
    have keepsp : spF K [false] false FL [.ref a] H (fun v _ => v = .bl true) (fun _ _ _ => False) := by
      refine ⟨[.list (ns.map PyData.int)], ⟨.lst hz (rpi H), trivial⟩, List.nodup_nil, ?_⟩
      rw [good]
      intro v H' _ _ _ r
      exact rp_bl r
    obtain ⟨f', fd, G, hm, _, bd, _⟩ := (F _ kinB (nsB gns)).ex
    rw [hfa] at hm
    cases hm
    refine codeAny_mono (G.rn callerA [] t H ⟨[.ref a], []⟩ [.ref a] [.ref a] _ _ room rfl env (bd t [.ref a] kin rfl) (.cons rfl .nil) keepsp) fun r t' h => ?_
    cases r with
    | error e => exact (show False from h).elim
    | ok fl =>
      cases fl with
      | ret u =>
        obtain ⟨v, H', os, bare, un, ok', rel, q⟩ := h
        have e1 : v = .bl true := q
        subst e1
        have e2 : u = Value.bool true := rel
        subst e2
        refine ⟨rfl, OldK.of_keep fun b o e => ?_, os, bare⟩
        rcases only b with q | ⟨rfl, ob, ys, q⟩
        · exact un.keep b o e q (by intro z; exact absurd (show b ∈ ([] : List Addr) from z) List.not_mem_nil) (by simp)
        · obtain ⟨g1, _⟩ := ok b _ q
          obtain ⟨g2, _⟩ := ok' b _ (un.frzs b ob _ q)
          rw [e] at g1
          injection g1 with g1
          rw [g1]; exact g2
      | next => exact False.elim h
      | brk => exact False.elim h
      | cont => exact False.elim h
  by_cases hk : K.lookup a = none
  · refine main (fun b => if b = a then some (.frz { cls := .type "list", data := .seq vs.toArray } (.lst (ns.map V.int))) else none) (.inl ⟨_, if_pos rfl⟩) (fun b u z => ?_) (fun b => ?_) fun _ => hk
    · by_cases e : b = a
      · subst e
        have z1 := (if_pos rfl).symm.trans z
        cases z1
        exact ⟨at_, by rw [List.length_map]; exact few, vs, _, rv, at_⟩
      · have z1 := (if_neg e).symm.trans z; cases z1
    · by_cases e : b = a
      · exact .inr ⟨e, _, _, if_pos e⟩
      · exact .inl (if_neg e)
  · obtain ⟨o, ho⟩ := Option.ne_none_iff_exists'.mp hk
    have e := kin a o ho
    rw [at_] at e
    injection e with e
    subst e
    refine main (fun _ => none) (.inr ⟨vs.toArray, _, ho, by rw [List.size_toArray, lv]; exact few, by simpa using rv⟩) (fun b u z => by cases z) (fun b => .inl rfl) fun z => absurd rfl z
theorem walkG {l : PySem.W.OpenLaw} {n k : Nat} {q : Program} {loose : List Str} {XP : (Str → Option Value) → Heap → Prop} {YP : World → Heap → Prop} {d : DefRec} {K : Params → PySem.W.Frag} {x : Str} {st : Stmt} {FL : List D → FO}
    (hn : l.most = some n) (hn2 : n ≤ sizeLine) (hdf : d.params.defaults = []) (hr : Room k callerA) (hY : ∀ (w : World) (h : Heap), YP w h → (K w.params).In h)
    (F : ∀ (w : World) (mg : Str → Option Value) (fa : Addr) (h : Heap), YP w h → (K w.params).In h → h.Ns mainGlobals mg → mg d.name = some (.ref fa) →
      ∀ base : Heap, (K w.params).In base → base.Ns mainGlobals mg → CalF l.prog w (K w.params) mg base k d.name st [x] [false] false FL)
    (good : ∀ ns : List Int, ns.length ≤ n → (∀ z ∈ ns, Builtin.Int.intBits z ≤ 1048576) → ∃ outs, FL [.list (ns.map PyData.int)] = .ok (.bool true) outs) :
    PySem.W.WalkO q loose XP YP l.row.toRowW d [] (fun f vs => PySem.call f vs) := by
  refine Att.attach_callB hn hdf fun w s₀ s1 mg mb fa o pm cd doc a vs ns G Y _ _ _ hmg hobj hints hlen hbits hg => ?_
  obtain ⟨outs, ho⟩ := good ns hlen hbits
  exact lawG (hY w _ Y) G.T.g G.T.b G.T.builtins G.T.nolimit hg hobj hints (Nat.le_trans hlen hn2) hr (F w mg fa _ Y (hY w _ Y) G.T.g hmg) hmg ho
end ZZ

namespace Vk10
open PySem PySem.Spec PyProof.Rows L2 ZZ
def topS (i : Nat) : Stmt := PySem.Challenge.pw_kerbtruth_k10_signs_hour_by_hour.main.body.getD i (.Pass ⟨0, 0, 0, 0⟩)
abbrev st__law_cells : Stmt := topS 50
abbrev st__law_pot : Stmt := topS 47
abbrev st__law_take : Stmt := topS 48
abbrev st__law_of : Stmt := topS 49
abbrev st__law_answer : Stmt := topS 52
abbrev st__law_row : Stmt := topS 53
abbrev st__law_sign : Stmt := topS 54
abbrev st__law_feasts : Stmt := topS 55
abbrev st__law_told : Stmt := topS 51
abbrev st_is_integer : Stmt := topS 11
abbrev st_is_between : Stmt := topS 12
abbrev st_is_ascending : Stmt := topS 15
abbrev st_is_name : Stmt := topS 13
abbrev st_are_kinds : Stmt := topS 33
abbrev st_is_bound : Stmt := topS 30
abbrev st_is_answer : Stmt := topS 31
abbrev st_is_row : Stmt := topS 34
abbrev st_is_sign : Stmt := topS 35
abbrev st_check_sign : Stmt := topS 37
abbrev st_is_kind : Stmt := topS 32
abbrev st_check_kind : Stmt := topS 38
abbrev st_are_feasts : Stmt := topS 36
abbrev st_check_feasts : Stmt := topS 40
abbrev st_is_tick : Stmt := topS 14
abbrev st_check_tick : Stmt := topS 39
abbrev st_does_fit : Stmt := topS 41
abbrev st_does_bear : Stmt := topS 42
abbrev st_told_at : Stmt := topS 43
abbrev st_changes : Stmt := topS 45
abbrev st_answer : Stmt := topS 44
abbrev st__law_are_answers_right : Stmt := topS 56
abbrev st__law_are_bent_told : Stmt := topS 57
abbrev st__law_right : Stmt := topS 58
abbrev st_law : Stmt := topS 59
def B__law_cells : M Fl := (sRet (bin (lrgD .list) (ret (.int 0)) (bin max2D (ret (.int 1)) (bin min2D (vr 1) (una lenD (vr 0))))))
def F__law_cells : List D → FO := mkF [false, false] 0 B__law_cells
def B__law_pot : M Fl := (sSeq (sAsg (setN 2) (iteM (boolOf (bin ltD (vr 1) (una lenD (vr 0)))) (bin ixD (vr 0) (vr 1)) (bin addD (bin addD (bin modD (una sumD (slM (vr 0) none (some (ret (.int 1))))) (ret (.int 1000003))) (bin mulD (ret (.int 2203)) (vr 1))) (ret (.int 1409))))) (sSeq (sAsg (setN 3) (bin mulD (bin modD (una intD (una absD (vr 2))) (bin powD (bin powD (ret (.int 10)) (ret (.int 60))) (ret (.int 5)))) (una intD (bin geD (una absD (vr 2)) (bin powD (ret (.int 10)) (ret (.int 18))))))) (sSeq (sAsg (setN 4) (bin modD (una intD (vr 2)) (ret (.int 2305843009213693951)))) (sRetO (lstM [(vr 3), (bin modD (una intD (bin addD (bin addD (bin mulD (vr 4) (ret (.int 73009))) (bin mulD (bin mulD (ret (.int 8819)) (vr 1)) (vr 1))) (ret (.int 907)))) (ret (.int 2305843009213693921))), (ret (.int 0))])))))
def F__law_pot : List D → FO := mkFo [false, false] 3 B__law_pot
def B__law_take : M Fl := (sSeq (sIf (boolOf (bin gtD (binL ixD 0 (ret (.int 0))) (ret (.int 0)))) (sSeq (sAsg (setN 2) (bin modD (una intD (binL ixD 0 (ret (.int 0)))) (vr 1))) (sSeq (sSetIx 0 (ret (.int 0)) (bin divD (binL ixD 0 (ret (.int 0))) (vr 1))) (sRet (vr 2)))) sNx) (sSeq (sSetIx 0 (ret (.int 2)) (bin addD (binL ixD 0 (ret (.int 2))) (ret (.int 1)))) (sSeq (sAsg (setN 3) (bin ixD (lstM [(ret (.int 2147483647)), (ret (.int 2147483629)), (ret (.int 2147483587)), (ret (.int 2147483579)), (ret (.int 2147483563))]) (bin modD (una intD (binL ixD 0 (ret (.int 2)))) (ret (.int 5))))) (sSeq (sAsg (setN 4) (bin modD (una intD (bin powD (una intD (bin addD (bin addD (binL ixD 0 (ret (.int 1))) (bin mulD (bin mulD (ret (.int 97001)) (binL ixD 0 (ret (.int 2)))) (binL ixD 0 (ret (.int 2))))) (ret (.int 701)))) (ret (.int 3)))) (vr 3))) (sSeq (sAsg (setN 4) (bin modD (una intD (bin mulD (vr 4) (bin addD (bin modD (una intD (vr 4)) (ret (.int 11003))) (bin mulD (ret (.int 811)) (binL ixD 0 (ret (.int 2))))))) (ret (.int 2305843009213693907)))) (sRet (bin modD (una intD (bin divD (vr 4) (ret (.int 1009)))) (vr 1))))))))
def F__law_take : List D → FO := mkF [true, false] 3 B__law_take
def B__law_of : M Fl := (sRet (bin ixD (vr 1) (callM F__law_take [.io 0, .v (una lenD (vr 1))])))
def F__law_of : List D → FO := mkF [true, false] 0 B__law_of
def B__law_answer : M Fl := (sSeq (sAsg (setN 1) (tupM [(una intD (bin addD (ret (.int 1)) (callM F__law_take [.io 0, .v (ret (.int 9))]))), (una intD (bin addD (ret (.int 1)) (callM F__law_take [.io 0, .v (ret (.int 6))])))])) (sRet (callM F__law_of [.io 0, .v (lstM [(ret (.str "free")), (ret (.str "barred")), (ret (.str "barred")), (ret (.str "load")), (tupM [(ret (.int 5)), (ret (.int 3))]), (vr 1)])])))
def F__law_answer : List D → FO := mkF [true] 1 B__law_answer
def B__law_row : M Fl := (sSeq (sAsg (setTr [3, 2]) (tupM [(callM F__law_take [.io 0, .v (bin mulD (ret (.int 7)) (vr 1))]), (callM F__law_of [.io 0, .v (lstM [(ret (.int 0)), (ret (.int 1)), (vr 1), (bin addD (ret (.int 1)) (callM F__law_take [.io 0, .v (vr 1)]))])])])) (sSeq (sAsg (setN 4) (callM F__law_of [.io 0, .v (lstM [(ret (.str "any")), (ret (.str "any")), (ret (.str "plain")), (ret (.str "feast")), (ret (.str "eve"))])])) (sSeq (sAsg (setN 5) (callM F__law_of [.io 0, .v (lstM [(tupM []), (tupM []), (tupM [(ret (.str "van"))]), (tupM [(ret (.str "bus")), (ret (.str "van"))])])])) (sRet (tupM [(una intD (vr 2)), (una intD (bin modD (bin addD (vr 2) (vr 3)) (bin mulD (ret (.int 7)) (vr 1)))), (vr 4), (vr 5), (callM F__law_answer [.io 0])])))))
def F__law_row : List D → FO := mkF [true, false] 4 B__law_row
def B__law_sign : M Fl := (sRet (tupM [(una intD (vr 1)), (una tupD (lcM [3] (range1 [(callM F__law_take [.io 0, .v (bin addD (vr 2) (ret (.int 1)))])]) (setN 3) (ret true) (callM F__law_row [.io 0, .v (vr 1)])))]))
def F__law_sign : List D → FO := mkF [true, false, false] 1 B__law_sign
def B__law_feasts : M Fl := (sRet (una tupD (lcM [2] (range1 [(vr 1)]) (setN 2) (boolOf (bin eqD (callM F__law_take [.io 0, .v (ret (.int 4))]) (ret (.int 0)))) (una intD (vr 2)))))
def F__law_feasts : List D → FO := mkF [true, false] 1 B__law_feasts
def B__law_told : M Fl := (sSeq (sAsg (setT [4, 5]) (vr 0)) (sSeq (sFor (walkA (una revD (bin (lrgD .list) (ret (.int 0)) (una lenD (vr 5))))) (setN 6) (sSeq (sAsg (setT [7, 8, 9, 10, 11]) (bin ixD (vr 5) (vr 6))) (sSeq (sAsg (setN 12) (iteM (boolOf (bin eqD (vr 7) (vr 8))) (ret (.int 0)) (bin modD (bin subD (vr 2) (vr 7)) (bin mulD (ret (.int 7)) (vr 4))))) (sSeq (sIf (orM (andM (boolOf (bin neD (vr 7) (vr 8))) (boolOf (bin geD (vr 12) (bin modD (bin subD (vr 8) (vr 7)) (bin mulD (ret (.int 7)) (vr 4)))))) (andM (boolOf (bin neD (vr 10) (tupM []))) (boolOf (bin ninD (vr 1) (vr 10))))) sCt sNx) (sSeq (sAsg (setN 13) (bin divD (bin subD (vr 2) (vr 12)) (vr 4))) (sSeq (sAsg (setN 14) (noX (dspM [((ret (.str "any")), (ret (.bool true))), ((ret (.str "plain")), (bin ninD (vr 13) (vr 3))), ((ret (.str "feast")), (bin inD (vr 13) (vr 3))), ((ret (.str "eve")), (bin inD (bin addD (vr 13) (ret (.int 1))) (vr 3)))]))) (sIf (truM (bin ixD (vr 14) (vr 9))) (sRet (tupM [(vr 11), (una intD (vr 6))])) sNx))))))) (sRet (tupM [(ret (.str "free")), (ret .none)]))))
def F__law_told : List D → FO := mkF [false, false, false, false] 11 B__law_told
def B_is_integer : M Fl := (sRet (andV (una (isiD "int") (vr 0)) (notV (una (isiD "bool") (vr 0)))))
def F_is_integer : List D → FO := mkF [false] 0 B_is_integer
def B_is_between : M Fl := (sRet (andV (callM F_is_integer [.v (vr 0)]) (chn leD leD (vr 1) (vr 0) (vr 2))))
def F_is_between : List D → FO := mkF [false, false, false] 0 B_is_between
def B_is_ascending : M Fl := (sRet (una allD (lcM [1, 2] (zipM [(vr 0), (slM (vr 0) (some (ret (.int 1))) none)]) (setT [1, 2]) (ret true) (bin ltD (vr 1) (vr 2)))))
def F_is_ascending : List D → FO := mkF [false] 2 B_is_ascending
def B_is_name : M Fl := (sSeq (sIf (orM (notM (truM (una (isiD "str") (vr 0)))) (orM (notM (boolOf (chn leD leD (ret (.int 1)) (una lenD (vr 0)) (ret (.int 8))))) (boolOf (bin ninD (bin ixD (vr 0) (ret (.int 0))) (ret (.str "abcdefghijklmnopqrstuvwxyz")))))) (sRet (ret (.bool false))) sNx) (sRet (una allD (lcM [1] (walkA (vr 0)) (setN 1) (ret true) (bin inD (vr 1) (bin addD (ret (.str "abcdefghijklmnopqrstuvwxyz")) (ret (.str "0123456789"))))))))
def F_is_name : List D → FO := mkF [false] 1 B_is_name
def B_are_kinds : M Fl := (sSeq (sIf (orM (notM (truM (una (isiD "tuple") (vr 0)))) (boolOf (bin gtD (una lenD (vr 0)) (ret (.int 12))))) (sRet (ret (.bool false))) sNx) (sRet (andV (una allD (lcM [1] (walkA (vr 0)) (setN 1) (ret true) (callM F_is_name [.v (vr 1)]))) (callM F_is_ascending [.v (vr 0)]))))
def F_are_kinds : List D → FO := mkF [false] 1 B_are_kinds
def B_is_bound : M Fl := (sSeq (sIf (orM (notM (truM (una (isiD "tuple") (vr 0)))) (boolOf (bin neD (una lenD (vr 0)) (ret (.int 2))))) (sRet (ret (.bool false))) sNx) (sRet (andV (callM F_is_between [.v (bin ixD (vr 0) (ret (.int 0))), .v (ret (.int 1)), .v (ret (.int 10000))]) (callM F_is_between [.v (bin ixD (vr 0) (ret (.int 1))), .v (ret (.int 1)), .v (ret (.int 9999))]))))
def F_is_bound : List D → FO := mkF [false] 0 B_is_bound
def B_is_answer : M Fl := (sRet (orV (callM F_is_name [.v (vr 0)]) (callM F_is_bound [.v (vr 0)])))
def F_is_answer : List D → FO := mkF [false] 0 B_is_answer
def B_is_row : M Fl := (sSeq (sIf (orM (notM (truM (una (isiD "tuple") (vr 1)))) (boolOf (bin neD (una lenD (vr 1)) (ret (.int 5))))) (sRet (ret (.bool false))) sNx) (sSeq (sAsg (setT [2, 3, 4, 5, 6]) (vr 1)) (sSeq (sAsg (setN 7) (bin mulD (ret (.int 7)) (vr 0))) (sSeq (sIf (orM (notM (truM (callM F_is_between [.v (vr 2), .v (ret (.int 0)), .v (bin subD (vr 7) (ret (.int 1)))]))) (orM (notM (truM (callM F_is_between [.v (vr 3), .v (ret (.int 0)), .v (bin subD (vr 7) (ret (.int 1)))]))) (boolOf (bin gtD (bin modD (bin subD (vr 3) (vr 2)) (vr 7)) (vr 0))))) (sRet (ret (.bool false))) sNx) (sSeq (sIf (orM (notM (truM (una (isiD "str") (vr 4)))) (boolOf (bin ninD (vr 4) (tupM [(ret (.str "any")), (ret (.str "plain")), (ret (.str "feast")), (ret (.str "eve"))])))) (sRet (ret (.bool false))) sNx) (sRet (andV (callM F_are_kinds [.v (vr 5)]) (callM F_is_answer [.v (vr 6)]))))))))
def F_is_row : List D → FO := mkF [false, false] 6 B_is_row
def B_is_sign : M Fl := (sSeq (sIf (orM (notM (truM (una (isiD "tuple") (vr 0)))) (orM (boolOf (bin neD (una lenD (vr 0)) (ret (.int 2)))) (notM (truM (callM F_is_between [.v (bin ixD (vr 0) (ret (.int 0))), .v (ret (.int 1)), .v (ret (.int 24))]))))) (sRet (ret (.bool false))) sNx) (sSeq (sAsg (setT [1, 2]) (vr 0)) (sSeq (sIf (orM (notM (truM (una (isiD "tuple") (vr 2)))) (boolOf (bin gtD (una lenD (vr 2)) (ret (.int 12))))) (sRet (ret (.bool false))) sNx) (sRet (una allD (lcM [3] (walkA (vr 2)) (setN 3) (ret true) (callM F_is_row [.v (vr 1), .v (vr 3)])))))))
def F_is_sign : List D → FO := mkF [false] 3 B_is_sign
def B_check_sign : M Fl := (sIf (notM (truM (callM F_is_sign [.v (vr 0)]))) sNo sNx)
def F_check_sign : List D → FO := mkF [false] 0 B_check_sign
def B_is_kind : M Fl := (sRet (orV (isN (vr 0)) (callM F_is_name [.v (vr 0)])))
def F_is_kind : List D → FO := mkF [false] 0 B_is_kind
def B_check_kind : M Fl := (sIf (notM (truM (callM F_is_kind [.v (vr 0)]))) sNo sNx)
def F_check_kind : List D → FO := mkF [false] 0 B_check_kind
def B_are_feasts : M Fl := (sSeq (sIf (orM (notM (truM (una (isiD "tuple") (vr 0)))) (boolOf (bin gtD (una lenD (vr 0)) (ret (.int 400))))) (sRet (ret (.bool false))) sNx) (sRet (andV (una allD (lcM [1] (walkA (vr 0)) (setN 1) (ret true) (callM F_is_between [.v (vr 1), .v (ret (.int 0)), .v (ret (.int 10000))]))) (callM F_is_ascending [.v (vr 0)]))))
def F_are_feasts : List D → FO := mkF [false] 1 B_are_feasts
def B_check_feasts : M Fl := (sIf (notM (truM (callM F_are_feasts [.v (vr 0)]))) sNo sNx)
def F_check_feasts : List D → FO := mkF [false] 0 B_check_feasts
def B_is_tick : M Fl := (sRet (callM F_is_between [.v (vr 0), .v (ret (.int 0)), .v (ret (.int 9999))]))
def F_is_tick : List D → FO := mkF [false] 0 B_is_tick
def B_check_tick : M Fl := (sIf (notM (truM (callM F_is_tick [.v (vr 0)]))) sNo sNx)
def F_check_tick : List D → FO := mkF [false] 0 B_check_tick
def B_does_fit : M Fl := (sSeq (sIf (boolOf (bin eqD (vr 0) (ret (.str "plain")))) (sRet (bin ninD (vr 1) (vr 2))) sNx) (sSeq (sIf (boolOf (bin eqD (vr 0) (ret (.str "feast")))) (sRet (bin inD (vr 1) (vr 2))) sNx) (sRet (orV (bin eqD (vr 0) (ret (.str "any"))) (bin inD (bin addD (vr 1) (ret (.int 1))) (vr 2))))))
def F_does_fit : List D → FO := mkF [false, false, false] 0 B_does_fit
def B_does_bear : M Fl := (sSeq (sAsg (setT [5, 6, 7, 8, 9]) (vr 1)) (sSeq (sIf (andM (boolOf (bin neD (vr 8) (tupM []))) (boolOf (bin ninD (vr 2) (vr 8)))) (sRet (ret (.bool false))) sNx) (sSeq (sAsg (setN 10) (bin mulD (ret (.int 7)) (vr 0))) (sSeq (sAsg (setN 11) (iteM (boolOf (bin neD (vr 5) (vr 6))) (bin modD (bin subD (vr 3) (vr 5)) (vr 10)) (ret (.int 0)))) (sSeq (sIf (andM (boolOf (bin neD (vr 5) (vr 6))) (boolOf (bin geD (vr 11) (bin modD (bin subD (vr 6) (vr 5)) (vr 10))))) (sRet (ret (.bool false))) sNx) (sRet (callM F_does_fit [.v (vr 7), .v (bin divD (bin subD (vr 3) (vr 11)) (vr 0)), .v (vr 4)])))))))
def F_does_bear : List D → FO := mkF [false, false, false, false, false] 7 B_does_bear
def B_told_at : M Fl := (sSeq (sAsg (setT [4, 5]) (vr 0)) (sSeq (sFor (range3 [(bin subD (una lenD (vr 5)) (ret (.int 1))), (una negD (ret (.int 1))), (una negD (ret (.int 1)))]) (setN 6) (sIf (truM (callM F_does_bear [.v (vr 4), .v (bin ixD (vr 5) (vr 6)), .v (vr 1), .v (vr 2), .v (vr 3)])) (sRet (tupM [(bin ixD (bin ixD (vr 5) (vr 6)) (ret (.int 4))), (vr 6)])) sNx)) (sRet (tupM [(ret (.str "free")), (ret .none)]))))
def F_told_at : List D → FO := mkF [false, false, false, false] 3 B_told_at
def B_changes : M Fl := (sSeq (sExpr (callM F_check_sign [.v (vr 0)])) (sSeq (sExpr (callM F_check_kind [.v (vr 1)])) (sSeq (sExpr (callM F_check_feasts [.v (vr 2)])) (sSeq (sExpr (callM F_check_tick [.v (vr 3)])) (sSeq (sExpr (callM F_check_tick [.v (vr 4)])) (sSeq (sAsg (setN 5) (lcM [6] (range2 [(vr 3), (bin addD (vr 4) (ret (.int 1)))]) (setN 6) (ret true) (bin ixD (callM F_told_at [.v (vr 0), .v (vr 1), .v (vr 6), .v (vr 2)]) (ret (.int 0))))) (sRet (una tupD (lcM [7] (range2 [(ret (.int 1)), (una lenD (vr 5))]) (setN 7) (boolOf (bin neD (bin ixD (vr 5) (vr 7)) (bin ixD (vr 5) (bin subD (vr 7) (ret (.int 1)))))) (bin addD (vr 3) (vr 7)))))))))))
def F_changes : List D → FO := mkF [false, false, false, false, false] 3 B_changes
def B_answer : M Fl := (sSeq (sExpr (callM F_check_sign [.v (vr 0)])) (sSeq (sExpr (callM F_check_kind [.v (vr 1)])) (sSeq (sExpr (callM F_check_tick [.v (vr 2)])) (sSeq (sExpr (callM F_check_feasts [.v (vr 3)])) (sRet (bin ixD (callM F_told_at [.v (vr 0), .v (vr 1), .v (vr 2), .v (vr 3)]) (ret (.int 0))))))))
def F_answer : List D → FO := mkF [false, false, false, false] 0 B_answer
def B__law_are_answers_right : M Fl := (sSeq (sAsg (setTr [4, 3]) (tupM [(bin ixD (vr 1) (ret (.int 0))), (callM F__law_of [.io 0, .v (lstM [(ret .none), (ret (.str "van")), (ret (.str "bus")), (ret (.str "taxi"))])])])) (sSeq (sAsg (setN 5) (lstM [(ret (.int 9999)), (una intD (bin addD (ret (.int 9000)) (callM F__law_take [.io 0, .v (ret (.int 999))]))), (una intD (bin addD (ret (.int 100)) (callM F__law_take [.io 0, .v (ret (.int 900))])))])) (sSeq (sFor (walkA (bin addD (bin (lrgD .list) (ret (.int 0)) (bin mulD (ret (.int 14)) (vr 3))) (vr 5))) (setN 6) (sSeq (sAsg (setN 7) (bin ixD (callM F__law_told [.v (vr 1), .v (vr 4), .v (vr 6), .v (vr 2)]) (ret (.int 0)))) (sIf (boolOf (bin neD (una reprD (callK F_answer [0, 1, 2, 3] [(vr 1), (vr 4), (una intD (vr 6)), (vr 2)])) (una reprD (vq 7)))) (sRet (ret (.bool false))) sNx))) (sSeq (sAsg (setTr [9, 8]) (tupM [(una intD (callM F__law_take [.io 0, .v (ret (.int 60))])), (una intD (callM F__law_take [.io 0, .v (ret (.int 160))]))])) (sSeq (sAsgO 7 (lstM [])) (sSeq (sFor (range2 [(bin addD (vr 8) (ret (.int 1))), (bin addD (vr 9) (ret (.int 1)))]) (setN 6) (sIf (boolOf (bin neD (bin ixD (callM F__law_told [.v (vr 1), .v (vr 4), .v (vr 6), .v (vr 2)]) (ret (.int 0))) (bin ixD (callM F__law_told [.v (vr 1), .v (vr 4), .v (bin subD (vr 6) (ret (.int 1))), .v (vr 2)]) (ret (.int 0))))) (sMt 7 (una intD (vr 6)) appD) sNx)) (sRet (bin eqD (una reprD (callM F_changes [.v (vr 1), .v (vr 4), .v (vr 2), .v (vr 8), .v (vr 9)])) (una reprD (una tupD (vq 7)))))))))))
def F__law_are_answers_right : List D → FO := mkF [true, false, false] 7 B__law_are_answers_right
def B__law_are_bent_told : M Fl := (sSeq (sAsg (setT [2, 3]) (vr 1)) (sSeq (sAsg (setT [4, 5]) (tupM [(bin mulD (ret (.int 7)) (vr 2)), (tupM [(ret (.int 0)), (ret (.int 0)), (ret (.str "any")), (tupM []), (ret (.str "barred"))])])) (sSeq (sAsgO 6 (lstM [(una listD (vr 1)), (tupM [(vr 2)]), (tupM [(vr 2), (vr 3), (tupM [])]), (tupM [(vr 2), (una listD (vr 3))]), (tupM [(ret (.int 0)), (tupM [])]), (tupM [(ret (.int 25)), (tupM [])]), (tupM [(ret (.bool true)), (tupM [])])])) (sSeq (sMt 6 (tupM [(una strD (vr 2)), (tupM [])]) appD) (sSeq (sAsgO 7 (lstM [(slM (vr 5) none (some (ret (.int 4)))), (una listD (vr 5)), (bin addD (vr 5) (tupM [(ret (.str "x"))])), (bin addD (tupM [(vr 4), (ret (.int 0))]) (slM (vr 5) (some (ret (.int 2))) none)), (bin addD (tupM [(ret (.int 0)), (vr 4)]) (slM (vr 5) (some (ret (.int 2))) none)), (bin addD (tupM [(una negD (ret (.int 1))), (ret (.int 0))]) (slM (vr 5) (some (ret (.int 2))) none))])) (sSeq (sMt 7 (lstM [(bin addD (tupM [(ret (.int 0)), (bin addD (vr 2) (ret (.int 1)))]) (slM (vr 5) (some (ret (.int 2))) none)), (bin addD (tupM [(ret (.bool true)), (ret (.int 0))]) (slM (vr 5) (some (ret (.int 2))) none)), (bin addD (tupM [(ret (.int 0)), (ret .none)]) (slM (vr 5) (some (ret (.int 2))) none)), (ret .none), (ret (.str "row")), (ret (.int 7))]) extD) (sSeq (sMt 7 (lcM [8] (walkA (tupM [(ret (.str "Any")), (ret (.str "")), (ret .none), (tupM [(ret (.str "any"))]), (ret (.str "sunday"))])) (setN 8) (ret true) (bin addD (bin addD (slM (vr 5) none (some (ret (.int 2)))) (tupM [(vr 8)])) (slM (vr 5) (some (ret (.int 3))) none))) extD) (sSeq (sAsgO 9 (lstM [(tupM [(ret (.str "van")), (ret (.str "bus"))]), (tupM [(ret (.str "van")), (ret (.str "van"))]), (lstM [(ret (.str "van"))]), (tupM [(ret (.str "Van"))]), (ret (.str "van")), (ret .none)])) (sSeq (sMt 9 (una tupD (lcM [1] (walkA (ret (.str "abcdefghijklm"))) (setN 1) (ret true) (bin addD (ret (.str "k")) (vr 1)))) appD) (sSeq (sMt 7 (lcM [10] (walkA (vl 9)) (setN 10) (ret true) (bin addD (bin addD (slM (vr 5) none (some (ret (.int 3)))) (tupM [(vr 10)])) (slM (vr 5) (some (ret (.int 4))) none))) extD) (sSeq (sAsgO 11 (lstM [(ret (.str "")), (ret (.str "Free")), (ret (.str "a b")), (ret (.str "ninesigns")), (ret .none), (tupM [(ret (.int 0)), (ret (.int 3))]), (tupM [(ret (.int 3)), (ret (.int 0))]), (tupM [(ret (.int 10001)), (ret (.int 3))]), (tupM [(ret (.int 3)), (ret (.int 10000))]), (tupM [(ret (.int 3))]), (tupM [(ret (.int 3)), (ret (.int 3)), (ret (.int 3))]), (lstM [(ret (.int 3)), (ret (.int 3))])])) (sSeq (sMt 11 (tupM [(ret (.bool true)), (ret (.int 3))]) appD) (sSeq (sMt 7 (lcM [12] (walkA (vl 11)) (setN 12) (ret true) (bin addD (slM (vr 5) none (some (ret (.int 4)))) (tupM [(vr 12)]))) extD) (sSeq (sMt 6 (lcM [13] (walkA (vl 7)) (setN 13) (ret true) (tupM [(una intD (vr 2)), (bin addD (slM (vr 3) none (some (ret (.int 11)))) (tupM [(vr 13)]))])) extD) (sSeq (sMt 6 (lstM [(tupM [(una intD (vr 2)), (bin mulD (tupM [(vr 5)]) (ret (.int 13)))]), (ret .none), (tupM []), (ret (.str "sign")), (ret (.int 7)), (ret (.dict []))]) extD) (sSeq (sAsg (setN 14) (tupM [(una intD (vr 2)), (tupM [(tupM [(ret (.int 0)), (ret (.int 0)), (ret (.str "any")), (una tupD (lcM [1] (walkA (ret (.str "abcdefghijkl"))) (setN 1) (ret true) (bin addD (ret (.str "k")) (vr 1)))), (ret (.str "free"))])])])) (sSeq (sIf (boolOf (bin isnBD (callM F_is_sign [.v (vr 14)]) (ret (.bool true)))) (sRet (ret (.bool false))) sNx) (sRet (andV (notV (una anyD (lcM [13] (walkA (vl 6)) (setN 13) (ret true) (bin isnBD (callM F_is_sign [.v (vr 13)]) (ret (.bool false)))))) (bin isBD (callK F_is_sign [0] [(vr 1)]) (ret (.bool true))))))))))))))))))))))
def F__law_are_bent_told : List D → FO := mkF [true, false] 13 B__law_are_bent_told
def B__law_right : M Fl := (sSeq (sAsg (setN 1) (callM F__law_of [.io 0, .v (lstM [(ret (.int 1)), (ret (.int 2)), (ret (.int 3)), (ret (.int 4)), (ret (.int 24))])])) (sSeq (sAsg (setN 2) (callM F__law_sign [.io 0, .v (vr 1), .v (ret (.int 12))])) (sSeq (sAsg (setN 3) (bin addD (callM F__law_feasts [.io 0, .v (ret (.int 18))]) (callM F__law_of [.io 0, .v (lstM [(tupM []), (tupM [(ret (.int 2000))]), (tupM [(ret (.int 1000)), (ret (.int 10000))])])]))) (sRet (andV (callM F__law_are_answers_right [.io 0, .v (vr 2), .v (vr 3)]) (callM F__law_are_bent_told [.io 0, .v (vr 2)]))))))
def F__law_right : List D → FO := mkF [true] 3 B__law_right
def B_law : M Fl := (sSeq (sFor (walkA (callM F__law_cells [.v (vr 0), .v (ret (.int 2))])) (setN 1) (sSeq (sAsgO 2 (callM F__law_pot [.v (vr 0), .v (vr 1)])) (sIf (notM (truM (una allD (lcM [3] (range1 [(ret (.int 4))]) (setN 3) (ret true) (callM F__law_right [.io 2]))))) (sRet (ret (.bool false))) sNx))) (sRet (ret (.bool true))))
def F_law : List D → FO := mkF [false] 3 B_law
structure Fx (K : PySem.W.Frag) (mg : Str → Option Value) : Prop where
  z_abs : mg "abs" = none
  z_all : mg "all" = none
  z_any : mg "any" = none
  z_bool : mg "bool" = none
  z_int : mg "int" = none
  z_isinstance : mg "isinstance" = none
  z_len : mg "len" = none
  z_list : mg "list" = none
  z_max : mg "max" = none
  z_min : mg "min" = none
  z_range : mg "range" = none
  z_repr : mg "repr" = none
  z_str : mg "str" = none
  z_sum : mg "sum" = none
  z_tuple : mg "tuple" = none
  z_zip : mg "zip" = none
  c_MOST_SIGNS : ∃ t, mg "MOST_SIGNS" = some (.int 8 t)
  c_LETTERS : ∃ t, mg "LETTERS" = some (.str "abcdefghijklmnopqrstuvwxyz" t)
  c_FIGURES : ∃ t, mg "FIGURES" = some (.str "0123456789" t)
  c_MOST_KINDS : ∃ t, mg "MOST_KINDS" = some (.int 12 t)
  c_MOST_LIMIT : ∃ t, mg "MOST_LIMIT" = some (.int 10000 t)
  c_MOST_GONE : ∃ t, mg "MOST_GONE" = some (.int 9999 t)
  c_DAYS : ∃ t, mg "DAYS" = some (.int 7 t)
  c_ANY : ∃ t, mg "ANY" = some (.str "any" t)
  c_PLAIN : ∃ t, mg "PLAIN" = some (.str "plain" t)
  c_FEAST : ∃ t, mg "FEAST" = some (.str "feast" t)
  c_EVE : ∃ t, mg "EVE" = some (.str "eve" t)
  c_MOST_HOURS : ∃ t, mg "MOST_HOURS" = some (.int 24 t)
  c_MOST_ROWS : ∃ t, mg "MOST_ROWS" = some (.int 12 t)
  c_MOST_FEASTS : ∃ t, mg "MOST_FEASTS" = some (.int 400 t)
  c_LAST_DAY : ∃ t, mg "LAST_DAY" = some (.int 10000 t)
  c_LAST_TICK : ∃ t, mg "LAST_TICK" = some (.int 9999 t)
  c_FREE : ∃ t, mg "FREE" = some (.str "free" t)
section
variable {P : Program} {w : World} {K : PySem.W.Frag} {mg : Str → Option Value} {base : Heap} {f : Addr} {kV doc pm cdv ct : Value} {an : Option Addr}
theorem cal__law_cells (fx : Fx K mg) (Fn : Fun K "_law_cells" "_law_cells" st__law_cells f (PySem.W.fnOf "_law_cells" "_law_cells" (defArgs st__law_cells) (defBody st__law_cells) (defScope st__law_cells) .none kV doc pm an cdv ct)) (hm : mg "_law_cells" = some (.ref f)) :
    CalF P w K mg base 1 "_law_cells" st__law_cells ["script", "most"] [false, false] false F__law_cells := by
  refine cal0 (N := ["script", "most"]) Fn hm ⟨rfl, rfl, rfl, by decide +kernel, rfl, by decide +kernel, by decide +kernel⟩ rfl rfl (fun _ _ _ _ _ _ us hl => match us, hl with | [_, _], _ => rfl) fun cdv A outer s H E Z hz hr hgd => ?_
  have hio : ∀ i, i ∉ posT [false, false] 0 → i ∉ Z.ios := by rw [hz]; exact fun _ h => h
  have nd : (["script", "most"] : List Str).Nodup := by decide
  exact s_one (s_ret (e_om (e_lrg1 rfl rfl fx.z_list rfl fx.z_range (e_max2 rfl rfl fx.z_max (e_int) (e_min2 rfl rfl fx.z_min (e_vr (pv 1)) (e_len rfl fx.z_len (e_q (e_vr (pv 0)))))))))
theorem cal__law_pot (fx : Fx K mg) (Fn : Fun K "_law_pot" "_law_pot" st__law_pot f (PySem.W.fnOf "_law_pot" "_law_pot" (defArgs st__law_pot) (defBody st__law_pot) (defScope st__law_pot) .none kV doc pm an cdv ct)) (hm : mg "_law_pot" = some (.ref f)) :
    CalF P w K mg base 1 "_law_pot" st__law_pot ["script", "place"] [false, false] true F__law_pot := by
  refine cal0o (N := ["script", "place", "cell", "own", "small"]) Fn hm ⟨rfl, rfl, rfl, by decide +kernel, rfl, by decide +kernel, by decide +kernel⟩ rfl rfl (fun _ _ _ _ _ _ us hl => match us, hl with | [_, _], _ => rfl) fun cdv A outer s H E Z hz hr hgd => ?_
  have hio : ∀ i, i ∉ posT [false, false] 0 → i ∉ Z.ios := by rw [hz]; exact fun _ h => h
  have nd : (["script", "place", "cell", "own", "small"] : List Str).Nodup := by decide
  exact s_cons (s_set (i := 2) nd rfl (.inl rfl) (hio 2 (by decide)) (e_ite (c_cmp o_lt b_lt (e_vr (pv 1)) (e_q (e_len rfl fx.z_len (e_q (e_vr (pv 0))))) rfl) (e_ix (hu66 hr) (e_vr (pv 0)) (e_vr (pv 1))) (e_lk (e_add (e_lk (e_add (e_mod (e_sum rfl rfl fx.z_sum (e_q (e_lk (e_sl (e_vr (pv 0)) po_0 (po_1 (e_int)))))) (e_int)) (e_q (e_mul (e_int) (e_vr (pv 1)))))) (e_q (e_int)))))) (s_cons (s_set (i := 3) nd rfl (.inl rfl) (hio 3 (by decide)) (e_mul (e_mod (e_int1 rfl fx.z_int (e_abs rfl fx.z_abs (e_vr (pv 2)))) (e_pow (e_pow (e_int) (e_int)) (e_int))) (e_int1 rfl fx.z_int (e_cmp op_ge b_ge (e_abs rfl fx.z_abs (e_vr (pv 2))) (e_q (e_pow (e_int) (e_int))) rfl)))) (s_cons (s_set (i := 4) nd rfl (.inl rfl) (hio 4 (by decide)) (e_mod (e_int1 rfl fx.z_int (e_vr (pv 2))) (e_int))) (s_one (s_retO (e_lst (a_cons (e_vr (pv 3)) (a_cons (e_mod (e_int1 rfl fx.z_int (e_lk (e_add (e_lk (e_add (e_mul (e_vr (pv 4)) (e_int)) (e_q (e_mul (e_mul (e_int) (e_vr (pv 1))) (e_vr (pv 1)))))) (e_q (e_int))))) (e_int)) (a_cons (e_int) (a_nil)))))))))
theorem cal__law_take (fx : Fx K mg) (Fn : Fun K "_law_take" "_law_take" st__law_take f (PySem.W.fnOf "_law_take" "_law_take" (defArgs st__law_take) (defBody st__law_take) (defScope st__law_take) .none kV doc pm an cdv ct)) (hm : mg "_law_take" = some (.ref f)) :
    CalF P w K mg base 1 "_law_take" st__law_take ["pot", "upto"] [true, false] false F__law_take := by
  refine cal0 (N := ["pot", "upto", "digit", "prime", "blend"]) Fn hm ⟨rfl, rfl, rfl, by decide +kernel, rfl, by decide +kernel, by decide +kernel⟩ rfl rfl (fun _ _ _ _ _ _ us hl => match us, hl with | [_, _], _ => rfl) fun cdv A outer s H E Z hz hr hgd => ?_
  have hio : ∀ i, i ∉ posT [true, false] 0 → i ∉ Z.ios := by rw [hz]; exact fun _ h => h
  have nd : (["pot", "upto", "digit", "prime", "blend"] : List Str).Nodup := by decide
  exact s_cons (s_if (c_cmp op_gt b_gt (e_ixL (hu66 hr) (pv 0) (e_int)) (e_q (e_int)) rfl) (s_cons (s_set (i := 2) nd rfl (.inl rfl) (hio 2 (by decide)) (e_mod (e_int1 rfl fx.z_int (e_ixL (hu66 hr) (pv 0) (e_int))) (e_vr (pv 1)))) (s_cons (s_setIx (pv 0) (e_int) (e_div (e_ixL (hu66 hr) (pv 0) (e_int)) (e_vr (pv 1)))) (s_one (s_ret (e_vr (pv 2)))))) (s_nil)) (s_cons (s_setIx (pv 0) (e_int) (e_lk (e_add (e_ixL (hu66 hr) (pv 0) (e_int)) (e_q (e_int))))) (s_cons (s_set (i := 3) nd rfl (.inl rfl) (hio 3 (by decide)) (e_ix (hu66 hr) (e_om (e_lst (a_cons (e_int) (a_cons (e_int) (a_cons (e_int) (a_cons (e_int) (a_cons (e_int) (a_nil)))))))) (e_mod (e_int1 rfl fx.z_int (e_ixL (hu66 hr) (pv 0) (e_int))) (e_int)))) (s_cons (s_set (i := 4) nd rfl (.inl rfl) (hio 4 (by decide)) (e_mod (e_int1 rfl fx.z_int (e_pow (e_int1 rfl fx.z_int (e_lk (e_add (e_lk (e_add (e_ixL (hu66 hr) (pv 0) (e_int)) (e_q (e_mul (e_mul (e_int) (e_ixL (hu66 hr) (pv 0) (e_int))) (e_ixL (hu66 hr) (pv 0) (e_int)))))) (e_q (e_int))))) (e_int))) (e_vr (pv 3)))) (s_cons (s_set (i := 4) nd rfl (.inl rfl) (hio 4 (by decide)) (e_mod (e_int1 rfl fx.z_int (e_mul (e_vr (pv 4)) (e_lk (e_add (e_mod (e_int1 rfl fx.z_int (e_vr (pv 4))) (e_int)) (e_q (e_mul (e_int) (e_ixL (hu66 hr) (pv 0) (e_int)))))))) (e_int))) (s_one (s_ret (e_mod (e_int1 rfl fx.z_int (e_div (e_vr (pv 4)) (e_int))) (e_vr (pv 1)))))))))
theorem cal__law_of (fx : Fx K mg) (c__law_take : CalF P w K mg base 1 "_law_take" st__law_take ["pot", "upto"] [true, false] false F__law_take) (Fn : Fun K "_law_of" "_law_of" st__law_of f (PySem.W.fnOf "_law_of" "_law_of" (defArgs st__law_of) (defBody st__law_of) (defScope st__law_of) .none kV doc pm an cdv ct)) (hm : mg "_law_of" = some (.ref f)) :
    CalF P w K mg base 2 "_law_of" st__law_of ["pot", "some"] [true, false] false F__law_of := by
  refine cal0 (N := ["pot", "some"]) Fn hm ⟨rfl, rfl, rfl, by decide +kernel, rfl, by decide +kernel, by decide +kernel⟩ rfl rfl (fun _ _ _ _ _ _ us hl => match us, hl with | [_, _], _ => rfl) fun cdv A outer s H E Z hz hr hgd => ?_
  have hio : ∀ i, i ∉ posT [true, false] 0 → i ∉ Z.ios := by rw [hz]; exact fun _ h => h
  have nd : (["pot", "some"] : List Str).Nodup := by decide
  exact s_one (s_ret (e_ix (hu66 hr) (e_vr (pv 1)) (d_call c__law_take hr hgd (g_io (pv 0) (g_v (e_len rfl fx.z_len (e_q (e_vr (pv 1)))) (g_nil))))))
theorem cal__law_answer (fx : Fx K mg) (c__law_take : CalF P w K mg base 1 "_law_take" st__law_take ["pot", "upto"] [true, false] false F__law_take) (c__law_of : CalF P w K mg base 2 "_law_of" st__law_of ["pot", "some"] [true, false] false F__law_of) (Fn : Fun K "_law_answer" "_law_answer" st__law_answer f (PySem.W.fnOf "_law_answer" "_law_answer" (defArgs st__law_answer) (defBody st__law_answer) (defScope st__law_answer) .none kV doc pm an cdv ct)) (hm : mg "_law_answer" = some (.ref f)) :
    CalF P w K mg base 3 "_law_answer" st__law_answer ["pot"] [true] false F__law_answer := by
  refine cal0 (N := ["pot", "bound"]) Fn hm ⟨rfl, rfl, rfl, by decide +kernel, rfl, by decide +kernel, by decide +kernel⟩ rfl rfl (fun _ _ _ _ _ _ us hl => match us, hl with | [_], _ => rfl) fun cdv A outer s H E Z hz hr hgd => ?_
  have hio : ∀ i, i ∉ posT [true] 0 → i ∉ Z.ios := by rw [hz]; exact fun _ h => h
  have nd : (["pot", "bound"] : List Str).Nodup := by decide
  exact s_cons (s_set (i := 1) nd rfl (.inl rfl) (hio 1 (by decide)) (e_tup (a_cons (e_int1 rfl fx.z_int (e_lk (e_add (e_int) (e_q (d_call c__law_take hr hgd (g_io (pv 0) (g_v (e_int) (g_nil)))))))) (a_cons (e_int1 rfl fx.z_int (e_lk (e_add (e_int) (e_q (d_call c__law_take hr hgd (g_io (pv 0) (g_v (e_int) (g_nil)))))))) (a_nil))))) (s_one (s_ret (d_call c__law_of hr hgd (g_io (pv 0) (g_v (e_om (e_lst (a_cons (e_str) (a_cons (e_str) (a_cons (e_str) (a_cons (e_str) (a_cons (e_tup (a_cons (e_int) (a_cons (e_int) (a_nil)))) (a_cons (e_vr (pv 1)) (a_nil))))))))) (g_nil))))))
theorem cal__law_row (fx : Fx K mg) (c__law_take : CalF P w K mg base 1 "_law_take" st__law_take ["pot", "upto"] [true, false] false F__law_take) (c__law_of : CalF P w K mg base 2 "_law_of" st__law_of ["pot", "some"] [true, false] false F__law_of) (c__law_answer : CalF P w K mg base 3 "_law_answer" st__law_answer ["pot"] [true] false F__law_answer) (Fn : Fun K "_law_row" "_law_row" st__law_row f (PySem.W.fnOf "_law_row" "_law_row" (defArgs st__law_row) (defBody st__law_row) (defScope st__law_row) .none kV doc pm an cdv ct)) (hm : mg "_law_row" = some (.ref f)) :
    CalF P w K mg base 4 "_law_row" st__law_row ["pot", "hours"] [true, false] false F__law_row := by
  refine cal0 (N := ["pot", "hours", "begin", "length", "days", "kinds"]) Fn hm ⟨rfl, rfl, rfl, by decide +kernel, rfl, by decide +kernel, by decide +kernel⟩ rfl rfl (fun _ _ _ _ _ _ us hl => match us, hl with | [_, _], _ => rfl) fun cdv A outer s H E Z hz hr hgd => ?_
  have hio : ∀ i, i ∉ posT [true, false] 0 → i ∉ Z.ios := by rw [hz]; exact fun _ h => h
  have nd : (["pot", "hours", "begin", "length", "days", "kinds"] : List Str).Nodup := by decide
  exact s_cons (s_par (xs := ["begin", "length"]) rfl nd rfl (by intro i hi; exact hio i (by revert i; decide)) (e_tup (a_cons (d_call c__law_take hr hgd (g_io (pv 0) (g_v (e_mul (e_int) (e_vr (pv 1))) (g_nil)))) (a_cons (d_call c__law_of hr hgd (g_io (pv 0) (g_v (e_om (e_lst (a_cons (e_int) (a_cons (e_int) (a_cons (e_vr (pv 1)) (a_cons (e_lk (e_add (e_int) (e_q (d_call c__law_take hr hgd (g_io (pv 0) (g_v (e_vr (pv 1)) (g_nil))))))) (a_nil))))))) (g_nil)))) (a_nil))))) (s_cons (s_set (i := 4) nd rfl (.inl rfl) (hio 4 (by decide)) (d_call c__law_of hr hgd (g_io (pv 0) (g_v (e_om (e_lst (a_cons (e_str) (a_cons (e_str) (a_cons (e_str) (a_cons (e_str) (a_cons (e_str) (a_nil)))))))) (g_nil))))) (s_cons (s_set (i := 5) nd rfl (.inl rfl) (hio 5 (by decide)) (d_call c__law_of hr hgd (g_io (pv 0) (g_v (e_om (e_lst (a_cons (e_tup (a_nil)) (a_cons (e_tup (a_nil)) (a_cons (e_tup (a_cons (e_str) (a_nil))) (a_cons (e_tup (a_cons (e_str) (a_cons (e_str) (a_nil)))) (a_nil))))))) (g_nil))))) (s_one (s_ret (e_tup (a_cons (e_int1 rfl fx.z_int (e_vr (pv 2))) (a_cons (e_int1 rfl fx.z_int (e_mod (e_lk (e_add (e_vr (pv 2)) (e_q (e_vr (pv 3))))) (e_mul (e_int) (e_vr (pv 1))))) (a_cons (e_vr (pv 4)) (a_cons (e_vr (pv 5)) (a_cons (d_call c__law_answer hr hgd (g_io (pv 0) (g_nil))) (a_nil)))))))))))
theorem cal__law_sign (fx : Fx K mg) (c__law_take : CalF P w K mg base 1 "_law_take" st__law_take ["pot", "upto"] [true, false] false F__law_take) (c__law_row : CalF P w K mg base 4 "_law_row" st__law_row ["pot", "hours"] [true, false] false F__law_row) (Fn : Fun K "_law_sign" "_law_sign" st__law_sign f (PySem.W.fnOf "_law_sign" "_law_sign" (defArgs st__law_sign) (defBody st__law_sign) (defScope st__law_sign) .none kV doc pm an cdv ct)) (hm : mg "_law_sign" = some (.ref f)) :
    CalF P w K mg base 5 "_law_sign" st__law_sign ["pot", "hours", "most"] [true, false, false] false F__law_sign := by
  refine cal0 (N := ["pot", "hours", "most", "lap"]) Fn hm ⟨rfl, rfl, rfl, by decide +kernel, rfl, by decide +kernel, by decide +kernel⟩ rfl rfl (fun _ _ _ _ _ _ us hl => match us, hl with | [_, _, _], _ => rfl) fun cdv A outer s H E Z hz hr hgd => ?_
  have hio : ∀ i, i ∉ posT [true, false, false] 0 → i ∉ Z.ios := by rw [hz]; exact fun _ h => h
  have nd : (["pot", "hours", "most", "lap"] : List Str).Nodup := by decide
  exact s_one (s_ret (e_tup (a_cons (e_int1 rfl fx.z_int (e_vr (pv 1))) (a_cons (e_tuple rfl fx.z_tuple (e_q (e_om (e_lc rfl nd (i_rg1 rfl fx.z_range (a_cons (d_call c__law_take hr hgd (g_io (pv 0) (g_v (e_lk (e_add (e_vr (pv 2)) (e_q (e_int)))) (g_nil)))) (a_nil))) (own := [("lap", 3)]) (is := [3]) rfl rfl (by decide) (by rw [hz]; decide) (fun _ _ => tw_n (hio 3 (by decide))) (fun _ _ _ _ _ => pg_name (i := 3) nd rfl (by first | exact .inl rfl | exact .inr rfl)) (fun _ _ _ _ _ => k_nil) (fun _ _ _ _ _ _ _ => d_call c__law_row hr hgd (g_io (pv 0) (g_v (e_vr (pv 1)) (g_nil)))))))) (a_nil)))))
theorem cal__law_feasts (fx : Fx K mg) (c__law_take : CalF P w K mg base 1 "_law_take" st__law_take ["pot", "upto"] [true, false] false F__law_take) (Fn : Fun K "_law_feasts" "_law_feasts" st__law_feasts f (PySem.W.fnOf "_law_feasts" "_law_feasts" (defArgs st__law_feasts) (defBody st__law_feasts) (defScope st__law_feasts) .none kV doc pm an cdv ct)) (hm : mg "_law_feasts" = some (.ref f)) :
    CalF P w K mg base 2 "_law_feasts" st__law_feasts ["pot", "days"] [true, false] false F__law_feasts := by
  refine cal0 (N := ["pot", "days", "day"]) Fn hm ⟨rfl, rfl, rfl, by decide +kernel, rfl, by decide +kernel, by decide +kernel⟩ rfl rfl (fun _ _ _ _ _ _ us hl => match us, hl with | [_, _], _ => rfl) fun cdv A outer s H E Z hz hr hgd => ?_
  have hio : ∀ i, i ∉ posT [true, false] 0 → i ∉ Z.ios := by rw [hz]; exact fun _ h => h
  have nd : (["pot", "days", "day"] : List Str).Nodup := by decide
  exact s_one (s_ret (e_tuple rfl fx.z_tuple (e_q (e_om (e_lc rfl nd (i_rg1 rfl fx.z_range (a_cons (e_vr (pv 1)) (a_nil))) (own := [("day", 2)]) (is := [2]) rfl rfl (by decide) (by rw [hz]; decide) (fun _ _ => tw_n (hio 2 (by decide))) (fun _ _ _ _ _ => pg_name (i := 2) nd rfl (by first | exact .inl rfl | exact .inr rfl)) (fun _ _ _ _ _ => k_one fun _ _ => c_cmp (o_eq (hu64 hr)) b_eq (d_call c__law_take hr hgd (g_io (pv 0) (g_v (e_int) (g_nil)))) (e_q (e_int)) rfl) (fun _ _ _ _ _ _ _ => e_int1 rfl fx.z_int (e_vr (pv 2))))))))
theorem cal__law_told (fx : Fx K mg) (Fn : Fun K "_law_told" "_law_told" st__law_told f (PySem.W.fnOf "_law_told" "_law_told" (defArgs st__law_told) (defBody st__law_told) (defScope st__law_told) .none kV doc pm an cdv ct)) (hm : mg "_law_told" = some (.ref f)) :
    CalF P w K mg base 1 "_law_told" st__law_told ["sign", "kind", "tick", "feasts"] [false, false, false, false] false F__law_told := by
  refine cal0 (N := ["sign", "kind", "tick", "feasts", "hours", "rows", "at", "begin", "end", "days", "kinds", "word", "ago", "day", "fits"]) Fn hm ⟨rfl, rfl, rfl, by decide +kernel, rfl, by decide +kernel, by decide +kernel⟩ rfl rfl (fun _ _ _ _ _ _ us hl => match us, hl with | [_, _, _, _], _ => rfl) fun cdv A outer s H E Z hz hr hgd => ?_
  have hio : ∀ i, i ∉ posT [false, false, false, false] 0 → i ∉ Z.ios := by rw [hz]; exact fun _ h => h
  have nd : (["sign", "kind", "tick", "feasts", "hours", "rows", "at", "begin", "end", "days", "kinds", "word", "ago", "day", "fits"] : List Str).Nodup := by decide
  exact s_cons (s_tup (pg_seq rfl (pgs_cons (pg_name (i := 4) nd rfl (.inl rfl)) (pgs_cons (pg_name (i := 5) nd rfl (.inl rfl)) (pgs_nil)))) (by intro i hi; exact hio i (by revert i; decide)) (e_vr (pv 0))) (s_cons (s_for pNever rfl (i_any (e_om (e_rev (e_q (e_om (e_lrg1 rfl rfl fx.z_list rfl fx.z_range (e_len rfl fx.z_len (e_q (e_vr (pv 5)))))))))) (pg_name (i := 6) nd rfl (.inl rfl)) (tg_n (hio 6 (by decide))) (s_cons (s_tup (pg_seq rfl (pgs_cons (pg_name (i := 7) nd rfl (.inl rfl)) (pgs_cons (pg_name (i := 8) nd rfl (.inl rfl)) (pgs_cons (pg_name (i := 9) nd rfl (.inl rfl)) (pgs_cons (pg_name (i := 10) nd rfl (.inl rfl)) (pgs_cons (pg_name (i := 11) nd rfl (.inl rfl)) (pgs_nil))))))) (by intro i hi; exact hio i (by revert i; decide)) (e_ix (hu66 hr) (e_vr (pv 5)) (e_vr (pv 6)))) (s_cons (s_set (i := 12) nd rfl (.inl rfl) (hio 12 (by decide)) (e_ite (c_cmp (o_eq (hu64 hr)) b_eq (e_vr (pv 7)) (e_q (e_vr (pv 8))) rfl) (e_int) (e_mod (e_sub (e_vr (pv 2)) (e_vr (pv 7))) (e_mul (e_int) (e_vr (pv 4)))))) (s_cons (s_if (PW.pt (w_or (PW.pt (w_and (c_cmp (o_ne (hu64 hr)) b_ne (e_vr (pv 7)) (e_q (e_vr (pv 8))) rfl) (w_1a (c_cmp op_ge b_ge (e_vr (pv 12)) (e_q (e_mod (e_sub (e_vr (pv 8)) (e_vr (pv 7))) (e_mul (e_int) (e_vr (pv 4))))) rfl)))) (w_1o (PW.pt (w_and (c_cmp (o_ne (hu64 hr)) b_ne (e_vr (pv 10)) (e_q (e_tup (a_nil))) rfl) (w_1a (c_cmp (o_ninA (hu66 hr)) b_nin (e_vr (pv 1)) (e_q (e_vr (pv 10))) rfl))))))) (s_one (s_cont)) (s_nil)) (s_cons (s_set (i := 13) nd rfl (.inl rfl) (hio 13 (by decide)) (e_div (e_sub (e_vr (pv 2)) (e_vr (pv 12))) (e_vr (pv 4)))) (s_cons (s_set (i := 14) nd rfl (.inl rfl) (hio 14 (by decide)) (e_om (e_dsp (p_cons (fun _ => e_str) (fun _ => e_bl) (p_cons (fun _ => e_str) (fun _ => e_cmp (o_ninA (hu66 hr)) b_nin (e_vr (pv 13)) (e_q (e_vr (pv 3))) rfl) (p_cons (fun _ => e_str) (fun _ => e_cmp (o_inA (hu66 hr)) b_in (e_vr (pv 13)) (e_q (e_vr (pv 3))) rfl) (p_cons (fun _ => e_str) (fun _ => e_cmp (o_inA (hu66 hr)) b_in (e_lk (e_add (e_vr (pv 13)) (e_q (e_int)))) (e_q (e_vr (pv 3))) rfl) (p_nil)))))))) (s_one (s_if (c_tru (e_q (e_ix (hu66 hr) (e_vr (pv 14)) (e_vr (pv 9)))) (fun _ => rfl)) (s_one (s_ret (e_tup (a_cons (e_vr (pv 11)) (a_cons (e_int1 rfl fx.z_int (e_vr (pv 6))) (a_nil)))))) (s_nil))))))))) (s_one (s_ret (e_tup (a_cons (e_str) (a_cons (e_non) (a_nil)))))))
theorem cal_is_integer (fx : Fx K mg) (Fn : Fun K "is_integer" "is_integer" st_is_integer f (PySem.W.fnOf "is_integer" "is_integer" (defArgs st_is_integer) (defBody st_is_integer) (defScope st_is_integer) .none kV doc pm an cdv ct)) (hm : mg "is_integer" = some (.ref f)) :
    CalF P w K mg base 1 "is_integer" st_is_integer ["value"] [false] false F_is_integer := by
  refine cal0 (N := ["value"]) Fn hm ⟨rfl, rfl, rfl, by decide +kernel, rfl, by decide +kernel, by decide +kernel⟩ rfl rfl (fun _ _ _ _ _ _ us hl => match us, hl with | [_], _ => rfl) fun cdv A outer s H E Z hz hr hgd => ?_
  have hio : ∀ i, i ∉ posT [false] 0 → i ∉ Z.ios := by rw [hz]; exact fun _ h => h
  have nd : (["value"] : List Str).Nodup := by decide
  exact s_one (s_ret (v_and (e_isi (T := "int") (by decide) ZZ.boot_int rfl fx.z_int rfl fx.z_isinstance (e_q (e_vr (pv 0)))) (v_1 (v_not (e_q (e_isi (T := "bool") (by decide) ZZ.boot_bool rfl fx.z_bool rfl fx.z_isinstance (e_q (e_vr (pv 0)))))))))
theorem cal_is_between (fx : Fx K mg) (c_is_integer : CalF P w K mg base 1 "is_integer" st_is_integer ["value"] [false] false F_is_integer) (Fn : Fun K "is_between" "is_between" st_is_between f (PySem.W.fnOf "is_between" "is_between" (defArgs st_is_between) (defBody st_is_between) (defScope st_is_between) .none kV doc pm an cdv ct)) (hm : mg "is_between" = some (.ref f)) :
    CalF P w K mg base 2 "is_between" st_is_between ["value", "low", "high"] [false, false, false] false F_is_between := by
  refine cal0 (N := ["value", "low", "high"]) Fn hm ⟨rfl, rfl, rfl, by decide +kernel, rfl, by decide +kernel, by decide +kernel⟩ rfl rfl (fun _ _ _ _ _ _ us hl => match us, hl with | [_, _, _], _ => rfl) fun cdv A outer s H E Z hz hr hgd => ?_
  have hio : ∀ i, i ∉ posT [false, false, false] 0 → i ∉ Z.ios := by rw [hz]; exact fun _ h => h
  have nd : (["value", "low", "high"] : List Str).Nodup := by decide
  exact s_one (s_ret (v_and (d_call c_is_integer hr hgd (g_v (e_vr (pv 0)) (g_nil))) (v_1 (e_chn op_le b_le op_le b_le (e_vr (pv 1)) (e_vr (pv 0)) (e_vr (pv 2))))))
theorem cal_is_ascending (fx : Fx K mg) (Fn : Fun K "is_ascending" "is_ascending" st_is_ascending f (PySem.W.fnOf "is_ascending" "is_ascending" (defArgs st_is_ascending) (defBody st_is_ascending) (defScope st_is_ascending) .none kV doc pm an cdv ct)) (hm : mg "is_ascending" = some (.ref f)) :
    CalF P w K mg base 1 "is_ascending" st_is_ascending ["items"] [false] false F_is_ascending := by
  refine cal0 (N := ["items", "one", "other"]) Fn hm ⟨rfl, rfl, rfl, by decide +kernel, rfl, by decide +kernel, by decide +kernel⟩ rfl rfl (fun _ _ _ _ _ _ us hl => match us, hl with | [_], _ => rfl) fun cdv A outer s H E Z hz hr hgd => ?_
  have hio : ∀ i, i ∉ posT [false] 0 → i ∉ Z.ios := by rw [hz]; exact fun _ h => h
  have nd : (["items", "one", "other"] : List Str).Nodup := by decide
  exact s_one (s_ret (e_all rfl rfl fx.z_all (e_q (e_om (e_lc rfl nd (i_zip rfl fx.z_zip (a_cons (e_vr (pv 0)) (a_cons (e_lk (e_sl (e_vr (pv 0)) (po_1 (e_int)) po_0)) (a_nil))) (RZ.pi_zipA rfl fx.z_zip (a_cons (e_vr (pv 0)) (a_cons (e_lk (e_sl (e_vr (pv 0)) (po_1 (e_int)) po_0)) (a_nil))))) (own := [("one", 1), ("other", 2)]) (is := [1, 2]) rfl rfl (by decide) (by rw [hz]; decide) (fun _ _ => tw_t (by intro i hi; exact hio i (by revert i; decide))) (fun _ _ _ _ _ => pg_seq rfl (pgs_cons (pg_name (i := 1) nd rfl (by first | exact .inl rfl | exact .inr rfl)) (pgs_cons (pg_name (i := 2) nd rfl (by first | exact .inl rfl | exact .inr rfl)) (pgs_nil)))) (fun _ _ _ _ _ => k_nil) (fun _ _ _ _ _ _ _ => e_cmp o_lt b_lt (e_vr (pv 1)) (e_q (e_vr (pv 2))) rfl))))))
theorem cal_is_name (fx : Fx K mg) (Fn : Fun K "is_name" "is_name" st_is_name f (PySem.W.fnOf "is_name" "is_name" (defArgs st_is_name) (defBody st_is_name) (defScope st_is_name) .none kV doc pm an cdv ct)) (hm : mg "is_name" = some (.ref f)) :
    CalF P w K mg base 1 "is_name" st_is_name ["value"] [false] false F_is_name := by
  obtain ⟨t_MOST_SIGNS, h_MOST_SIGNS⟩ := fx.c_MOST_SIGNS
  obtain ⟨t_LETTERS, h_LETTERS⟩ := fx.c_LETTERS
  obtain ⟨t_FIGURES, h_FIGURES⟩ := fx.c_FIGURES
  refine cal0 (N := ["value", "sign"]) Fn hm ⟨rfl, rfl, rfl, by decide +kernel, rfl, by decide +kernel, by decide +kernel⟩ rfl rfl (fun _ _ _ _ _ _ us hl => match us, hl with | [_], _ => rfl) fun cdv A outer s H E Z hz hr hgd => ?_
  have hio : ∀ i, i ∉ posT [false] 0 → i ∉ Z.ios := by rw [hz]; exact fun _ h => h
  have nd : (["value", "sign"] : List Str).Nodup := by decide
  exact s_cons (s_if (PW.pt (w_or (c_not (c_tru (e_q (e_isi (T := "str") (by decide) ZZ.boot_str rfl fx.z_str rfl fx.z_isinstance (e_q (e_vr (pv 0))))) (fun _ => rfl))) (w_or (c_not (c_chn op_le b_le op_le b_le (e_int) (e_len rfl fx.z_len (e_q (e_vr (pv 0)))) (e_gl (v := .int 8) rfl h_MOST_SIGNS ⟨_, rfl⟩ (fun _ => .int _)))) (w_1o (c_cmp (o_ninA (hu66 hr)) b_nin (e_ix (hu66 hr) (e_vr (pv 0)) (e_int)) (e_q (e_gl (v := .str "abcdefghijklmnopqrstuvwxyz") rfl h_LETTERS ⟨_, rfl⟩ (fun _ => .str _))) rfl))))) (s_one (s_ret (e_bl))) (s_nil)) (s_one (s_ret (e_all rfl rfl fx.z_all (e_q (e_om (e_lc rfl nd (i_any (e_vr (pv 0))) (own := [("sign", 1)]) (is := [1]) rfl rfl (by decide) (by rw [hz]; decide) (fun _ _ => tw_n (hio 1 (by decide))) (fun _ _ _ _ _ => pg_name (i := 1) nd rfl (by first | exact .inl rfl | exact .inr rfl)) (fun _ _ _ _ _ => k_nil) (fun _ _ _ _ _ _ _ => e_cmp (o_inA (hu66 hr)) b_in (e_vr (pv 1)) (e_q (e_lk (e_add (e_gl (v := .str "abcdefghijklmnopqrstuvwxyz") rfl h_LETTERS ⟨_, rfl⟩ (fun _ => .str _)) (e_q (e_gl (v := .str "0123456789") rfl h_FIGURES ⟨_, rfl⟩ (fun _ => .str _)))))) rfl)))))))
theorem cal_are_kinds (fx : Fx K mg) (c_is_name : CalF P w K mg base 1 "is_name" st_is_name ["value"] [false] false F_is_name) (c_is_ascending : CalF P w K mg base 1 "is_ascending" st_is_ascending ["items"] [false] false F_is_ascending) (Fn : Fun K "are_kinds" "are_kinds" st_are_kinds f (PySem.W.fnOf "are_kinds" "are_kinds" (defArgs st_are_kinds) (defBody st_are_kinds) (defScope st_are_kinds) .none kV doc pm an cdv ct)) (hm : mg "are_kinds" = some (.ref f)) :
    CalF P w K mg base 2 "are_kinds" st_are_kinds ["value"] [false] false F_are_kinds := by
  obtain ⟨t_MOST_KINDS, h_MOST_KINDS⟩ := fx.c_MOST_KINDS
  refine cal0 (N := ["value", "one"]) Fn hm ⟨rfl, rfl, rfl, by decide +kernel, rfl, by decide +kernel, by decide +kernel⟩ rfl rfl (fun _ _ _ _ _ _ us hl => match us, hl with | [_], _ => rfl) fun cdv A outer s H E Z hz hr hgd => ?_
  have hio : ∀ i, i ∉ posT [false] 0 → i ∉ Z.ios := by rw [hz]; exact fun _ h => h
  have nd : (["value", "one"] : List Str).Nodup := by decide
  exact s_cons (s_if (PW.pt (w_or (c_not (c_tru (e_q (e_isi (T := "tuple") (by decide) ZZ.boot_tuple rfl fx.z_tuple rfl fx.z_isinstance (e_q (e_vr (pv 0))))) (fun _ => rfl))) (w_1o (c_cmp op_gt b_gt (e_len rfl fx.z_len (e_q (e_vr (pv 0)))) (e_q (e_gl (v := .int 12) rfl h_MOST_KINDS ⟨_, rfl⟩ (fun _ => .int _))) rfl)))) (s_one (s_ret (e_bl))) (s_nil)) (s_one (s_ret (v_and (e_all rfl rfl fx.z_all (e_q (e_om (e_lc rfl nd (i_any (e_vr (pv 0))) (own := [("one", 1)]) (is := [1]) rfl rfl (by decide) (by rw [hz]; decide) (fun _ _ => tw_n (hio 1 (by decide))) (fun _ _ _ _ _ => pg_name (i := 1) nd rfl (by first | exact .inl rfl | exact .inr rfl)) (fun _ _ _ _ _ => k_nil) (fun _ _ _ _ _ _ _ => d_call c_is_name hr hgd (g_v (e_vr (pv 1)) (g_nil))))))) (v_1 (d_call c_is_ascending hr hgd (g_v (e_vr (pv 0)) (g_nil)))))))
theorem cal_is_bound (fx : Fx K mg) (c_is_between : CalF P w K mg base 2 "is_between" st_is_between ["value", "low", "high"] [false, false, false] false F_is_between) (Fn : Fun K "is_bound" "is_bound" st_is_bound f (PySem.W.fnOf "is_bound" "is_bound" (defArgs st_is_bound) (defBody st_is_bound) (defScope st_is_bound) .none kV doc pm an cdv ct)) (hm : mg "is_bound" = some (.ref f)) :
    CalF P w K mg base 3 "is_bound" st_is_bound ["value"] [false] false F_is_bound := by
  obtain ⟨t_MOST_LIMIT, h_MOST_LIMIT⟩ := fx.c_MOST_LIMIT
  obtain ⟨t_MOST_GONE, h_MOST_GONE⟩ := fx.c_MOST_GONE
  refine cal0 (N := ["value"]) Fn hm ⟨rfl, rfl, rfl, by decide +kernel, rfl, by decide +kernel, by decide +kernel⟩ rfl rfl (fun _ _ _ _ _ _ us hl => match us, hl with | [_], _ => rfl) fun cdv A outer s H E Z hz hr hgd => ?_
  have hio : ∀ i, i ∉ posT [false] 0 → i ∉ Z.ios := by rw [hz]; exact fun _ h => h
  have nd : (["value"] : List Str).Nodup := by decide
  exact s_cons (s_if (PW.pt (w_or (c_not (c_tru (e_q (e_isi (T := "tuple") (by decide) ZZ.boot_tuple rfl fx.z_tuple rfl fx.z_isinstance (e_q (e_vr (pv 0))))) (fun _ => rfl))) (w_1o (c_cmp (o_ne (hu64 hr)) b_ne (e_len rfl fx.z_len (e_q (e_vr (pv 0)))) (e_q (e_int)) rfl)))) (s_one (s_ret (e_bl))) (s_nil)) (s_one (s_ret (v_and (d_call c_is_between hr hgd (g_v (e_ix (hu66 hr) (e_vr (pv 0)) (e_int)) (g_v (e_int) (g_v (e_gl (v := .int 10000) rfl h_MOST_LIMIT ⟨_, rfl⟩ (fun _ => .int _)) (g_nil))))) (v_1 (d_call c_is_between hr hgd (g_v (e_ix (hu66 hr) (e_vr (pv 0)) (e_int)) (g_v (e_int) (g_v (e_gl (v := .int 9999) rfl h_MOST_GONE ⟨_, rfl⟩ (fun _ => .int _)) (g_nil)))))))))
theorem cal_is_answer (fx : Fx K mg) (c_is_name : CalF P w K mg base 1 "is_name" st_is_name ["value"] [false] false F_is_name) (c_is_bound : CalF P w K mg base 3 "is_bound" st_is_bound ["value"] [false] false F_is_bound) (Fn : Fun K "is_answer" "is_answer" st_is_answer f (PySem.W.fnOf "is_answer" "is_answer" (defArgs st_is_answer) (defBody st_is_answer) (defScope st_is_answer) .none kV doc pm an cdv ct)) (hm : mg "is_answer" = some (.ref f)) :
    CalF P w K mg base 4 "is_answer" st_is_answer ["value"] [false] false F_is_answer := by
  refine cal0 (N := ["value"]) Fn hm ⟨rfl, rfl, rfl, by decide +kernel, rfl, by decide +kernel, by decide +kernel⟩ rfl rfl (fun _ _ _ _ _ _ us hl => match us, hl with | [_], _ => rfl) fun cdv A outer s H E Z hz hr hgd => ?_
  have hio : ∀ i, i ∉ posT [false] 0 → i ∉ Z.ios := by rw [hz]; exact fun _ h => h
  have nd : (["value"] : List Str).Nodup := by decide
  exact s_one (s_ret (v_or (d_call c_is_name hr hgd (g_v (e_vr (pv 0)) (g_nil))) (v_1 (d_call c_is_bound hr hgd (g_v (e_vr (pv 0)) (g_nil))))))
theorem cal_is_row (fx : Fx K mg) (c_is_between : CalF P w K mg base 2 "is_between" st_is_between ["value", "low", "high"] [false, false, false] false F_is_between) (c_are_kinds : CalF P w K mg base 2 "are_kinds" st_are_kinds ["value"] [false] false F_are_kinds) (c_is_answer : CalF P w K mg base 4 "is_answer" st_is_answer ["value"] [false] false F_is_answer) (Fn : Fun K "is_row" "is_row" st_is_row f (PySem.W.fnOf "is_row" "is_row" (defArgs st_is_row) (defBody st_is_row) (defScope st_is_row) .none kV doc pm an cdv ct)) (hm : mg "is_row" = some (.ref f)) :
    CalF P w K mg base 5 "is_row" st_is_row ["hours", "value"] [false, false] false F_is_row := by
  obtain ⟨t_DAYS, h_DAYS⟩ := fx.c_DAYS
  obtain ⟨t_ANY, h_ANY⟩ := fx.c_ANY
  obtain ⟨t_PLAIN, h_PLAIN⟩ := fx.c_PLAIN
  obtain ⟨t_FEAST, h_FEAST⟩ := fx.c_FEAST
  obtain ⟨t_EVE, h_EVE⟩ := fx.c_EVE
  refine cal0 (N := ["hours", "value", "begin", "end", "days", "kinds", "told", "week"]) Fn hm ⟨rfl, rfl, rfl, by decide +kernel, rfl, by decide +kernel, by decide +kernel⟩ rfl rfl (fun _ _ _ _ _ _ us hl => match us, hl with | [_, _], _ => rfl) fun cdv A outer s H E Z hz hr hgd => ?_
  have hio : ∀ i, i ∉ posT [false, false] 0 → i ∉ Z.ios := by rw [hz]; exact fun _ h => h
  have nd : (["hours", "value", "begin", "end", "days", "kinds", "told", "week"] : List Str).Nodup := by decide
  exact s_cons (s_if (PW.pt (w_or (c_not (c_tru (e_q (e_isi (T := "tuple") (by decide) ZZ.boot_tuple rfl fx.z_tuple rfl fx.z_isinstance (e_q (e_vr (pv 1))))) (fun _ => rfl))) (w_1o (c_cmp (o_ne (hu64 hr)) b_ne (e_len rfl fx.z_len (e_q (e_vr (pv 1)))) (e_q (e_int)) rfl)))) (s_one (s_ret (e_bl))) (s_nil)) (s_cons (s_tup (pg_seq rfl (pgs_cons (pg_name (i := 2) nd rfl (.inl rfl)) (pgs_cons (pg_name (i := 3) nd rfl (.inl rfl)) (pgs_cons (pg_name (i := 4) nd rfl (.inl rfl)) (pgs_cons (pg_name (i := 5) nd rfl (.inl rfl)) (pgs_cons (pg_name (i := 6) nd rfl (.inl rfl)) (pgs_nil))))))) (by intro i hi; exact hio i (by revert i; decide)) (e_vr (pv 1))) (s_cons (s_set (i := 7) nd rfl (.inl rfl) (hio 7 (by decide)) (e_mul (e_gl (v := .int 7) rfl h_DAYS ⟨_, rfl⟩ (fun _ => .int _)) (e_vr (pv 0)))) (s_cons (s_if (PW.pt (w_or (c_not (c_tru (e_q (d_call c_is_between hr hgd (g_v (e_vr (pv 2)) (g_v (e_int) (g_v (e_sub (e_vr (pv 7)) (e_int)) (g_nil)))))) (fun _ => rfl))) (w_or (c_not (c_tru (e_q (d_call c_is_between hr hgd (g_v (e_vr (pv 3)) (g_v (e_int) (g_v (e_sub (e_vr (pv 7)) (e_int)) (g_nil)))))) (fun _ => rfl))) (w_1o (c_cmp op_gt b_gt (e_mod (e_sub (e_vr (pv 3)) (e_vr (pv 2))) (e_vr (pv 7))) (e_q (e_vr (pv 0))) rfl))))) (s_one (s_ret (e_bl))) (s_nil)) (s_cons (s_if (PW.pt (w_or (c_not (c_tru (e_q (e_isi (T := "str") (by decide) ZZ.boot_str rfl fx.z_str rfl fx.z_isinstance (e_q (e_vr (pv 4))))) (fun _ => rfl))) (w_1o (c_cmp (o_ninA (hu66 hr)) b_nin (e_vr (pv 4)) (e_q (e_tup (a_cons (e_gl (v := .str "any") rfl h_ANY ⟨_, rfl⟩ (fun _ => .str _)) (a_cons (e_gl (v := .str "plain") rfl h_PLAIN ⟨_, rfl⟩ (fun _ => .str _)) (a_cons (e_gl (v := .str "feast") rfl h_FEAST ⟨_, rfl⟩ (fun _ => .str _)) (a_cons (e_gl (v := .str "eve") rfl h_EVE ⟨_, rfl⟩ (fun _ => .str _)) (a_nil))))))) rfl)))) (s_one (s_ret (e_bl))) (s_nil)) (s_one (s_ret (v_and (d_call c_are_kinds hr hgd (g_v (e_vr (pv 5)) (g_nil))) (v_1 (d_call c_is_answer hr hgd (g_v (e_vr (pv 6)) (g_nil)))))))))))
theorem cal_is_sign (fx : Fx K mg) (c_is_between : CalF P w K mg base 2 "is_between" st_is_between ["value", "low", "high"] [false, false, false] false F_is_between) (c_is_row : CalF P w K mg base 5 "is_row" st_is_row ["hours", "value"] [false, false] false F_is_row) (Fn : Fun K "is_sign" "is_sign" st_is_sign f (PySem.W.fnOf "is_sign" "is_sign" (defArgs st_is_sign) (defBody st_is_sign) (defScope st_is_sign) .none kV doc pm an cdv ct)) (hm : mg "is_sign" = some (.ref f)) :
    CalF P w K mg base 6 "is_sign" st_is_sign ["value"] [false] false F_is_sign := by
  obtain ⟨t_MOST_HOURS, h_MOST_HOURS⟩ := fx.c_MOST_HOURS
  obtain ⟨t_MOST_ROWS, h_MOST_ROWS⟩ := fx.c_MOST_ROWS
  refine cal0 (N := ["value", "hours", "rows", "row"]) Fn hm ⟨rfl, rfl, rfl, by decide +kernel, rfl, by decide +kernel, by decide +kernel⟩ rfl rfl (fun _ _ _ _ _ _ us hl => match us, hl with | [_], _ => rfl) fun cdv A outer s H E Z hz hr hgd => ?_
  have hio : ∀ i, i ∉ posT [false] 0 → i ∉ Z.ios := by rw [hz]; exact fun _ h => h
  have nd : (["value", "hours", "rows", "row"] : List Str).Nodup := by decide
  exact s_cons (s_if (PW.pt (w_or (c_not (c_tru (e_q (e_isi (T := "tuple") (by decide) ZZ.boot_tuple rfl fx.z_tuple rfl fx.z_isinstance (e_q (e_vr (pv 0))))) (fun _ => rfl))) (w_or (c_cmp (o_ne (hu64 hr)) b_ne (e_len rfl fx.z_len (e_q (e_vr (pv 0)))) (e_q (e_int)) rfl) (w_1o (c_not (c_tru (e_q (d_call c_is_between hr hgd (g_v (e_ix (hu66 hr) (e_vr (pv 0)) (e_int)) (g_v (e_int) (g_v (e_gl (v := .int 24) rfl h_MOST_HOURS ⟨_, rfl⟩ (fun _ => .int _)) (g_nil)))))) (fun _ => rfl))))))) (s_one (s_ret (e_bl))) (s_nil)) (s_cons (s_tup (pg_seq rfl (pgs_cons (pg_name (i := 1) nd rfl (.inr rfl)) (pgs_cons (pg_name (i := 2) nd rfl (.inl rfl)) (pgs_nil)))) (by intro i hi; exact hio i (by revert i; decide)) (e_vr (pv 0))) (s_cons (s_if (PW.pt (w_or (c_not (c_tru (e_q (e_isi (T := "tuple") (by decide) ZZ.boot_tuple rfl fx.z_tuple rfl fx.z_isinstance (e_q (e_vr (pv 2))))) (fun _ => rfl))) (w_1o (c_cmp op_gt b_gt (e_len rfl fx.z_len (e_q (e_vr (pv 2)))) (e_q (e_gl (v := .int 12) rfl h_MOST_ROWS ⟨_, rfl⟩ (fun _ => .int _))) rfl)))) (s_one (s_ret (e_bl))) (s_nil)) (s_one (s_ret (e_all rfl rfl fx.z_all (e_q (e_om (e_lc rfl nd (i_any (e_vr (pv 2))) (own := [("row", 3)]) (is := [3]) rfl rfl (by decide) (by rw [hz]; decide) (fun _ _ => tw_n (hio 3 (by decide))) (fun _ _ _ _ _ => pg_name (i := 3) nd rfl (by first | exact .inl rfl | exact .inr rfl)) (fun _ _ _ _ _ => k_nil) (fun _ _ _ _ _ _ _ => d_call c_is_row hr hgd (g_v (e_vr (pv 1)) (g_v (e_vr (pv 3)) (g_nil))))))))))))
theorem cal_check_sign (fx : Fx K mg) (c_is_sign : CalF P w K mg base 6 "is_sign" st_is_sign ["value"] [false] false F_is_sign) (Fn : Fun K "check_sign" "check_sign" st_check_sign f (PySem.W.fnOf "check_sign" "check_sign" (defArgs st_check_sign) (defBody st_check_sign) (defScope st_check_sign) .none kV doc pm an cdv ct)) (hm : mg "check_sign" = some (.ref f)) :
    CalF P w K mg base 7 "check_sign" st_check_sign ["sign"] [false] false F_check_sign := by
  refine cal0 (N := ["sign"]) Fn hm ⟨rfl, rfl, rfl, by decide +kernel, rfl, by decide +kernel, by decide +kernel⟩ rfl rfl (fun _ _ _ _ _ _ us hl => match us, hl with | [_], _ => rfl) fun cdv A outer s H E Z hz hr hgd => ?_
  have hio : ∀ i, i ∉ posT [false] 0 → i ∉ Z.ios := by rw [hz]; exact fun _ h => h
  have nd : (["sign"] : List Str).Nodup := by decide
  exact s_one (s_if (c_not (c_tru (e_q (d_call c_is_sign hr hgd (g_v (e_vr (pv 0)) (g_nil)))) (fun _ => rfl))) (s_one (s_no)) (s_nil))
theorem cal_is_kind (fx : Fx K mg) (c_is_name : CalF P w K mg base 1 "is_name" st_is_name ["value"] [false] false F_is_name) (Fn : Fun K "is_kind" "is_kind" st_is_kind f (PySem.W.fnOf "is_kind" "is_kind" (defArgs st_is_kind) (defBody st_is_kind) (defScope st_is_kind) .none kV doc pm an cdv ct)) (hm : mg "is_kind" = some (.ref f)) :
    CalF P w K mg base 2 "is_kind" st_is_kind ["value"] [false] false F_is_kind := by
  refine cal0 (N := ["value"]) Fn hm ⟨rfl, rfl, rfl, by decide +kernel, rfl, by decide +kernel, by decide +kernel⟩ rfl rfl (fun _ _ _ _ _ _ us hl => match us, hl with | [_], _ => rfl) fun cdv A outer s H E Z hz hr hgd => ?_
  have hio : ∀ i, i ∉ posT [false] 0 → i ∉ Z.ios := by rw [hz]; exact fun _ h => h
  have nd : (["value"] : List Str).Nodup := by decide
  exact s_one (s_ret (v_or (e_isN (e_vr (pv 0))) (v_1 (d_call c_is_name hr hgd (g_v (e_vr (pv 0)) (g_nil))))))
theorem cal_check_kind (fx : Fx K mg) (c_is_kind : CalF P w K mg base 2 "is_kind" st_is_kind ["value"] [false] false F_is_kind) (Fn : Fun K "check_kind" "check_kind" st_check_kind f (PySem.W.fnOf "check_kind" "check_kind" (defArgs st_check_kind) (defBody st_check_kind) (defScope st_check_kind) .none kV doc pm an cdv ct)) (hm : mg "check_kind" = some (.ref f)) :
    CalF P w K mg base 3 "check_kind" st_check_kind ["kind"] [false] false F_check_kind := by
  refine cal0 (N := ["kind"]) Fn hm ⟨rfl, rfl, rfl, by decide +kernel, rfl, by decide +kernel, by decide +kernel⟩ rfl rfl (fun _ _ _ _ _ _ us hl => match us, hl with | [_], _ => rfl) fun cdv A outer s H E Z hz hr hgd => ?_
  have hio : ∀ i, i ∉ posT [false] 0 → i ∉ Z.ios := by rw [hz]; exact fun _ h => h
  have nd : (["kind"] : List Str).Nodup := by decide
  exact s_one (s_if (c_not (c_tru (e_q (d_call c_is_kind hr hgd (g_v (e_vr (pv 0)) (g_nil)))) (fun _ => rfl))) (s_one (s_no)) (s_nil))
theorem cal_are_feasts (fx : Fx K mg) (c_is_between : CalF P w K mg base 2 "is_between" st_is_between ["value", "low", "high"] [false, false, false] false F_is_between) (c_is_ascending : CalF P w K mg base 1 "is_ascending" st_is_ascending ["items"] [false] false F_is_ascending) (Fn : Fun K "are_feasts" "are_feasts" st_are_feasts f (PySem.W.fnOf "are_feasts" "are_feasts" (defArgs st_are_feasts) (defBody st_are_feasts) (defScope st_are_feasts) .none kV doc pm an cdv ct)) (hm : mg "are_feasts" = some (.ref f)) :
    CalF P w K mg base 3 "are_feasts" st_are_feasts ["value"] [false] false F_are_feasts := by
  obtain ⟨t_MOST_FEASTS, h_MOST_FEASTS⟩ := fx.c_MOST_FEASTS
  obtain ⟨t_LAST_DAY, h_LAST_DAY⟩ := fx.c_LAST_DAY
  refine cal0 (N := ["value", "day"]) Fn hm ⟨rfl, rfl, rfl, by decide +kernel, rfl, by decide +kernel, by decide +kernel⟩ rfl rfl (fun _ _ _ _ _ _ us hl => match us, hl with | [_], _ => rfl) fun cdv A outer s H E Z hz hr hgd => ?_
  have hio : ∀ i, i ∉ posT [false] 0 → i ∉ Z.ios := by rw [hz]; exact fun _ h => h
  have nd : (["value", "day"] : List Str).Nodup := by decide
  exact s_cons (s_if (PW.pt (w_or (c_not (c_tru (e_q (e_isi (T := "tuple") (by decide) ZZ.boot_tuple rfl fx.z_tuple rfl fx.z_isinstance (e_q (e_vr (pv 0))))) (fun _ => rfl))) (w_1o (c_cmp op_gt b_gt (e_len rfl fx.z_len (e_q (e_vr (pv 0)))) (e_q (e_gl (v := .int 400) rfl h_MOST_FEASTS ⟨_, rfl⟩ (fun _ => .int _))) rfl)))) (s_one (s_ret (e_bl))) (s_nil)) (s_one (s_ret (v_and (e_all rfl rfl fx.z_all (e_q (e_om (e_lc rfl nd (i_any (e_vr (pv 0))) (own := [("day", 1)]) (is := [1]) rfl rfl (by decide) (by rw [hz]; decide) (fun _ _ => tw_n (hio 1 (by decide))) (fun _ _ _ _ _ => pg_name (i := 1) nd rfl (by first | exact .inl rfl | exact .inr rfl)) (fun _ _ _ _ _ => k_nil) (fun _ _ _ _ _ _ _ => d_call c_is_between hr hgd (g_v (e_vr (pv 1)) (g_v (e_int) (g_v (e_gl (v := .int 10000) rfl h_LAST_DAY ⟨_, rfl⟩ (fun _ => .int _)) (g_nil))))))))) (v_1 (d_call c_is_ascending hr hgd (g_v (e_vr (pv 0)) (g_nil)))))))
theorem cal_check_feasts (fx : Fx K mg) (c_are_feasts : CalF P w K mg base 3 "are_feasts" st_are_feasts ["value"] [false] false F_are_feasts) (Fn : Fun K "check_feasts" "check_feasts" st_check_feasts f (PySem.W.fnOf "check_feasts" "check_feasts" (defArgs st_check_feasts) (defBody st_check_feasts) (defScope st_check_feasts) .none kV doc pm an cdv ct)) (hm : mg "check_feasts" = some (.ref f)) :
    CalF P w K mg base 4 "check_feasts" st_check_feasts ["feasts"] [false] false F_check_feasts := by
  refine cal0 (N := ["feasts"]) Fn hm ⟨rfl, rfl, rfl, by decide +kernel, rfl, by decide +kernel, by decide +kernel⟩ rfl rfl (fun _ _ _ _ _ _ us hl => match us, hl with | [_], _ => rfl) fun cdv A outer s H E Z hz hr hgd => ?_
  have hio : ∀ i, i ∉ posT [false] 0 → i ∉ Z.ios := by rw [hz]; exact fun _ h => h
  have nd : (["feasts"] : List Str).Nodup := by decide
  exact s_one (s_if (c_not (c_tru (e_q (d_call c_are_feasts hr hgd (g_v (e_vr (pv 0)) (g_nil)))) (fun _ => rfl))) (s_one (s_no)) (s_nil))
theorem cal_is_tick (fx : Fx K mg) (c_is_between : CalF P w K mg base 2 "is_between" st_is_between ["value", "low", "high"] [false, false, false] false F_is_between) (Fn : Fun K "is_tick" "is_tick" st_is_tick f (PySem.W.fnOf "is_tick" "is_tick" (defArgs st_is_tick) (defBody st_is_tick) (defScope st_is_tick) .none kV doc pm an cdv ct)) (hm : mg "is_tick" = some (.ref f)) :
    CalF P w K mg base 3 "is_tick" st_is_tick ["value"] [false] false F_is_tick := by
  obtain ⟨t_LAST_TICK, h_LAST_TICK⟩ := fx.c_LAST_TICK
  refine cal0 (N := ["value"]) Fn hm ⟨rfl, rfl, rfl, by decide +kernel, rfl, by decide +kernel, by decide +kernel⟩ rfl rfl (fun _ _ _ _ _ _ us hl => match us, hl with | [_], _ => rfl) fun cdv A outer s H E Z hz hr hgd => ?_
  have hio : ∀ i, i ∉ posT [false] 0 → i ∉ Z.ios := by rw [hz]; exact fun _ h => h
  have nd : (["value"] : List Str).Nodup := by decide
  exact s_one (s_ret (d_call c_is_between hr hgd (g_v (e_vr (pv 0)) (g_v (e_int) (g_v (e_gl (v := .int 9999) rfl h_LAST_TICK ⟨_, rfl⟩ (fun _ => .int _)) (g_nil))))))
theorem cal_check_tick (fx : Fx K mg) (c_is_tick : CalF P w K mg base 3 "is_tick" st_is_tick ["value"] [false] false F_is_tick) (Fn : Fun K "check_tick" "check_tick" st_check_tick f (PySem.W.fnOf "check_tick" "check_tick" (defArgs st_check_tick) (defBody st_check_tick) (defScope st_check_tick) .none kV doc pm an cdv ct)) (hm : mg "check_tick" = some (.ref f)) :
    CalF P w K mg base 4 "check_tick" st_check_tick ["tick"] [false] false F_check_tick := by
  refine cal0 (N := ["tick"]) Fn hm ⟨rfl, rfl, rfl, by decide +kernel, rfl, by decide +kernel, by decide +kernel⟩ rfl rfl (fun _ _ _ _ _ _ us hl => match us, hl with | [_], _ => rfl) fun cdv A outer s H E Z hz hr hgd => ?_
  have hio : ∀ i, i ∉ posT [false] 0 → i ∉ Z.ios := by rw [hz]; exact fun _ h => h
  have nd : (["tick"] : List Str).Nodup := by decide
  exact s_one (s_if (c_not (c_tru (e_q (d_call c_is_tick hr hgd (g_v (e_vr (pv 0)) (g_nil)))) (fun _ => rfl))) (s_one (s_no)) (s_nil))
theorem cal_does_fit (fx : Fx K mg) (Fn : Fun K "does_fit" "does_fit" st_does_fit f (PySem.W.fnOf "does_fit" "does_fit" (defArgs st_does_fit) (defBody st_does_fit) (defScope st_does_fit) .none kV doc pm an cdv ct)) (hm : mg "does_fit" = some (.ref f)) :
    CalF P w K mg base 1 "does_fit" st_does_fit ["days", "day", "feasts"] [false, false, false] false F_does_fit := by
  obtain ⟨t_PLAIN, h_PLAIN⟩ := fx.c_PLAIN
  obtain ⟨t_FEAST, h_FEAST⟩ := fx.c_FEAST
  obtain ⟨t_ANY, h_ANY⟩ := fx.c_ANY
  refine cal0 (N := ["days", "day", "feasts"]) Fn hm ⟨rfl, rfl, rfl, by decide +kernel, rfl, by decide +kernel, by decide +kernel⟩ rfl rfl (fun _ _ _ _ _ _ us hl => match us, hl with | [_, _, _], _ => rfl) fun cdv A outer s H E Z hz hr hgd => ?_
  have hio : ∀ i, i ∉ posT [false, false, false] 0 → i ∉ Z.ios := by rw [hz]; exact fun _ h => h
  have nd : (["days", "day", "feasts"] : List Str).Nodup := by decide
  exact s_cons (s_if (c_cmp (o_eq (hu64 hr)) b_eq (e_vr (pv 0)) (e_q (e_gl (v := .str "plain") rfl h_PLAIN ⟨_, rfl⟩ (fun _ => .str _))) rfl) (s_one (s_ret (e_cmp (o_ninA (hu66 hr)) b_nin (e_vr (pv 1)) (e_q (e_vr (pv 2))) rfl))) (s_nil)) (s_cons (s_if (c_cmp (o_eq (hu64 hr)) b_eq (e_vr (pv 0)) (e_q (e_gl (v := .str "feast") rfl h_FEAST ⟨_, rfl⟩ (fun _ => .str _))) rfl) (s_one (s_ret (e_cmp (o_inA (hu66 hr)) b_in (e_vr (pv 1)) (e_q (e_vr (pv 2))) rfl))) (s_nil)) (s_one (s_ret (v_or (e_cmp (o_eq (hu64 hr)) b_eq (e_vr (pv 0)) (e_q (e_gl (v := .str "any") rfl h_ANY ⟨_, rfl⟩ (fun _ => .str _))) rfl) (v_1 (e_cmp (o_inA (hu66 hr)) b_in (e_lk (e_add (e_vr (pv 1)) (e_q (e_int)))) (e_q (e_vr (pv 2))) rfl))))))
theorem cal_does_bear (fx : Fx K mg) (c_does_fit : CalF P w K mg base 1 "does_fit" st_does_fit ["days", "day", "feasts"] [false, false, false] false F_does_fit) (Fn : Fun K "does_bear" "does_bear" st_does_bear f (PySem.W.fnOf "does_bear" "does_bear" (defArgs st_does_bear) (defBody st_does_bear) (defScope st_does_bear) .none kV doc pm an cdv ct)) (hm : mg "does_bear" = some (.ref f)) :
    CalF P w K mg base 2 "does_bear" st_does_bear ["hours", "row", "kind", "tick", "feasts"] [false, false, false, false, false] false F_does_bear := by
  obtain ⟨t_DAYS, h_DAYS⟩ := fx.c_DAYS
  refine cal0 (N := ["hours", "row", "kind", "tick", "feasts", "begin", "end", "days", "kinds", "told", "week", "ago"]) Fn hm ⟨rfl, rfl, rfl, by decide +kernel, rfl, by decide +kernel, by decide +kernel⟩ rfl rfl (fun _ _ _ _ _ _ us hl => match us, hl with | [_, _, _, _, _], _ => rfl) fun cdv A outer s H E Z hz hr hgd => ?_
  have hio : ∀ i, i ∉ posT [false, false, false, false, false] 0 → i ∉ Z.ios := by rw [hz]; exact fun _ h => h
  have nd : (["hours", "row", "kind", "tick", "feasts", "begin", "end", "days", "kinds", "told", "week", "ago"] : List Str).Nodup := by decide
  exact s_cons (s_tup (pg_seq rfl (pgs_cons (pg_name (i := 5) nd rfl (.inl rfl)) (pgs_cons (pg_name (i := 6) nd rfl (.inl rfl)) (pgs_cons (pg_name (i := 7) nd rfl (.inl rfl)) (pgs_cons (pg_name (i := 8) nd rfl (.inl rfl)) (pgs_cons (pg_name (i := 9) nd rfl (.inl rfl)) (pgs_nil))))))) (by intro i hi; exact hio i (by revert i; decide)) (e_vr (pv 1))) (s_cons (s_if (PW.pt (w_and (c_cmp (o_ne (hu64 hr)) b_ne (e_vr (pv 8)) (e_q (e_tup (a_nil))) rfl) (w_1a (c_cmp (o_ninA (hu66 hr)) b_nin (e_vr (pv 2)) (e_q (e_vr (pv 8))) rfl)))) (s_one (s_ret (e_bl))) (s_nil)) (s_cons (s_set (i := 10) nd rfl (.inl rfl) (hio 10 (by decide)) (e_mul (e_gl (v := .int 7) rfl h_DAYS ⟨_, rfl⟩ (fun _ => .int _)) (e_vr (pv 0)))) (s_cons (s_set (i := 11) nd rfl (.inl rfl) (hio 11 (by decide)) (e_ite (c_cmp (o_ne (hu64 hr)) b_ne (e_vr (pv 5)) (e_q (e_vr (pv 6))) rfl) (e_mod (e_sub (e_vr (pv 3)) (e_vr (pv 5))) (e_vr (pv 10))) (e_int))) (s_cons (s_if (PW.pt (w_and (c_cmp (o_ne (hu64 hr)) b_ne (e_vr (pv 5)) (e_q (e_vr (pv 6))) rfl) (w_1a (c_cmp op_ge b_ge (e_vr (pv 11)) (e_q (e_mod (e_sub (e_vr (pv 6)) (e_vr (pv 5))) (e_vr (pv 10)))) rfl)))) (s_one (s_ret (e_bl))) (s_nil)) (s_one (s_ret (d_call c_does_fit hr hgd (g_v (e_vr (pv 7)) (g_v (e_div (e_sub (e_vr (pv 3)) (e_vr (pv 11))) (e_vr (pv 0))) (g_v (e_vr (pv 4)) (g_nil)))))))))))
theorem cal_told_at (fx : Fx K mg) (c_does_bear : CalF P w K mg base 2 "does_bear" st_does_bear ["hours", "row", "kind", "tick", "feasts"] [false, false, false, false, false] false F_does_bear) (Fn : Fun K "told_at" "told_at" st_told_at f (PySem.W.fnOf "told_at" "told_at" (defArgs st_told_at) (defBody st_told_at) (defScope st_told_at) .none kV doc pm an cdv ct)) (hm : mg "told_at" = some (.ref f)) :
    CalF P w K mg base 3 "told_at" st_told_at ["sign", "kind", "tick", "feasts"] [false, false, false, false] false F_told_at := by
  obtain ⟨t_FREE, h_FREE⟩ := fx.c_FREE
  refine cal0 (N := ["sign", "kind", "tick", "feasts", "hours", "rows", "number"]) Fn hm ⟨rfl, rfl, rfl, by decide +kernel, rfl, by decide +kernel, by decide +kernel⟩ rfl rfl (fun _ _ _ _ _ _ us hl => match us, hl with | [_, _, _, _], _ => rfl) fun cdv A outer s H E Z hz hr hgd => ?_
  have hio : ∀ i, i ∉ posT [false, false, false, false] 0 → i ∉ Z.ios := by rw [hz]; exact fun _ h => h
  have nd : (["sign", "kind", "tick", "feasts", "hours", "rows", "number"] : List Str).Nodup := by decide
  exact s_cons (s_tup (pg_seq rfl (pgs_cons (pg_name (i := 4) nd rfl (.inl rfl)) (pgs_cons (pg_name (i := 5) nd rfl (.inl rfl)) (pgs_nil)))) (by intro i hi; exact hio i (by revert i; decide)) (e_vr (pv 0))) (s_cons (s_for pNever rfl (i_rg3 rfl fx.z_range (a_cons (e_sub (e_len rfl fx.z_len (e_q (e_vr (pv 5)))) (e_int)) (a_cons (e_neg (e_int)) (a_cons (e_neg (e_int)) (a_nil))))) (pg_name (i := 6) nd rfl (.inl rfl)) (tg_n (hio 6 (by decide))) (s_one (s_if (c_tru (e_q (d_call c_does_bear hr hgd (g_v (e_vr (pv 4)) (g_v (e_ix (hu66 hr) (e_vr (pv 5)) (e_vr (pv 6))) (g_v (e_vr (pv 1)) (g_v (e_vr (pv 2)) (g_v (e_vr (pv 3)) (g_nil)))))))) (fun _ => rfl)) (s_one (s_ret (e_tup (a_cons (e_ix (hu66 hr) (e_ix (hu66 hr) (e_vr (pv 5)) (e_vr (pv 6))) (e_int)) (a_cons (e_vr (pv 6)) (a_nil)))))) (s_nil)))) (s_one (s_ret (e_tup (a_cons (e_gl (v := .str "free") rfl h_FREE ⟨_, rfl⟩ (fun _ => .str _)) (a_cons (e_non) (a_nil)))))))
theorem cal_changes (fx : Fx K mg) (c_check_sign : CalF P w K mg base 7 "check_sign" st_check_sign ["sign"] [false] false F_check_sign) (c_check_kind : CalF P w K mg base 3 "check_kind" st_check_kind ["kind"] [false] false F_check_kind) (c_check_feasts : CalF P w K mg base 4 "check_feasts" st_check_feasts ["feasts"] [false] false F_check_feasts) (c_check_tick : CalF P w K mg base 4 "check_tick" st_check_tick ["tick"] [false] false F_check_tick) (c_told_at : CalF P w K mg base 3 "told_at" st_told_at ["sign", "kind", "tick", "feasts"] [false, false, false, false] false F_told_at) (Fn : Fun K "changes" "changes" st_changes f (PySem.W.fnOf "changes" "changes" (defArgs st_changes) (defBody st_changes) (defScope st_changes) .none kV doc pm an cdv ct)) (hm : mg "changes" = some (.ref f)) :
    CalF P w K mg base 8 "changes" st_changes ["sign", "kind", "feasts", "low", "high"] [false, false, false, false, false] false F_changes := by
  refine cal0 (N := ["sign", "kind", "feasts", "low", "high", "told", "tick", "at"]) Fn hm ⟨rfl, rfl, rfl, by decide +kernel, rfl, by decide +kernel, by decide +kernel⟩ rfl rfl (fun _ _ _ _ _ _ us hl => match us, hl with | [_, _, _, _, _], _ => rfl) fun cdv A outer s H E Z hz hr hgd => ?_
  have hio : ∀ i, i ∉ posT [false, false, false, false, false] 0 → i ∉ Z.ios := by rw [hz]; exact fun _ h => h
  have nd : (["sign", "kind", "feasts", "low", "high", "told", "tick", "at"] : List Str).Nodup := by decide
  exact s_cons (s_expr (d_call c_check_sign hr hgd (g_v (e_vr (pv 0)) (g_nil)))) (s_cons (s_expr (d_call c_check_kind hr hgd (g_v (e_vr (pv 1)) (g_nil)))) (s_cons (s_expr (d_call c_check_feasts hr hgd (g_v (e_vr (pv 2)) (g_nil)))) (s_cons (s_expr (d_call c_check_tick hr hgd (g_v (e_vr (pv 3)) (g_nil)))) (s_cons (s_expr (d_call c_check_tick hr hgd (g_v (e_vr (pv 4)) (g_nil)))) (s_cons (s_set (i := 5) nd rfl (.inr rfl) (hio 5 (by decide)) (e_om (e_lc rfl nd (i_rg2 rfl fx.z_range (a_cons (e_vr (pv 3)) (a_cons (e_lk (e_add (e_vr (pv 4)) (e_q (e_int)))) (a_nil)))) (own := [("tick", 6)]) (is := [6]) rfl rfl (by decide) (by rw [hz]; decide) (fun _ _ => tw_n (hio 6 (by decide))) (fun _ _ _ _ _ => pg_name (i := 6) nd rfl (by first | exact .inl rfl | exact .inr rfl)) (fun _ _ _ _ _ => k_nil) (fun _ _ _ _ _ _ _ => e_ix (hu66 hr) (d_call c_told_at hr hgd (g_v (e_vr (pv 0)) (g_v (e_vr (pv 1)) (g_v (e_vr (pv 6)) (g_v (e_vr (pv 2)) (g_nil)))))) (e_int))))) (s_one (s_ret (e_tuple rfl fx.z_tuple (e_q (e_om (e_lc rfl nd (i_rg2 rfl fx.z_range (a_cons (e_int) (a_cons (e_len rfl fx.z_len (e_q (e_vr (pv 5)))) (a_nil)))) (own := [("at", 7)]) (is := [7]) rfl rfl (by decide) (by rw [hz]; decide) (fun _ _ => tw_n (hio 7 (by decide))) (fun _ _ _ _ _ => pg_name (i := 7) nd rfl (by first | exact .inl rfl | exact .inr rfl)) (fun _ _ _ _ _ => k_one fun _ _ => c_cmp (o_ne (hu64 hr)) b_ne (e_ix (hu66 hr) (e_vr (pv 5)) (e_vr (pv 7))) (e_q (e_ix (hu66 hr) (e_vr (pv 5)) (e_sub (e_vr (pv 7)) (e_int)))) rfl) (fun _ _ _ _ _ _ _ => e_lk (e_add (e_vr (pv 3)) (e_q (e_vr (pv 7))))))))))))))))
theorem cal_answer (fx : Fx K mg) (c_check_sign : CalF P w K mg base 7 "check_sign" st_check_sign ["sign"] [false] false F_check_sign) (c_check_kind : CalF P w K mg base 3 "check_kind" st_check_kind ["kind"] [false] false F_check_kind) (c_check_tick : CalF P w K mg base 4 "check_tick" st_check_tick ["tick"] [false] false F_check_tick) (c_check_feasts : CalF P w K mg base 4 "check_feasts" st_check_feasts ["feasts"] [false] false F_check_feasts) (c_told_at : CalF P w K mg base 3 "told_at" st_told_at ["sign", "kind", "tick", "feasts"] [false, false, false, false] false F_told_at) (Fn : Fun K "answer" "answer" st_answer f (PySem.W.fnOf "answer" "answer" (defArgs st_answer) (defBody st_answer) (defScope st_answer) .none kV doc pm an cdv ct)) (hm : mg "answer" = some (.ref f)) :
    CalF P w K mg base 8 "answer" st_answer ["sign", "kind", "tick", "feasts"] [false, false, false, false] false F_answer := by
  refine cal0 (N := ["sign", "kind", "tick", "feasts"]) Fn hm ⟨rfl, rfl, rfl, by decide +kernel, rfl, by decide +kernel, by decide +kernel⟩ rfl rfl (fun _ _ _ _ _ _ us hl => match us, hl with | [_, _, _, _], _ => rfl) fun cdv A outer s H E Z hz hr hgd => ?_
  have hio : ∀ i, i ∉ posT [false, false, false, false] 0 → i ∉ Z.ios := by rw [hz]; exact fun _ h => h
  have nd : (["sign", "kind", "tick", "feasts"] : List Str).Nodup := by decide
  exact s_cons (s_expr (d_call c_check_sign hr hgd (g_v (e_vr (pv 0)) (g_nil)))) (s_cons (s_expr (d_call c_check_kind hr hgd (g_v (e_vr (pv 1)) (g_nil)))) (s_cons (s_expr (d_call c_check_tick hr hgd (g_v (e_vr (pv 2)) (g_nil)))) (s_cons (s_expr (d_call c_check_feasts hr hgd (g_v (e_vr (pv 3)) (g_nil)))) (s_one (s_ret (e_ix (hu66 hr) (d_call c_told_at hr hgd (g_v (e_vr (pv 0)) (g_v (e_vr (pv 1)) (g_v (e_vr (pv 2)) (g_v (e_vr (pv 3)) (g_nil)))))) (e_int)))))))
theorem cal__law_are_answers_right (fx : Fx K mg) (c__law_of : CalF P w K mg base 2 "_law_of" st__law_of ["pot", "some"] [true, false] false F__law_of) (c__law_take : CalF P w K mg base 1 "_law_take" st__law_take ["pot", "upto"] [true, false] false F__law_take) (c__law_told : CalF P w K mg base 1 "_law_told" st__law_told ["sign", "kind", "tick", "feasts"] [false, false, false, false] false F__law_told) (c_answer : CalF P w K mg base 8 "answer" st_answer ["sign", "kind", "tick", "feasts"] [false, false, false, false] false F_answer) (c_changes : CalF P w K mg base 8 "changes" st_changes ["sign", "kind", "feasts", "low", "high"] [false, false, false, false, false] false F_changes) (Fn : Fun K "_law_are_answers_right" "_law_are_answers_right" st__law_are_answers_right f (PySem.W.fnOf "_law_are_answers_right" "_law_are_answers_right" (defArgs st__law_are_answers_right) (defBody st__law_are_answers_right) (defScope st__law_are_answers_right) .none kV doc pm an cdv ct)) (hm : mg "_law_are_answers_right" = some (.ref f)) :
    CalF P w K mg base 9 "_law_are_answers_right" st__law_are_answers_right ["pot", "sign", "feasts"] [true, false, false] false F__law_are_answers_right := by
  refine cal0 (N := ["pot", "sign", "feasts", "hours", "kind", "far", "tick", "due", "low", "high"]) Fn hm ⟨rfl, rfl, rfl, by decide +kernel, rfl, by decide +kernel, by decide +kernel⟩ rfl rfl (fun _ _ _ _ _ _ us hl => match us, hl with | [_, _, _], _ => rfl) fun cdv A outer s H E Z hz hr hgd => ?_
  have hio : ∀ i, i ∉ posT [true, false, false] 0 → i ∉ Z.ios := by rw [hz]; exact fun _ h => h
  have nd : (["pot", "sign", "feasts", "hours", "kind", "far", "tick", "due", "low", "high"] : List Str).Nodup := by decide
  exact s_cons (s_par (xs := ["hours", "kind"]) rfl nd rfl (by intro i hi; exact hio i (by revert i; decide)) (e_tup (a_cons (e_ix (hu66 hr) (e_vr (pv 1)) (e_int)) (a_cons (d_call c__law_of hr hgd (g_io (pv 0) (g_v (e_om (e_lst (a_cons (e_non) (a_cons (e_str) (a_cons (e_str) (a_cons (e_str) (a_nil))))))) (g_nil)))) (a_nil))))) (s_cons (s_set (i := 5) nd rfl (.inl rfl) (hio 5 (by decide)) (e_om (e_lst (a_cons (e_int) (a_cons (e_int1 rfl fx.z_int (e_lk (e_add (e_int) (e_q (d_call c__law_take hr hgd (g_io (pv 0) (g_v (e_int) (g_nil)))))))) (a_cons (e_int1 rfl fx.z_int (e_lk (e_add (e_int) (e_q (d_call c__law_take hr hgd (g_io (pv 0) (g_v (e_int) (g_nil)))))))) (a_nil))))))) (s_cons (s_for pNever rfl (i_any (e_lk (e_add (e_om (e_lrg1 rfl rfl fx.z_list rfl fx.z_range (e_mul (e_int) (e_vr (pv 3))))) (e_q (e_vr (pv 5)))))) (pg_name (i := 6) nd rfl (.inl rfl)) (tg_n (hio 6 (by decide))) (s_cons (s_set (i := 7) nd rfl (.inl rfl) (hio 7 (by decide)) (e_ix (hu66 hr) (d_call c__law_told hr hgd (g_v (e_vr (pv 1)) (g_v (e_vr (pv 4)) (g_v (e_vr (pv 6)) (g_v (e_vr (pv 2)) (g_nil)))))) (e_int))) (s_one (s_if (c_cmp (o_ne (hu64 hr)) b_ne (e_repr hgd (hu66 hr) rfl fx.z_repr (e_q (d_callK c_answer hr hgd (ks := ["sign", "kind", "tick", "feasts"]) (fun _ _ _ _ _ _ us hl => match us, hl with | [_, _, _, _], _ => rfl) (kk_cons (e_vr (pv 1)) (kk_cons (e_vr (pv 4)) (kk_cons (e_int1 rfl fx.z_int (e_vr (pv 6))) (kk_cons (e_vr (pv 2)) (kk_nil)))))))) (e_q (e_repr hgd (hu66 hr) rfl fx.z_repr (e_vq (pv 7)))) rfl) (s_one (s_ret (e_bl))) (s_nil))))) (s_cons (s_par (xs := ["low", "high"]) rfl nd rfl (by intro i hi; exact hio i (by revert i; decide)) (e_tup (a_cons (e_int1 rfl fx.z_int (d_call c__law_take hr hgd (g_io (pv 0) (g_v (e_int) (g_nil))))) (a_cons (e_int1 rfl fx.z_int (d_call c__law_take hr hgd (g_io (pv 0) (g_v (e_int) (g_nil))))) (a_nil))))) (s_cons (s_setO (i := 7) nd rfl (.inl rfl) (hio 7 (by decide)) (e_lst (a_nil))) (s_cons (s_for pNever rfl (i_rg2 rfl fx.z_range (a_cons (e_lk (e_add (e_vr (pv 8)) (e_q (e_int)))) (a_cons (e_lk (e_add (e_vr (pv 9)) (e_q (e_int)))) (a_nil)))) (pg_name (i := 6) nd rfl (.inl rfl)) (tg_n (hio 6 (by decide))) (s_one (s_if (c_cmp (o_ne (hu64 hr)) b_ne (e_ix (hu66 hr) (d_call c__law_told hr hgd (g_v (e_vr (pv 1)) (g_v (e_vr (pv 4)) (g_v (e_vr (pv 6)) (g_v (e_vr (pv 2)) (g_nil)))))) (e_int)) (e_q (e_ix (hu66 hr) (d_call c__law_told hr hgd (g_v (e_vr (pv 1)) (g_v (e_vr (pv 4)) (g_v (e_sub (e_vr (pv 6)) (e_int)) (g_v (e_vr (pv 2)) (g_nil)))))) (e_int))) rfl) (s_one (s_app (i := 7) (pv 7) (e_int1 rfl fx.z_int (e_vr (pv 6))))) (s_nil)))) (s_one (s_ret (e_cmp (o_eq (hu64 hr)) b_eq (e_repr hgd (hu66 hr) rfl fx.z_repr (e_q (d_call c_changes hr hgd (g_v (e_vr (pv 1)) (g_v (e_vr (pv 4)) (g_v (e_vr (pv 2)) (g_v (e_vr (pv 8)) (g_v (e_vr (pv 9)) (g_nil))))))))) (e_q (e_repr hgd (hu66 hr) rfl fx.z_repr (e_q (e_tuple rfl fx.z_tuple (e_vq (pv 7)))))) rfl))))))))
theorem cal__law_are_bent_told (fx : Fx K mg) (c_is_sign : CalF P w K mg base 6 "is_sign" st_is_sign ["value"] [false] false F_is_sign) (Fn : Fun K "_law_are_bent_told" "_law_are_bent_told" st__law_are_bent_told f (PySem.W.fnOf "_law_are_bent_told" "_law_are_bent_told" (defArgs st__law_are_bent_told) (defBody st__law_are_bent_told) (defScope st__law_are_bent_told) .none kV doc pm an cdv ct)) (hm : mg "_law_are_bent_told" = some (.ref f)) :
    CalF P w K mg base 7 "_law_are_bent_told" st__law_are_bent_told ["pot", "sign"] [true, false] false F__law_are_bent_told := by
  refine cal0 (N := ["pot", "sign", "hours", "rows", "week", "row", "some", "odd", "days", "lots", "kinds", "bad", "word", "one", "many"]) Fn hm ⟨rfl, rfl, rfl, by decide +kernel, rfl, by decide +kernel, by decide +kernel⟩ rfl rfl (fun _ _ _ _ _ _ us hl => match us, hl with | [_, _], _ => rfl) fun cdv A outer s H E Z hz hr hgd => ?_
  have hio : ∀ i, i ∉ posT [true, false] 0 → i ∉ Z.ios := by rw [hz]; exact fun _ h => h
  have nd : (["pot", "sign", "hours", "rows", "week", "row", "some", "odd", "days", "lots", "kinds", "bad", "word", "one", "many"] : List Str).Nodup := by decide
  exact s_cons (s_tup (pg_seq rfl (pgs_cons (pg_name (i := 2) nd rfl (.inr rfl)) (pgs_cons (pg_name (i := 3) nd rfl (.inr rfl)) (pgs_nil)))) (by intro i hi; exact hio i (by revert i; decide)) (e_vr (pv 1))) (s_cons (s_tup (pg_seq rfl (pgs_cons (pg_name (i := 4) nd rfl (.inl rfl)) (pgs_cons (pg_name (i := 5) nd rfl (.inr rfl)) (pgs_nil)))) (by intro i hi; exact hio i (by revert i; decide)) (e_tup (a_cons (e_mul (e_int) (e_vr (pv 2))) (a_cons (e_tup (a_cons (e_int) (a_cons (e_int) (a_cons (e_str) (a_cons (e_tup (a_nil)) (a_cons (e_str) (a_nil))))))) (a_nil))))) (s_cons (s_setO (i := 6) nd rfl (.inl rfl) (hio 6 (by decide)) (e_lst (a_cons (e_om (e_list rfl fx.z_list (e_q (e_vr (pv 1))))) (a_cons (e_tup (a_cons (e_vr (pv 2)) (a_nil))) (a_cons (e_tup (a_cons (e_vr (pv 2)) (a_cons (e_vr (pv 3)) (a_cons (e_tup (a_nil)) (a_nil))))) (a_cons (e_tup (a_cons (e_vr (pv 2)) (a_cons (e_om (e_list rfl fx.z_list (e_q (e_vr (pv 3))))) (a_nil)))) (a_cons (e_tup (a_cons (e_int) (a_cons (e_tup (a_nil)) (a_nil)))) (a_cons (e_tup (a_cons (e_int) (a_cons (e_tup (a_nil)) (a_nil)))) (a_cons (e_tup (a_cons (e_bl) (a_cons (e_tup (a_nil)) (a_nil)))) (a_nil)))))))))) (s_cons (s_app (i := 6) (pv 6) (e_tup (a_cons (e_str1 rfl fx.z_str (e_vr (pv 2))) (a_cons (e_tup (a_nil)) (a_nil))))) (s_cons (s_setO (i := 7) nd rfl (.inl rfl) (hio 7 (by decide)) (e_lst (a_cons (e_lk (e_sl (e_vr (pv 5)) po_0 (po_1 (e_int)))) (a_cons (e_om (e_list rfl fx.z_list (e_q (e_vr (pv 5))))) (a_cons (e_lk (e_add (e_vr (pv 5)) (e_q (e_tup (a_cons (e_str) (a_nil)))))) (a_cons (e_lk (e_add (e_tup (a_cons (e_vr (pv 4)) (a_cons (e_int) (a_nil)))) (e_q (e_lk (e_sl (e_vr (pv 5)) (po_1 (e_int)) po_0))))) (a_cons (e_lk (e_add (e_tup (a_cons (e_int) (a_cons (e_vr (pv 4)) (a_nil)))) (e_q (e_lk (e_sl (e_vr (pv 5)) (po_1 (e_int)) po_0))))) (a_cons (e_lk (e_add (e_tup (a_cons (e_neg (e_int)) (a_cons (e_int) (a_nil)))) (e_q (e_lk (e_sl (e_vr (pv 5)) (po_1 (e_int)) po_0))))) (a_nil))))))))) (s_cons (s_ext (i := 7) (pv 7) (e_ox (e_lst (a_cons (e_lk (e_add (e_tup (a_cons (e_int) (a_cons (e_lk (e_add (e_vr (pv 2)) (e_q (e_int)))) (a_nil)))) (e_q (e_lk (e_sl (e_vr (pv 5)) (po_1 (e_int)) po_0))))) (a_cons (e_lk (e_add (e_tup (a_cons (e_bl) (a_cons (e_int) (a_nil)))) (e_q (e_lk (e_sl (e_vr (pv 5)) (po_1 (e_int)) po_0))))) (a_cons (e_lk (e_add (e_tup (a_cons (e_int) (a_cons (e_non) (a_nil)))) (e_q (e_lk (e_sl (e_vr (pv 5)) (po_1 (e_int)) po_0))))) (a_cons (e_non) (a_cons (e_str) (a_cons (e_int) (a_nil)))))))))) (s_cons (s_ext (i := 7) (pv 7) (e_ox (e_lc rfl nd (i_any (e_tup (a_cons (e_str) (a_cons (e_str) (a_cons (e_non) (a_cons (e_tup (a_cons (e_str) (a_nil))) (a_cons (e_str) (a_nil)))))))) (own := [("days", 8)]) (is := [8]) rfl rfl (by decide) (by rw [hz]; decide) (fun _ _ => tw_n (hio 8 (by decide))) (fun _ _ _ _ _ => pg_name (i := 8) nd rfl (by first | exact .inl rfl | exact .inr rfl)) (fun _ _ _ _ _ => k_nil) (fun _ _ _ _ _ _ _ => e_lk (e_add (e_lk (e_add (e_lk (e_sl (e_vr (pv 5)) po_0 (po_1 (e_int)))) (e_q (e_tup (a_cons (e_vr (pv 8)) (a_nil)))))) (e_q (e_lk (e_sl (e_vr (pv 5)) (po_1 (e_int)) po_0)))))))) (s_cons (s_setO (i := 9) nd rfl (.inl rfl) (hio 9 (by decide)) (e_lst (a_cons (e_tup (a_cons (e_str) (a_cons (e_str) (a_nil)))) (a_cons (e_tup (a_cons (e_str) (a_cons (e_str) (a_nil)))) (a_cons (e_om (e_lst (a_cons (e_str) (a_nil)))) (a_cons (e_tup (a_cons (e_str) (a_nil))) (a_cons (e_str) (a_cons (e_non) (a_nil))))))))) (s_cons (s_app (i := 9) (pv 9) (e_tuple rfl fx.z_tuple (e_q (e_om (e_lc rfl nd (i_any (e_str)) (own := [("sign", 1)]) (is := [1]) rfl rfl (by decide) (by rw [hz]; decide) (fun _ _ => tw_n (hio 1 (by decide))) (fun _ _ _ _ _ => pg_name (i := 1) nd rfl (by first | exact .inl rfl | exact .inr rfl)) (fun _ _ _ _ _ => k_nil) (fun _ _ _ _ _ _ _ => e_lk (e_add (e_str) (e_q (e_vr (pv 1)))))))))) (s_cons (s_ext (i := 7) (pv 7) (e_ox (e_lc rfl nd (i_any (e_vl (pv 9))) (own := [("kinds", 10)]) (is := [10]) rfl rfl (by decide) (by rw [hz]; decide) (fun _ _ => tw_n (hio 10 (by decide))) (fun _ _ _ _ _ => pg_name (i := 10) nd rfl (by first | exact .inl rfl | exact .inr rfl)) (fun _ _ _ _ _ => k_nil) (fun _ _ _ _ _ _ _ => e_lk (e_add (e_lk (e_add (e_lk (e_sl (e_vr (pv 5)) po_0 (po_1 (e_int)))) (e_q (e_tup (a_cons (e_vr (pv 10)) (a_nil)))))) (e_q (e_lk (e_sl (e_vr (pv 5)) (po_1 (e_int)) po_0)))))))) (s_cons (s_setO (i := 11) nd rfl (.inl rfl) (hio 11 (by decide)) (e_lst (a_cons (e_str) (a_cons (e_str) (a_cons (e_str) (a_cons (e_str) (a_cons (e_non) (a_cons (e_tup (a_cons (e_int) (a_cons (e_int) (a_nil)))) (a_cons (e_tup (a_cons (e_int) (a_cons (e_int) (a_nil)))) (a_cons (e_tup (a_cons (e_int) (a_cons (e_int) (a_nil)))) (a_cons (e_tup (a_cons (e_int) (a_cons (e_int) (a_nil)))) (a_cons (e_tup (a_cons (e_int) (a_nil))) (a_cons (e_tup (a_cons (e_int) (a_cons (e_int) (a_cons (e_int) (a_nil))))) (a_cons (e_om (e_lst (a_cons (e_int) (a_cons (e_int) (a_nil))))) (a_nil))))))))))))))) (s_cons (s_app (i := 11) (pv 11) (e_tup (a_cons (e_bl) (a_cons (e_int) (a_nil))))) (s_cons (s_ext (i := 7) (pv 7) (e_ox (e_lc rfl nd (i_any (e_vl (pv 11))) (own := [("word", 12)]) (is := [12]) rfl rfl (by decide) (by rw [hz]; decide) (fun _ _ => tw_n (hio 12 (by decide))) (fun _ _ _ _ _ => pg_name (i := 12) nd rfl (by first | exact .inl rfl | exact .inr rfl)) (fun _ _ _ _ _ => k_nil) (fun _ _ _ _ _ _ _ => e_lk (e_add (e_lk (e_sl (e_vr (pv 5)) po_0 (po_1 (e_int)))) (e_q (e_tup (a_cons (e_vr (pv 12)) (a_nil))))))))) (s_cons (s_ext (i := 6) (pv 6) (e_ox (e_lc rfl nd (i_any (e_vl (pv 7))) (own := [("one", 13)]) (is := [13]) rfl rfl (by decide) (by rw [hz]; decide) (fun _ _ => tw_n (hio 13 (by decide))) (fun _ _ _ _ _ => pg_name (i := 13) nd rfl (by first | exact .inl rfl | exact .inr rfl)) (fun _ _ _ _ _ => k_nil) (fun _ _ _ _ _ _ _ => e_tup (a_cons (e_int1 rfl fx.z_int (e_vr (pv 2))) (a_cons (e_lk (e_add (e_lk (e_sl (e_vr (pv 3)) po_0 (po_1 (e_int)))) (e_q (e_tup (a_cons (e_vr (pv 13)) (a_nil)))))) (a_nil))))))) (s_cons (s_ext (i := 6) (pv 6) (e_ox (e_lst (a_cons (e_tup (a_cons (e_int1 rfl fx.z_int (e_vr (pv 2))) (a_cons (e_mul (e_tup (a_cons (e_vr (pv 5)) (a_nil))) (e_int)) (a_nil)))) (a_cons (e_non) (a_cons (e_tup (a_nil)) (a_cons (e_str) (a_cons (e_int) (a_cons (e_om (e_dsp0)) (a_nil)))))))))) (s_cons (s_set (i := 14) nd rfl (.inl rfl) (hio 14 (by decide)) (e_tup (a_cons (e_int1 rfl fx.z_int (e_vr (pv 2))) (a_cons (e_tup (a_cons (e_tup (a_cons (e_int) (a_cons (e_int) (a_cons (e_str) (a_cons (e_tuple rfl fx.z_tuple (e_q (e_om (e_lc rfl nd (i_any (e_str)) (own := [("sign", 1)]) (is := [1]) rfl rfl (by decide) (by rw [hz]; decide) (fun _ _ => tw_n (hio 1 (by decide))) (fun _ _ _ _ _ => pg_name (i := 1) nd rfl (by first | exact .inl rfl | exact .inr rfl)) (fun _ _ _ _ _ => k_nil) (fun _ _ _ _ _ _ _ => e_lk (e_add (e_str) (e_q (e_vr (pv 1))))))))) (a_cons (e_str) (a_nil))))))) (a_nil))) (a_nil))))) (s_cons (s_if (c_cmp op_notBl b_isnB (d_call c_is_sign hr hgd (g_v (e_vr (pv 14)) (g_nil))) (e_q (e_bl)) rfl) (s_one (s_ret (e_bl))) (s_nil)) (s_one (s_ret (v_and (v_not (e_q (e_any rfl rfl fx.z_any (e_q (e_om (e_lc rfl nd (i_any (e_vl (pv 6))) (own := [("one", 13)]) (is := [13]) rfl rfl (by decide) (by rw [hz]; decide) (fun _ _ => tw_n (hio 13 (by decide))) (fun _ _ _ _ _ => pg_name (i := 13) nd rfl (by first | exact .inl rfl | exact .inr rfl)) (fun _ _ _ _ _ => k_nil) (fun _ _ _ _ _ _ _ => e_cmp op_notBl b_isnB (d_call c_is_sign hr hgd (g_v (e_vr (pv 13)) (g_nil))) (e_q (e_bl)) rfl))))))) (v_1 (e_cmp op_isBl b_isB (d_callK c_is_sign hr hgd (ks := ["value"]) (fun _ _ _ _ _ _ us hl => match us, hl with | [_], _ => rfl) (kk_cons (e_vr (pv 1)) (kk_nil))) (e_q (e_bl)) rfl)))))))))))))))))))))
theorem cal__law_right (fx : Fx K mg) (c__law_of : CalF P w K mg base 2 "_law_of" st__law_of ["pot", "some"] [true, false] false F__law_of) (c__law_sign : CalF P w K mg base 5 "_law_sign" st__law_sign ["pot", "hours", "most"] [true, false, false] false F__law_sign) (c__law_feasts : CalF P w K mg base 2 "_law_feasts" st__law_feasts ["pot", "days"] [true, false] false F__law_feasts) (c__law_are_answers_right : CalF P w K mg base 9 "_law_are_answers_right" st__law_are_answers_right ["pot", "sign", "feasts"] [true, false, false] false F__law_are_answers_right) (c__law_are_bent_told : CalF P w K mg base 7 "_law_are_bent_told" st__law_are_bent_told ["pot", "sign"] [true, false] false F__law_are_bent_told) (Fn : Fun K "_law_right" "_law_right" st__law_right f (PySem.W.fnOf "_law_right" "_law_right" (defArgs st__law_right) (defBody st__law_right) (defScope st__law_right) .none kV doc pm an cdv ct)) (hm : mg "_law_right" = some (.ref f)) :
    CalF P w K mg base 10 "_law_right" st__law_right ["pot"] [true] false F__law_right := by
  refine cal0 (N := ["pot", "hours", "sign", "feasts"]) Fn hm ⟨rfl, rfl, rfl, by decide +kernel, rfl, by decide +kernel, by decide +kernel⟩ rfl rfl (fun _ _ _ _ _ _ us hl => match us, hl with | [_], _ => rfl) fun cdv A outer s H E Z hz hr hgd => ?_
  have hio : ∀ i, i ∉ posT [true] 0 → i ∉ Z.ios := by rw [hz]; exact fun _ h => h
  have nd : (["pot", "hours", "sign", "feasts"] : List Str).Nodup := by decide
  exact s_cons (s_set (i := 1) nd rfl (.inl rfl) (hio 1 (by decide)) (d_call c__law_of hr hgd (g_io (pv 0) (g_v (e_om (e_lst (a_cons (e_int) (a_cons (e_int) (a_cons (e_int) (a_cons (e_int) (a_cons (e_int) (a_nil)))))))) (g_nil))))) (s_cons (s_set (i := 2) nd rfl (.inl rfl) (hio 2 (by decide)) (d_call c__law_sign hr hgd (g_io (pv 0) (g_v (e_vr (pv 1)) (g_v (e_int) (g_nil)))))) (s_cons (s_set (i := 3) nd rfl (.inl rfl) (hio 3 (by decide)) (e_lk (e_add (d_call c__law_feasts hr hgd (g_io (pv 0) (g_v (e_int) (g_nil)))) (e_q (d_call c__law_of hr hgd (g_io (pv 0) (g_v (e_om (e_lst (a_cons (e_tup (a_nil)) (a_cons (e_tup (a_cons (e_int) (a_nil))) (a_cons (e_tup (a_cons (e_int) (a_cons (e_int) (a_nil)))) (a_nil)))))) (g_nil)))))))) (s_one (s_ret (v_and (d_call c__law_are_answers_right hr hgd (g_io (pv 0) (g_v (e_vr (pv 2)) (g_v (e_vr (pv 3)) (g_nil))))) (v_1 (d_call c__law_are_bent_told hr hgd (g_io (pv 0) (g_v (e_vr (pv 2)) (g_nil))))))))))
theorem cal_law (fx : Fx K mg) (c__law_cells : CalF P w K mg base 1 "_law_cells" st__law_cells ["script", "most"] [false, false] false F__law_cells) (c__law_pot : CalF P w K mg base 1 "_law_pot" st__law_pot ["script", "place"] [false, false] true F__law_pot) (c__law_right : CalF P w K mg base 10 "_law_right" st__law_right ["pot"] [true] false F__law_right) (Fn : Fun K "law" "law" st_law f (PySem.W.fnOf "law" "law" (defArgs st_law) (defBody st_law) (defScope st_law) .none kV doc pm an cdv ct)) (hm : mg "law" = some (.ref f)) :
    CalF P w K mg base 11 "law" st_law ["script"] [false] false F_law := by
  refine cal0 (N := ["script", "place", "pot", "lap"]) Fn hm ⟨rfl, rfl, rfl, by decide +kernel, rfl, by decide +kernel, by decide +kernel⟩ rfl rfl (fun _ _ _ _ _ _ us hl => match us, hl with | [_], _ => rfl) fun cdv A outer s H E Z hz hr hgd => ?_
  have hio : ∀ i, i ∉ posT [false] 0 → i ∉ Z.ios := by rw [hz]; exact fun _ h => h
  have nd : (["script", "place", "pot", "lap"] : List Str).Nodup := by decide
  exact s_cons (s_for pNever rfl (i_any (d_call c__law_cells hr hgd (g_v (e_vr (pv 0)) (g_v (e_int) (g_nil))))) (pg_name (i := 1) nd rfl (.inl rfl)) (tg_n (hio 1 (by decide))) (s_cons (s_setO (i := 2) nd rfl (.inr rfl) (hio 2 (by decide)) (d_callO c__law_pot hr hgd (g_v (e_vr (pv 0)) (g_v (e_vr (pv 1)) (g_nil))))) (s_one (s_if (c_not (c_tru (e_q (e_all rfl rfl fx.z_all (e_q (e_om (e_lc rfl nd (i_rg1 rfl fx.z_range (a_cons (e_int) (a_nil))) (own := [("lap", 3)]) (is := [3]) rfl rfl (by decide) (by rw [hz]; decide) (fun _ _ => tw_n (hio 3 (by decide))) (fun _ _ _ _ _ => pg_name (i := 3) nd rfl (by first | exact .inl rfl | exact .inr rfl)) (fun _ _ _ _ _ => k_nil) (fun _ _ _ _ _ _ _ => d_call c__law_right hr hgd (g_io (pv 2) (g_nil)))))))) (fun _ => rfl))) (s_one (s_ret (e_bl))) (s_nil))))) (s_one (s_ret (e_bl)))
end
theorem all_mk {l : PySem.W.OpenLaw} {w : World} {K : PySem.W.Frag} {h : Heap} {mg : Str → Option Value} {fa f1 f2 f3 f4 f5 f6 f7 f8 f9 f10 f11 f12 f13 f14 f15 f16 f17 f18 f19 f20 f21 f22 f23 f24 f25 f26 f27 f28 f29 f30 f31 f32 f33 f34 : Addr} (X : K.In h) (G : h.Ns mainGlobals mg) (hfa : mg "law" = some (.ref fa))
    {od1 an1 od2 an2 od3 an3 od4 an4 od5 an5 od6 an6 od7 an7 od8 an8 od9 an9 od10 an10 od11 an11 od12 an12 od13 an13 od14 an14 od15 an15 od16 an16 od17 an17 od18 an18 od19 an19 od20 an20 od21 an21 od22 an22 od23 an23 od24 an24 od25 an25 od26 an26 od27 an27 od28 an28 od29 an29 od30 an30 od31 an31 od32 an32 od33 an33 od34 an34 : Option Addr} {sl1 sl2 sl3 sl4 sl5 sl6 sl7 sl8 sl9 sl10 sl11 sl12 sl13 sl14 sl15 sl16 sl17 sl18 sl19 sl20 sl21 sl22 sl23 sl24 sl25 sl26 sl27 sl28 sl29 sl30 sl31 sl32 sl33 sl34 : Array (Option Value)} {oc1 kV1 dc1 pm1 cd1 ct1 oc2 kV2 dc2 pm2 cd2 ct2 oc3 kV3 dc3 pm3 cd3 ct3 oc4 kV4 dc4 pm4 cd4 ct4 oc5 kV5 dc5 pm5 cd5 ct5 oc6 kV6 dc6 pm6 cd6 ct6 oc7 kV7 dc7 pm7 cd7 ct7 oc8 kV8 dc8 pm8 cd8 ct8 oc9 kV9 dc9 pm9 cd9 ct9 oc10 kV10 dc10 pm10 cd10 ct10 oc11 kV11 dc11 pm11 cd11 ct11 oc12 kV12 dc12 pm12 cd12 ct12 oc13 kV13 dc13 pm13 cd13 ct13 oc14 kV14 dc14 pm14 cd14 ct14 oc15 kV15 dc15 pm15 cd15 ct15 oc16 kV16 dc16 pm16 cd16 ct16 oc17 kV17 dc17 pm17 cd17 ct17 oc18 kV18 dc18 pm18 cd18 ct18 oc19 kV19 dc19 pm19 cd19 ct19 oc20 kV20 dc20 pm20 cd20 ct20 oc21 kV21 dc21 pm21 cd21 ct21 oc22 kV22 dc22 pm22 cd22 ct22 oc23 kV23 dc23 pm23 cd23 ct23 oc24 kV24 dc24 pm24 cd24 ct24 oc25 kV25 dc25 pm25 cd25 ct25 oc26 kV26 dc26 pm26 cd26 ct26 oc27 kV27 dc27 pm27 cd27 ct27 oc28 kV28 dc28 pm28 cd28 ct28 oc29 kV29 dc29 pm29 cd29 ct29 oc30 kV30 dc30 pm30 cd30 ct30 oc31 kV31 dc31 pm31 cd31 ct31 oc32 kV32 dc32 pm32 cd32 ct32 oc33 kV33 dc33 pm33 cd33 ct33 oc34 kV34 dc34 pm34 cd34 ct34 : Value}
    {t_MOST_SIGNS t_LETTERS t_FIGURES t_MOST_KINDS t_MOST_LIMIT t_MOST_GONE t_DAYS t_ANY t_PLAIN t_FEAST t_EVE t_MOST_HOURS t_MOST_ROWS t_MOST_FEASTS t_LAST_DAY t_LAST_TICK t_FREE : Tok}
    (a1 : PySem.W.nsIn K mainGlobals "_law_cells" = some (some (.ref f1))) (l1 : K.lookup f1 = some ⟨oc1, od1, .func (PySem.W.fnOf "_law_cells" "_law_cells" (defArgs st__law_cells) (defBody st__law_cells) (defScope st__law_cells) .none kV1 dc1 pm1 an1 cd1 ct1), sl1⟩) (c1 : PySem.W.codeIn K cd1 "_law_cells" = true) (k1 : PySem.W.keepIn K (.ref f1) = true)
    (a2 : PySem.W.nsIn K mainGlobals "_law_pot" = some (some (.ref f2))) (l2 : K.lookup f2 = some ⟨oc2, od2, .func (PySem.W.fnOf "_law_pot" "_law_pot" (defArgs st__law_pot) (defBody st__law_pot) (defScope st__law_pot) .none kV2 dc2 pm2 an2 cd2 ct2), sl2⟩) (c2 : PySem.W.codeIn K cd2 "_law_pot" = true) (k2 : PySem.W.keepIn K (.ref f2) = true)
    (a3 : PySem.W.nsIn K mainGlobals "_law_take" = some (some (.ref f3))) (l3 : K.lookup f3 = some ⟨oc3, od3, .func (PySem.W.fnOf "_law_take" "_law_take" (defArgs st__law_take) (defBody st__law_take) (defScope st__law_take) .none kV3 dc3 pm3 an3 cd3 ct3), sl3⟩) (c3 : PySem.W.codeIn K cd3 "_law_take" = true) (k3 : PySem.W.keepIn K (.ref f3) = true)
    (a4 : PySem.W.nsIn K mainGlobals "_law_of" = some (some (.ref f4))) (l4 : K.lookup f4 = some ⟨oc4, od4, .func (PySem.W.fnOf "_law_of" "_law_of" (defArgs st__law_of) (defBody st__law_of) (defScope st__law_of) .none kV4 dc4 pm4 an4 cd4 ct4), sl4⟩) (c4 : PySem.W.codeIn K cd4 "_law_of" = true) (k4 : PySem.W.keepIn K (.ref f4) = true)
    (a5 : PySem.W.nsIn K mainGlobals "_law_answer" = some (some (.ref f5))) (l5 : K.lookup f5 = some ⟨oc5, od5, .func (PySem.W.fnOf "_law_answer" "_law_answer" (defArgs st__law_answer) (defBody st__law_answer) (defScope st__law_answer) .none kV5 dc5 pm5 an5 cd5 ct5), sl5⟩) (c5 : PySem.W.codeIn K cd5 "_law_answer" = true) (k5 : PySem.W.keepIn K (.ref f5) = true)
    (a6 : PySem.W.nsIn K mainGlobals "_law_row" = some (some (.ref f6))) (l6 : K.lookup f6 = some ⟨oc6, od6, .func (PySem.W.fnOf "_law_row" "_law_row" (defArgs st__law_row) (defBody st__law_row) (defScope st__law_row) .none kV6 dc6 pm6 an6 cd6 ct6), sl6⟩) (c6 : PySem.W.codeIn K cd6 "_law_row" = true) (k6 : PySem.W.keepIn K (.ref f6) = true)
    (a7 : PySem.W.nsIn K mainGlobals "_law_sign" = some (some (.ref f7))) (l7 : K.lookup f7 = some ⟨oc7, od7, .func (PySem.W.fnOf "_law_sign" "_law_sign" (defArgs st__law_sign) (defBody st__law_sign) (defScope st__law_sign) .none kV7 dc7 pm7 an7 cd7 ct7), sl7⟩) (c7 : PySem.W.codeIn K cd7 "_law_sign" = true) (k7 : PySem.W.keepIn K (.ref f7) = true)
    (a8 : PySem.W.nsIn K mainGlobals "_law_feasts" = some (some (.ref f8))) (l8 : K.lookup f8 = some ⟨oc8, od8, .func (PySem.W.fnOf "_law_feasts" "_law_feasts" (defArgs st__law_feasts) (defBody st__law_feasts) (defScope st__law_feasts) .none kV8 dc8 pm8 an8 cd8 ct8), sl8⟩) (c8 : PySem.W.codeIn K cd8 "_law_feasts" = true) (k8 : PySem.W.keepIn K (.ref f8) = true)
    (a9 : PySem.W.nsIn K mainGlobals "_law_told" = some (some (.ref f9))) (l9 : K.lookup f9 = some ⟨oc9, od9, .func (PySem.W.fnOf "_law_told" "_law_told" (defArgs st__law_told) (defBody st__law_told) (defScope st__law_told) .none kV9 dc9 pm9 an9 cd9 ct9), sl9⟩) (c9 : PySem.W.codeIn K cd9 "_law_told" = true) (k9 : PySem.W.keepIn K (.ref f9) = true)
    (a10 : PySem.W.nsIn K mainGlobals "is_integer" = some (some (.ref f10))) (l10 : K.lookup f10 = some ⟨oc10, od10, .func (PySem.W.fnOf "is_integer" "is_integer" (defArgs st_is_integer) (defBody st_is_integer) (defScope st_is_integer) .none kV10 dc10 pm10 an10 cd10 ct10), sl10⟩) (c10 : PySem.W.codeIn K cd10 "is_integer" = true) (k10 : PySem.W.keepIn K (.ref f10) = true)
    (a11 : PySem.W.nsIn K mainGlobals "is_between" = some (some (.ref f11))) (l11 : K.lookup f11 = some ⟨oc11, od11, .func (PySem.W.fnOf "is_between" "is_between" (defArgs st_is_between) (defBody st_is_between) (defScope st_is_between) .none kV11 dc11 pm11 an11 cd11 ct11), sl11⟩) (c11 : PySem.W.codeIn K cd11 "is_between" = true) (k11 : PySem.W.keepIn K (.ref f11) = true)
    (a12 : PySem.W.nsIn K mainGlobals "is_ascending" = some (some (.ref f12))) (l12 : K.lookup f12 = some ⟨oc12, od12, .func (PySem.W.fnOf "is_ascending" "is_ascending" (defArgs st_is_ascending) (defBody st_is_ascending) (defScope st_is_ascending) .none kV12 dc12 pm12 an12 cd12 ct12), sl12⟩) (c12 : PySem.W.codeIn K cd12 "is_ascending" = true) (k12 : PySem.W.keepIn K (.ref f12) = true)
    (a13 : PySem.W.nsIn K mainGlobals "is_name" = some (some (.ref f13))) (l13 : K.lookup f13 = some ⟨oc13, od13, .func (PySem.W.fnOf "is_name" "is_name" (defArgs st_is_name) (defBody st_is_name) (defScope st_is_name) .none kV13 dc13 pm13 an13 cd13 ct13), sl13⟩) (c13 : PySem.W.codeIn K cd13 "is_name" = true) (k13 : PySem.W.keepIn K (.ref f13) = true)
    (a14 : PySem.W.nsIn K mainGlobals "are_kinds" = some (some (.ref f14))) (l14 : K.lookup f14 = some ⟨oc14, od14, .func (PySem.W.fnOf "are_kinds" "are_kinds" (defArgs st_are_kinds) (defBody st_are_kinds) (defScope st_are_kinds) .none kV14 dc14 pm14 an14 cd14 ct14), sl14⟩) (c14 : PySem.W.codeIn K cd14 "are_kinds" = true) (k14 : PySem.W.keepIn K (.ref f14) = true)
    (a15 : PySem.W.nsIn K mainGlobals "is_bound" = some (some (.ref f15))) (l15 : K.lookup f15 = some ⟨oc15, od15, .func (PySem.W.fnOf "is_bound" "is_bound" (defArgs st_is_bound) (defBody st_is_bound) (defScope st_is_bound) .none kV15 dc15 pm15 an15 cd15 ct15), sl15⟩) (c15 : PySem.W.codeIn K cd15 "is_bound" = true) (k15 : PySem.W.keepIn K (.ref f15) = true)
    (a16 : PySem.W.nsIn K mainGlobals "is_answer" = some (some (.ref f16))) (l16 : K.lookup f16 = some ⟨oc16, od16, .func (PySem.W.fnOf "is_answer" "is_answer" (defArgs st_is_answer) (defBody st_is_answer) (defScope st_is_answer) .none kV16 dc16 pm16 an16 cd16 ct16), sl16⟩) (c16 : PySem.W.codeIn K cd16 "is_answer" = true) (k16 : PySem.W.keepIn K (.ref f16) = true)
    (a17 : PySem.W.nsIn K mainGlobals "is_row" = some (some (.ref f17))) (l17 : K.lookup f17 = some ⟨oc17, od17, .func (PySem.W.fnOf "is_row" "is_row" (defArgs st_is_row) (defBody st_is_row) (defScope st_is_row) .none kV17 dc17 pm17 an17 cd17 ct17), sl17⟩) (c17 : PySem.W.codeIn K cd17 "is_row" = true) (k17 : PySem.W.keepIn K (.ref f17) = true)
    (a18 : PySem.W.nsIn K mainGlobals "is_sign" = some (some (.ref f18))) (l18 : K.lookup f18 = some ⟨oc18, od18, .func (PySem.W.fnOf "is_sign" "is_sign" (defArgs st_is_sign) (defBody st_is_sign) (defScope st_is_sign) .none kV18 dc18 pm18 an18 cd18 ct18), sl18⟩) (c18 : PySem.W.codeIn K cd18 "is_sign" = true) (k18 : PySem.W.keepIn K (.ref f18) = true)
    (a19 : PySem.W.nsIn K mainGlobals "check_sign" = some (some (.ref f19))) (l19 : K.lookup f19 = some ⟨oc19, od19, .func (PySem.W.fnOf "check_sign" "check_sign" (defArgs st_check_sign) (defBody st_check_sign) (defScope st_check_sign) .none kV19 dc19 pm19 an19 cd19 ct19), sl19⟩) (c19 : PySem.W.codeIn K cd19 "check_sign" = true) (k19 : PySem.W.keepIn K (.ref f19) = true)
    (a20 : PySem.W.nsIn K mainGlobals "is_kind" = some (some (.ref f20))) (l20 : K.lookup f20 = some ⟨oc20, od20, .func (PySem.W.fnOf "is_kind" "is_kind" (defArgs st_is_kind) (defBody st_is_kind) (defScope st_is_kind) .none kV20 dc20 pm20 an20 cd20 ct20), sl20⟩) (c20 : PySem.W.codeIn K cd20 "is_kind" = true) (k20 : PySem.W.keepIn K (.ref f20) = true)
    (a21 : PySem.W.nsIn K mainGlobals "check_kind" = some (some (.ref f21))) (l21 : K.lookup f21 = some ⟨oc21, od21, .func (PySem.W.fnOf "check_kind" "check_kind" (defArgs st_check_kind) (defBody st_check_kind) (defScope st_check_kind) .none kV21 dc21 pm21 an21 cd21 ct21), sl21⟩) (c21 : PySem.W.codeIn K cd21 "check_kind" = true) (k21 : PySem.W.keepIn K (.ref f21) = true)
    (a22 : PySem.W.nsIn K mainGlobals "are_feasts" = some (some (.ref f22))) (l22 : K.lookup f22 = some ⟨oc22, od22, .func (PySem.W.fnOf "are_feasts" "are_feasts" (defArgs st_are_feasts) (defBody st_are_feasts) (defScope st_are_feasts) .none kV22 dc22 pm22 an22 cd22 ct22), sl22⟩) (c22 : PySem.W.codeIn K cd22 "are_feasts" = true) (k22 : PySem.W.keepIn K (.ref f22) = true)
    (a23 : PySem.W.nsIn K mainGlobals "check_feasts" = some (some (.ref f23))) (l23 : K.lookup f23 = some ⟨oc23, od23, .func (PySem.W.fnOf "check_feasts" "check_feasts" (defArgs st_check_feasts) (defBody st_check_feasts) (defScope st_check_feasts) .none kV23 dc23 pm23 an23 cd23 ct23), sl23⟩) (c23 : PySem.W.codeIn K cd23 "check_feasts" = true) (k23 : PySem.W.keepIn K (.ref f23) = true)
    (a24 : PySem.W.nsIn K mainGlobals "is_tick" = some (some (.ref f24))) (l24 : K.lookup f24 = some ⟨oc24, od24, .func (PySem.W.fnOf "is_tick" "is_tick" (defArgs st_is_tick) (defBody st_is_tick) (defScope st_is_tick) .none kV24 dc24 pm24 an24 cd24 ct24), sl24⟩) (c24 : PySem.W.codeIn K cd24 "is_tick" = true) (k24 : PySem.W.keepIn K (.ref f24) = true)
    (a25 : PySem.W.nsIn K mainGlobals "check_tick" = some (some (.ref f25))) (l25 : K.lookup f25 = some ⟨oc25, od25, .func (PySem.W.fnOf "check_tick" "check_tick" (defArgs st_check_tick) (defBody st_check_tick) (defScope st_check_tick) .none kV25 dc25 pm25 an25 cd25 ct25), sl25⟩) (c25 : PySem.W.codeIn K cd25 "check_tick" = true) (k25 : PySem.W.keepIn K (.ref f25) = true)
    (a26 : PySem.W.nsIn K mainGlobals "does_fit" = some (some (.ref f26))) (l26 : K.lookup f26 = some ⟨oc26, od26, .func (PySem.W.fnOf "does_fit" "does_fit" (defArgs st_does_fit) (defBody st_does_fit) (defScope st_does_fit) .none kV26 dc26 pm26 an26 cd26 ct26), sl26⟩) (c26 : PySem.W.codeIn K cd26 "does_fit" = true) (k26 : PySem.W.keepIn K (.ref f26) = true)
    (a27 : PySem.W.nsIn K mainGlobals "does_bear" = some (some (.ref f27))) (l27 : K.lookup f27 = some ⟨oc27, od27, .func (PySem.W.fnOf "does_bear" "does_bear" (defArgs st_does_bear) (defBody st_does_bear) (defScope st_does_bear) .none kV27 dc27 pm27 an27 cd27 ct27), sl27⟩) (c27 : PySem.W.codeIn K cd27 "does_bear" = true) (k27 : PySem.W.keepIn K (.ref f27) = true)
    (a28 : PySem.W.nsIn K mainGlobals "told_at" = some (some (.ref f28))) (l28 : K.lookup f28 = some ⟨oc28, od28, .func (PySem.W.fnOf "told_at" "told_at" (defArgs st_told_at) (defBody st_told_at) (defScope st_told_at) .none kV28 dc28 pm28 an28 cd28 ct28), sl28⟩) (c28 : PySem.W.codeIn K cd28 "told_at" = true) (k28 : PySem.W.keepIn K (.ref f28) = true)
    (a29 : PySem.W.nsIn K mainGlobals "changes" = some (some (.ref f29))) (l29 : K.lookup f29 = some ⟨oc29, od29, .func (PySem.W.fnOf "changes" "changes" (defArgs st_changes) (defBody st_changes) (defScope st_changes) .none kV29 dc29 pm29 an29 cd29 ct29), sl29⟩) (c29 : PySem.W.codeIn K cd29 "changes" = true) (k29 : PySem.W.keepIn K (.ref f29) = true)
    (a30 : PySem.W.nsIn K mainGlobals "answer" = some (some (.ref f30))) (l30 : K.lookup f30 = some ⟨oc30, od30, .func (PySem.W.fnOf "answer" "answer" (defArgs st_answer) (defBody st_answer) (defScope st_answer) .none kV30 dc30 pm30 an30 cd30 ct30), sl30⟩) (c30 : PySem.W.codeIn K cd30 "answer" = true) (k30 : PySem.W.keepIn K (.ref f30) = true)
    (a31 : PySem.W.nsIn K mainGlobals "_law_are_answers_right" = some (some (.ref f31))) (l31 : K.lookup f31 = some ⟨oc31, od31, .func (PySem.W.fnOf "_law_are_answers_right" "_law_are_answers_right" (defArgs st__law_are_answers_right) (defBody st__law_are_answers_right) (defScope st__law_are_answers_right) .none kV31 dc31 pm31 an31 cd31 ct31), sl31⟩) (c31 : PySem.W.codeIn K cd31 "_law_are_answers_right" = true) (k31 : PySem.W.keepIn K (.ref f31) = true)
    (a32 : PySem.W.nsIn K mainGlobals "_law_are_bent_told" = some (some (.ref f32))) (l32 : K.lookup f32 = some ⟨oc32, od32, .func (PySem.W.fnOf "_law_are_bent_told" "_law_are_bent_told" (defArgs st__law_are_bent_told) (defBody st__law_are_bent_told) (defScope st__law_are_bent_told) .none kV32 dc32 pm32 an32 cd32 ct32), sl32⟩) (c32 : PySem.W.codeIn K cd32 "_law_are_bent_told" = true) (k32 : PySem.W.keepIn K (.ref f32) = true)
    (a33 : PySem.W.nsIn K mainGlobals "_law_right" = some (some (.ref f33))) (l33 : K.lookup f33 = some ⟨oc33, od33, .func (PySem.W.fnOf "_law_right" "_law_right" (defArgs st__law_right) (defBody st__law_right) (defScope st__law_right) .none kV33 dc33 pm33 an33 cd33 ct33), sl33⟩) (c33 : PySem.W.codeIn K cd33 "_law_right" = true) (k33 : PySem.W.keepIn K (.ref f33) = true)
    (a34 : PySem.W.nsIn K mainGlobals "law" = some (some (.ref f34))) (l34 : K.lookup f34 = some ⟨oc34, od34, .func (PySem.W.fnOf "law" "law" (defArgs st_law) (defBody st_law) (defScope st_law) .none kV34 dc34 pm34 an34 cd34 ct34), sl34⟩) (c34 : PySem.W.codeIn K cd34 "law" = true) (k34 : PySem.W.keepIn K (.ref f34) = true)
    (z_abs : PySem.W.nsIn K mainGlobals "abs" = some none)
    (z_all : PySem.W.nsIn K mainGlobals "all" = some none)
    (z_any : PySem.W.nsIn K mainGlobals "any" = some none)
    (z_bool : PySem.W.nsIn K mainGlobals "bool" = some none)
    (z_int : PySem.W.nsIn K mainGlobals "int" = some none)
    (z_isinstance : PySem.W.nsIn K mainGlobals "isinstance" = some none)
    (z_len : PySem.W.nsIn K mainGlobals "len" = some none)
    (z_list : PySem.W.nsIn K mainGlobals "list" = some none)
    (z_max : PySem.W.nsIn K mainGlobals "max" = some none)
    (z_min : PySem.W.nsIn K mainGlobals "min" = some none)
    (z_range : PySem.W.nsIn K mainGlobals "range" = some none)
    (z_repr : PySem.W.nsIn K mainGlobals "repr" = some none)
    (z_str : PySem.W.nsIn K mainGlobals "str" = some none)
    (z_sum : PySem.W.nsIn K mainGlobals "sum" = some none)
    (z_tuple : PySem.W.nsIn K mainGlobals "tuple" = some none)
    (z_zip : PySem.W.nsIn K mainGlobals "zip" = some none)
    (g_MOST_SIGNS : PySem.W.nsIn K mainGlobals "MOST_SIGNS" = some (some (.int 8 t_MOST_SIGNS)))
    (g_LETTERS : PySem.W.nsIn K mainGlobals "LETTERS" = some (some (.str "abcdefghijklmnopqrstuvwxyz" t_LETTERS)))
    (g_FIGURES : PySem.W.nsIn K mainGlobals "FIGURES" = some (some (.str "0123456789" t_FIGURES)))
    (g_MOST_KINDS : PySem.W.nsIn K mainGlobals "MOST_KINDS" = some (some (.int 12 t_MOST_KINDS)))
    (g_MOST_LIMIT : PySem.W.nsIn K mainGlobals "MOST_LIMIT" = some (some (.int 10000 t_MOST_LIMIT)))
    (g_MOST_GONE : PySem.W.nsIn K mainGlobals "MOST_GONE" = some (some (.int 9999 t_MOST_GONE)))
    (g_DAYS : PySem.W.nsIn K mainGlobals "DAYS" = some (some (.int 7 t_DAYS)))
    (g_ANY : PySem.W.nsIn K mainGlobals "ANY" = some (some (.str "any" t_ANY)))
    (g_PLAIN : PySem.W.nsIn K mainGlobals "PLAIN" = some (some (.str "plain" t_PLAIN)))
    (g_FEAST : PySem.W.nsIn K mainGlobals "FEAST" = some (some (.str "feast" t_FEAST)))
    (g_EVE : PySem.W.nsIn K mainGlobals "EVE" = some (some (.str "eve" t_EVE)))
    (g_MOST_HOURS : PySem.W.nsIn K mainGlobals "MOST_HOURS" = some (some (.int 24 t_MOST_HOURS)))
    (g_MOST_ROWS : PySem.W.nsIn K mainGlobals "MOST_ROWS" = some (some (.int 12 t_MOST_ROWS)))
    (g_MOST_FEASTS : PySem.W.nsIn K mainGlobals "MOST_FEASTS" = some (some (.int 400 t_MOST_FEASTS)))
    (g_LAST_DAY : PySem.W.nsIn K mainGlobals "LAST_DAY" = some (some (.int 10000 t_LAST_DAY)))
    (g_LAST_TICK : PySem.W.nsIn K mainGlobals "LAST_TICK" = some (some (.int 9999 t_LAST_TICK)))
    (g_FREE : PySem.W.nsIn K mainGlobals "FREE" = some (some (.str "free" t_FREE)))
    : mg "law" = some (.ref fa) ∧ ∀ base : Heap, K.In base → base.Ns mainGlobals mg → CalF l.prog w K mg base 11 "law" st_law ["script"] [false] false F_law := by
  have fx : Fx K mg := ⟨PySem.W.mg_none_of X G z_abs, PySem.W.mg_none_of X G z_all, PySem.W.mg_none_of X G z_any, PySem.W.mg_none_of X G z_bool, PySem.W.mg_none_of X G z_int, PySem.W.mg_none_of X G z_isinstance, PySem.W.mg_none_of X G z_len, PySem.W.mg_none_of X G z_list, PySem.W.mg_none_of X G z_max, PySem.W.mg_none_of X G z_min, PySem.W.mg_none_of X G z_range, PySem.W.mg_none_of X G z_repr, PySem.W.mg_none_of X G z_str, PySem.W.mg_none_of X G z_sum, PySem.W.mg_none_of X G z_tuple, PySem.W.mg_none_of X G z_zip, ⟨t_MOST_SIGNS, PySem.W.mg_of X G g_MOST_SIGNS⟩, ⟨t_LETTERS, PySem.W.mg_of X G g_LETTERS⟩, ⟨t_FIGURES, PySem.W.mg_of X G g_FIGURES⟩, ⟨t_MOST_KINDS, PySem.W.mg_of X G g_MOST_KINDS⟩, ⟨t_MOST_LIMIT, PySem.W.mg_of X G g_MOST_LIMIT⟩, ⟨t_MOST_GONE, PySem.W.mg_of X G g_MOST_GONE⟩, ⟨t_DAYS, PySem.W.mg_of X G g_DAYS⟩, ⟨t_ANY, PySem.W.mg_of X G g_ANY⟩, ⟨t_PLAIN, PySem.W.mg_of X G g_PLAIN⟩, ⟨t_FEAST, PySem.W.mg_of X G g_FEAST⟩, ⟨t_EVE, PySem.W.mg_of X G g_EVE⟩, ⟨t_MOST_HOURS, PySem.W.mg_of X G g_MOST_HOURS⟩, ⟨t_MOST_ROWS, PySem.W.mg_of X G g_MOST_ROWS⟩, ⟨t_MOST_FEASTS, PySem.W.mg_of X G g_MOST_FEASTS⟩, ⟨t_LAST_DAY, PySem.W.mg_of X G g_LAST_DAY⟩, ⟨t_LAST_TICK, PySem.W.mg_of X G g_LAST_TICK⟩, ⟨t_FREE, PySem.W.mg_of X G g_FREE⟩⟩
  refine ⟨hfa, fun base _ _ => ?_⟩
  have C1 := cal__law_cells (P := l.prog) (w := w) (base := base) fx (fun_mk (st := st__law_cells) l1 c1 k1) (PySem.W.mg_of X G a1)
  have C2 := cal__law_pot (P := l.prog) (w := w) (base := base) fx (fun_mk (st := st__law_pot) l2 c2 k2) (PySem.W.mg_of X G a2)
  have C3 := cal__law_take (P := l.prog) (w := w) (base := base) fx (fun_mk (st := st__law_take) l3 c3 k3) (PySem.W.mg_of X G a3)
  have C4 := cal__law_of (P := l.prog) (w := w) (base := base) fx C3 (fun_mk (st := st__law_of) l4 c4 k4) (PySem.W.mg_of X G a4)
  have C5 := cal__law_answer (P := l.prog) (w := w) (base := base) fx C3 C4 (fun_mk (st := st__law_answer) l5 c5 k5) (PySem.W.mg_of X G a5)
  have C6 := cal__law_row (P := l.prog) (w := w) (base := base) fx C3 C4 C5 (fun_mk (st := st__law_row) l6 c6 k6) (PySem.W.mg_of X G a6)
  have C7 := cal__law_sign (P := l.prog) (w := w) (base := base) fx C3 C6 (fun_mk (st := st__law_sign) l7 c7 k7) (PySem.W.mg_of X G a7)
  have C8 := cal__law_feasts (P := l.prog) (w := w) (base := base) fx C3 (fun_mk (st := st__law_feasts) l8 c8 k8) (PySem.W.mg_of X G a8)
  have C9 := cal__law_told (P := l.prog) (w := w) (base := base) fx (fun_mk (st := st__law_told) l9 c9 k9) (PySem.W.mg_of X G a9)
  have C10 := cal_is_integer (P := l.prog) (w := w) (base := base) fx (fun_mk (st := st_is_integer) l10 c10 k10) (PySem.W.mg_of X G a10)
  have C11 := cal_is_between (P := l.prog) (w := w) (base := base) fx C10 (fun_mk (st := st_is_between) l11 c11 k11) (PySem.W.mg_of X G a11)
  have C12 := cal_is_ascending (P := l.prog) (w := w) (base := base) fx (fun_mk (st := st_is_ascending) l12 c12 k12) (PySem.W.mg_of X G a12)
  have C13 := cal_is_name (P := l.prog) (w := w) (base := base) fx (fun_mk (st := st_is_name) l13 c13 k13) (PySem.W.mg_of X G a13)
  have C14 := cal_are_kinds (P := l.prog) (w := w) (base := base) fx C13 C12 (fun_mk (st := st_are_kinds) l14 c14 k14) (PySem.W.mg_of X G a14)
  have C15 := cal_is_bound (P := l.prog) (w := w) (base := base) fx C11 (fun_mk (st := st_is_bound) l15 c15 k15) (PySem.W.mg_of X G a15)
  have C16 := cal_is_answer (P := l.prog) (w := w) (base := base) fx C13 C15 (fun_mk (st := st_is_answer) l16 c16 k16) (PySem.W.mg_of X G a16)
  have C17 := cal_is_row (P := l.prog) (w := w) (base := base) fx C11 C14 C16 (fun_mk (st := st_is_row) l17 c17 k17) (PySem.W.mg_of X G a17)
  have C18 := cal_is_sign (P := l.prog) (w := w) (base := base) fx C11 C17 (fun_mk (st := st_is_sign) l18 c18 k18) (PySem.W.mg_of X G a18)
  have C19 := cal_check_sign (P := l.prog) (w := w) (base := base) fx C18 (fun_mk (st := st_check_sign) l19 c19 k19) (PySem.W.mg_of X G a19)
  have C20 := cal_is_kind (P := l.prog) (w := w) (base := base) fx C13 (fun_mk (st := st_is_kind) l20 c20 k20) (PySem.W.mg_of X G a20)
  have C21 := cal_check_kind (P := l.prog) (w := w) (base := base) fx C20 (fun_mk (st := st_check_kind) l21 c21 k21) (PySem.W.mg_of X G a21)
  have C22 := cal_are_feasts (P := l.prog) (w := w) (base := base) fx C11 C12 (fun_mk (st := st_are_feasts) l22 c22 k22) (PySem.W.mg_of X G a22)
  have C23 := cal_check_feasts (P := l.prog) (w := w) (base := base) fx C22 (fun_mk (st := st_check_feasts) l23 c23 k23) (PySem.W.mg_of X G a23)
  have C24 := cal_is_tick (P := l.prog) (w := w) (base := base) fx C11 (fun_mk (st := st_is_tick) l24 c24 k24) (PySem.W.mg_of X G a24)
  have C25 := cal_check_tick (P := l.prog) (w := w) (base := base) fx C24 (fun_mk (st := st_check_tick) l25 c25 k25) (PySem.W.mg_of X G a25)
  have C26 := cal_does_fit (P := l.prog) (w := w) (base := base) fx (fun_mk (st := st_does_fit) l26 c26 k26) (PySem.W.mg_of X G a26)
  have C27 := cal_does_bear (P := l.prog) (w := w) (base := base) fx C26 (fun_mk (st := st_does_bear) l27 c27 k27) (PySem.W.mg_of X G a27)
  have C28 := cal_told_at (P := l.prog) (w := w) (base := base) fx C27 (fun_mk (st := st_told_at) l28 c28 k28) (PySem.W.mg_of X G a28)
  have C29 := cal_changes (P := l.prog) (w := w) (base := base) fx C19 C21 C23 C25 C28 (fun_mk (st := st_changes) l29 c29 k29) (PySem.W.mg_of X G a29)
  have C30 := cal_answer (P := l.prog) (w := w) (base := base) fx C19 C21 C25 C23 C28 (fun_mk (st := st_answer) l30 c30 k30) (PySem.W.mg_of X G a30)
  have C31 := cal__law_are_answers_right (P := l.prog) (w := w) (base := base) fx C4 C3 C9 C30 C29 (fun_mk (st := st__law_are_answers_right) l31 c31 k31) (PySem.W.mg_of X G a31)
  have C32 := cal__law_are_bent_told (P := l.prog) (w := w) (base := base) fx C18 (fun_mk (st := st__law_are_bent_told) l32 c32 k32) (PySem.W.mg_of X G a32)
  have C33 := cal__law_right (P := l.prog) (w := w) (base := base) fx C4 C7 C8 C31 C32 (fun_mk (st := st__law_right) l33 c33 k33) (PySem.W.mg_of X G a33)
  have C34 := cal_law (P := l.prog) (w := w) (base := base) fx C1 C2 C33 (fun_mk (st := st_law) l34 c34 k34) (PySem.W.mg_of X G a34)
  exact C34
end Vk10

namespace ZZ
open PySem PySem.Spec L2

/-! ### the plain side: what a mirror gives, by what is wanted of it; continuations are named, so that simp opens each at its turn alone -/
def Owp {α : Type} (o : Out α) (Q : α → En → Prop) : Prop := match o with
  | .ok a e => Q a e
  | _ => False
def Wp {α : Type} (m : M α) (e : En) (Q : α → En → Prop) : Prop := Owp (m e) Q
def Fwp (o : FO) (Q : D → List D → Prop) : Prop := match o with
  | .ok d outs => Q d outs
  | _ => False
def onS {α : Type} (o : Option α) (K : α → Prop) : Prop := match o with | some e => K e | none => False
def gR (s : Option Sl) (K : D → Prop) : Prop := match s with | some (.fz d) => K d | _ => False
def gQ (s : Option Sl) (K : D → Prop) : Prop := match s with | some (.fz d) => K d | some (.op d) => K d | _ => False
def gL (s : Option Sl) (K J : D → Prop) : Prop := match s with | some (.fz d) => K d | some (.op d) => J d | _ => False
def gO (s : Option Sl) (K : D → Prop) : Prop := match s with | some (.op d) => K d | _ => False
def opL (s : Option Sl) : Option (List D) := match s with
  | some (.op (.list xs)) => some xs
  | _ => none
section
variable {α β : Type}
@[simp] theorem owp_ok (a : α) (e : En) (Q : α → En → Prop) : Owp (.ok a e) Q = Q a e := rfl
@[simp] theorem fwp_ok (d : D) (os : List D) (Q : D → List D → Prop) : Fwp (.ok d os) Q = Q d os := rfl
@[simp] theorem onS_s (a : α) (K : α → Prop) : onS (some a) K = K a := rfl
@[simp] theorem onS_n (K : α → Prop) : onS none K = False := rfl
@[simp] theorem gR_f (d : D) (K : D → Prop) : gR (some (.fz d)) K = K d := rfl
@[simp] theorem gQ_f (d : D) (K : D → Prop) : gQ (some (.fz d)) K = K d := rfl
@[simp] theorem gQ_o (d : D) (K : D → Prop) : gQ (some (.op d)) K = K d := rfl
@[simp] theorem gL_f (d : D) (K J : D → Prop) : gL (some (.fz d)) K J = K d := rfl
@[simp] theorem gL_o (d : D) (K J : D → Prop) : gL (some (.op d)) K J = J d := rfl
@[simp] theorem gO_o (d : D) (K : D → Prop) : gO (some (.op d)) K = K d := rfl
@[simp] theorem opL_op (xs : List D) : opL (some (.op (.list xs))) = some xs := rfl
theorem Owp.mono {o : Out α} {Q R : α → En → Prop} (h : Owp o Q) (k : ∀ a e, Q a e → R a e) : Owp o R := by
  cases o with
  | ok a e => exact k a e h
  | exc x e => exact h
  | no => exact h
theorem Wp.mono {m : M α} {e : En} {Q R : α → En → Prop} (h : Wp m e Q) (k : ∀ a e, Q a e → R a e) : Wp m e R := Owp.mono h k
theorem Fwp.mono {o : FO} {Q R : D → List D → Prop} (h : Fwp o Q) (k : ∀ a e, Q a e → R a e) : Fwp o R := by
  cases o with
  | ok a e => exact k a e h
  | exc x e => exact h
  | no => exact h
theorem onS_of {o : Option α} {a : α} {K : α → Prop} (h : o = some a) (k : K a) : onS o K := by rw [h]; exact k
theorem wp_bnd (m : M α) (f : α → M β) (e : En) (Q : β → En → Prop) : Wp (bnd m f) e Q = Wp m e fun a e1 => Wp (f a) e1 Q := by
  unfold Wp bnd
  cases m e <;> rfl
@[simp] theorem wp_ret (a : α) (e : En) (Q : α → En → Prop) : Wp (ret a) e Q = Q a e := rfl
def kE (Q : α → En → Prop) (e : En) : α → Prop := fun a => Q a e
@[simp] theorem kE_ap (Q : α → En → Prop) (e : En) (a : α) : kE Q e a = Q a e := rfl
theorem wp_lft (o : Option α) (e : En) (Q : α → En → Prop) : Wp (lft o) e Q = onS o (kE Q e) := by
  cases o <;> rfl
def kSet (Q : D → En → Prop) (e : En) (i : Nat) : D → Prop := fun d => Q d (e.set i (.fz d))
@[simp] theorem kSet_ap (Q : D → En → Prop) (e : En) (i : Nat) (d : D) : kSet Q e i d = Q d (e.set i (.fz d)) := rfl
/-- a test's two ways -/
def ifM (b : Bool) (s t : M α) (e : En) (Q : α → En → Prop) : Prop := if b = true then Wp s e Q else Wp t e Q
@[simp] theorem ifM_t (s t : M α) (e : En) (Q : α → En → Prop) : ifM true s t e Q = Wp s e Q := rfl
@[simp] theorem ifM_f (s t : M α) (e : En) (Q : α → En → Prop) : ifM false s t e Q = Wp t e Q := rfl
theorem ifM_d {p : Prop} [Decidable p] {s t : M α} {e : En} {Q : α → En → Prop} (h1 : p → Wp s e Q) (h2 : ¬ p → Wp t e Q) : ifM (decide p) s t e Q := by
  by_cases h : p
  · rw [decide_eq_true h]; exact h1 h
  · rw [decide_eq_false h]; exact h2 h
theorem ifM_b {b : Bool} {s t : M α} {e : En} {Q : α → En → Prop} (h1 : b = true → Wp s e Q) (h2 : b = false → Wp t e Q) : ifM b s t e Q := by
  cases b
  · exact h2 rfl
  · exact h1 rfl

@[simp] theorem wp_vr (i : Nat) (e : En) (Q : D → En → Prop) : Wp (vr i) e Q = gR e[i]? (kE Q e) := by
  unfold Wp vr
  generalize e[i]? = t
  cases t with
  | none => rfl
  | some s => cases s <;> rfl
@[simp] theorem wp_vq (i : Nat) (e : En) (Q : D → En → Prop) : Wp (vq i) e Q = gQ e[i]? (kE Q e) := by
  unfold Wp vq
  generalize e[i]? = t
  cases t with
  | none => rfl
  | some s => cases s <;> rfl
@[simp] theorem wp_vl (i : Nat) (e : En) (Q : D → En → Prop) : Wp (vl i) e Q = gL e[i]? (kE Q e) (kSet Q e i) := by
  unfold Wp vl
  generalize e[i]? = t
  cases t with
  | none => rfl
  | some s => cases s <;> rfl
@[simp] theorem wp_vo (i : Nat) (e : En) (Q : D → En → Prop) : Wp (vo i) e Q = gO e[i]? (kE Q e) := by
  unfold Wp vo
  generalize e[i]? = t
  cases t with
  | none => rfl
  | some s => cases s <;> rfl
/-! operators -/
def kBin2 (op : D → D → Option D) (x : D) (Q : D → En → Prop) : D → En → Prop := fun y e => onS (op x y) (kE Q e)
@[simp] theorem kBin2_ap (op : D → D → Option D) (x : D) (Q : D → En → Prop) (y : D) (e : En) : kBin2 op x Q y e = onS (op x y) (kE Q e) := rfl
def kBin1 (op : D → D → Option D) (b : M D) (Q : D → En → Prop) : D → En → Prop := fun x e => Wp b e (kBin2 op x Q)
@[simp] theorem kBin1_ap (op : D → D → Option D) (b : M D) (Q : D → En → Prop) (x : D) (e : En) : kBin1 op b Q x e = Wp b e (kBin2 op x Q) := rfl
@[simp] theorem wp_bin (op : D → D → Option D) (a b : M D) (e : En) (Q : D → En → Prop) : Wp (bin op a b) e Q = Wp a e (kBin1 op b Q) := by
  simp only [bin, wp_bnd, wp_lft]; rfl
def kUna (op : D → Option D) (Q : D → En → Prop) : D → En → Prop := fun x e => onS (op x) (kE Q e)
@[simp] theorem kUna_ap (op : D → Option D) (Q : D → En → Prop) (x : D) (e : En) : kUna op Q x e = onS (op x) (kE Q e) := rfl
@[simp] theorem wp_una (op : D → Option D) (a : M D) (e : En) (Q : D → En → Prop) : Wp (una op a) e Q = Wp a e (kUna op Q) := by
  simp only [una, wp_bnd, wp_lft]; rfl
def kBL2 (op : D → D → Option D) (y : D) (e : En) (Q : D → En → Prop) : D → Prop := fun x => onS (op x y) (kE Q e)
@[simp] theorem kBL2_ap (op : D → D → Option D) (y : D) (e : En) (Q : D → En → Prop) (x : D) : kBL2 op y e Q x = onS (op x y) (kE Q e) := rfl
def kBL1 (op : D → D → Option D) (i : Nat) (Q : D → En → Prop) : D → En → Prop := fun y e => gQ e[i]? (kBL2 op y e Q)
@[simp] theorem kBL1_ap (op : D → D → Option D) (i : Nat) (Q : D → En → Prop) (y : D) (e : En) : kBL1 op i Q y e = gQ e[i]? (kBL2 op y e Q) := rfl
def kBL0 (op : D → D → Option D) (i : Nat) (b : M D) (e : En) (Q : D → En → Prop) : D → Prop := fun _ => Wp b e (kBL1 op i Q)
@[simp] theorem kBL0_ap (op : D → D → Option D) (i : Nat) (b : M D) (e : En) (Q : D → En → Prop) (x : D) : kBL0 op i b e Q x = Wp b e (kBL1 op i Q) := rfl
@[simp] theorem wp_binL (op : D → D → Option D) (i : Nat) (b : M D) (e : En) (Q : D → En → Prop) : Wp (binL op i b) e Q = gQ e[i]? (kBL0 op i b e Q) := by
  simp only [binL, wp_bnd, wp_vq, wp_lft]; rfl
/-! displays -/
@[simp] theorem wp_seq0 (e : En) (Q : List D → En → Prop) : Wp (seqM []) e Q = Q [] e := rfl
def kS2 (x : D) (Q : List D → En → Prop) : List D → En → Prop := fun xs e => Q (x :: xs) e
@[simp] theorem kS2_ap (x : D) (Q : List D → En → Prop) (xs : List D) (e : En) : kS2 x Q xs e = Q (x :: xs) e := rfl
def kS1 (ms : List (M D)) (Q : List D → En → Prop) : D → En → Prop := fun x e => Wp (seqM ms) e (kS2 x Q)
@[simp] theorem kS1_ap (ms : List (M D)) (Q : List D → En → Prop) (x : D) (e : En) : kS1 ms Q x e = Wp (seqM ms) e (kS2 x Q) := rfl
@[simp] theorem wp_seq1 (m : M D) (ms : List (M D)) (e : En) (Q : List D → En → Prop) : Wp (seqM (m :: ms)) e Q = Wp m e (kS1 ms Q) := by
  simp only [seqM, wp_bnd, wp_ret]; rfl
def kTup (Q : D → En → Prop) : List D → En → Prop := fun xs e => Q (.tuple xs) e
@[simp] theorem kTup_ap (Q : D → En → Prop) (xs : List D) (e : En) : kTup Q xs e = Q (.tuple xs) e := rfl
@[simp] theorem wp_tup (ms : List (M D)) (e : En) (Q : D → En → Prop) : Wp (tupM ms) e Q = Wp (seqM ms) e (kTup Q) := by
  simp only [tupM, wp_bnd, wp_ret]; rfl
def kLst (Q : D → En → Prop) : List D → En → Prop := fun xs e => Q (.list xs) e
@[simp] theorem kLst_ap (Q : D → En → Prop) (xs : List D) (e : En) : kLst Q xs e = Q (.list xs) e := rfl
@[simp] theorem wp_lst (ms : List (M D)) (e : En) (Q : D → En → Prop) : Wp (lstM ms) e Q = Wp (seqM ms) e (kLst Q) := by
  simp only [lstM, wp_bnd, wp_ret]; rfl
@[simp] theorem wp_seqP0 (e : En) (Q : List (D × D) → En → Prop) : Wp (seqP []) e Q = Q [] e := rfl
def kP3 (k v : D) (Q : List (D × D) → En → Prop) : List (D × D) → En → Prop := fun xs e => Q ((k, v) :: xs) e
@[simp] theorem kP3_ap (k v : D) (Q : List (D × D) → En → Prop) (xs : List (D × D)) (e : En) : kP3 k v Q xs e = Q ((k, v) :: xs) e := rfl
def kP2 (k : D) (r : List (M D × M D)) (Q : List (D × D) → En → Prop) : D → En → Prop := fun v e => Wp (seqP r) e (kP3 k v Q)
@[simp] theorem kP2_ap (k : D) (r : List (M D × M D)) (Q : List (D × D) → En → Prop) (v : D) (e : En) : kP2 k r Q v e = Wp (seqP r) e (kP3 k v Q) := rfl
def kP1 (mv : M D) (r : List (M D × M D)) (Q : List (D × D) → En → Prop) : D → En → Prop := fun k e => Wp mv e (kP2 k r Q)
@[simp] theorem kP1_ap (mv : M D) (r : List (M D × M D)) (Q : List (D × D) → En → Prop) (k : D) (e : En) : kP1 mv r Q k e = Wp mv e (kP2 k r Q) := rfl
@[simp] theorem wp_seqP1 (a b : M D) (ms : List (M D × M D)) (e : En) (Q : List (D × D) → En → Prop) : Wp (seqP ((a, b) :: ms)) e Q = Wp a e (kP1 b ms Q) := by
  simp only [seqP, wp_bnd, wp_ret]; rfl
@[simp] theorem wp_noX (m : M α) (e : En) (Q : α → En → Prop) : Wp (noX m) e Q = Wp m e Q := by
  unfold Wp noX
  cases m e <;> rfl
def kDsp (Q : D → En → Prop) : List (D × D) → En → Prop := fun ps e => onS (dspD ps) (kE Q e)
@[simp] theorem kDsp_ap (Q : D → En → Prop) (ps : List (D × D)) (e : En) : kDsp Q ps e = onS (dspD ps) (kE Q e) := rfl
@[simp] theorem wp_dsp (ms : List (M D × M D)) (e : En) (Q : D → En → Prop) : Wp (dspM ms) e Q = Wp (seqP ms) e (kDsp Q) := by
  simp only [dspM, wp_bnd, wp_lft]; rfl
/-! tests -/
def kBool (Q : Bool → En → Prop) : D → En → Prop := fun d e => match d with | .bool b => Q b e | _ => False
@[simp] theorem kBool_ap (Q : Bool → En → Prop) (b : Bool) (e : En) : kBool Q (.bool b) e = Q b e := rfl
@[simp] theorem wp_boolOf (m : M D) (e : En) (Q : Bool → En → Prop) : Wp (boolOf m) e Q = Wp m e (kBool Q) := by
  simp only [boolOf, wp_bnd]
  congr 1
  funext d e1
  cases d <;> rfl
def kN (Q : D → En → Prop) : D → En → Prop := fun d e => Q (.bool (isNoneD d)) e
@[simp] theorem kN_ap (Q : D → En → Prop) (d : D) (e : En) : kN Q d e = Q (.bool (isNoneD d)) e := rfl
def kNN (Q : D → En → Prop) : D → En → Prop := fun d e => Q (.bool (!isNoneD d)) e
@[simp] theorem kNN_ap (Q : D → En → Prop) (d : D) (e : En) : kNN Q d e = Q (.bool (!isNoneD d)) e := rfl
@[simp] theorem wp_isN (m : M D) (e : En) (Q : D → En → Prop) : Wp (isN m) e Q = Wp m e (kN Q) := by
  simp only [isN, wp_bnd, wp_ret]; rfl
@[simp] theorem wp_isNN (m : M D) (e : En) (Q : D → En → Prop) : Wp (isNN m) e Q = Wp m e (kNN Q) := by
  simp only [isNN, wp_bnd, wp_ret]; rfl
def kC4 (op : D → D → Option D) (y : D) (Q : D → En → Prop) : D → En → Prop := fun z e => onS (op y z) (kE Q e)
@[simp] theorem kC4_ap (op : D → D → Option D) (y : D) (Q : D → En → Prop) (z : D) (e : En) : kC4 op y Q z e = onS (op y z) (kE Q e) := rfl
def kC3 (op : D → D → Option D) (y : D) (c : M D) (e : En) (Q : D → En → Prop) : D → Prop := fun z => match z with | .bool true => Wp c e (kC4 op y Q) | .bool false => Q (.bool false) e | _ => False
@[simp] theorem kC3_ap (op : D → D → Option D) (y : D) (c : M D) (e : En) (Q : D → En → Prop) (b : Bool) : kC3 op y c e Q (.bool b) = ifM b (bnd c fun z => lft (op y z)) (ret (.bool false)) e Q := by
  cases b
  · rfl
  · simp only [ifM_t, wp_bnd, wp_lft]; rfl
@[simp] theorem wp_bl (c : M D) (op : D → Option D) (e : En) (Q : D → En → Prop) : Wp (bnd c fun z => lft (op z)) e Q = Wp c e (kUna op Q) := by
  simp only [wp_bnd, wp_lft]; rfl
def kC2 (op op2 : D → D → Option D) (x : D) (c : M D) (Q : D → En → Prop) : D → En → Prop := fun y e => onS (op x y) (kC3 op2 y c e Q)
@[simp] theorem kC2_ap (op op2 : D → D → Option D) (x : D) (c : M D) (Q : D → En → Prop) (y : D) (e : En) : kC2 op op2 x c Q y e = onS (op x y) (kC3 op2 y c e Q) := rfl
def kC1 (op op2 : D → D → Option D) (b c : M D) (Q : D → En → Prop) : D → En → Prop := fun x e => Wp b e (kC2 op op2 x c Q)
@[simp] theorem kC1_ap (op op2 : D → D → Option D) (b c : M D) (Q : D → En → Prop) (x : D) (e : En) : kC1 op op2 b c Q x e = Wp b e (kC2 op op2 x c Q) := rfl
@[simp] theorem wp_chn (op op2 : D → D → Option D) (a b c : M D) (e : En) (Q : D → En → Prop) : Wp (chn op op2 a b c) e Q = Wp a e (kC1 op op2 b c Q) := by
  simp only [chn, wp_bnd, wp_lft]
  congr 1; funext x e1
  show _ = Wp b e1 _
  congr 1; funext y e2
  show _ = onS (op x y) _
  congr 1; funext z
  cases z with
  | bool b =>
    cases b
    · rfl
    · exact (wp_bl c (op2 y) e2 Q)
  | _ => rfl
def kTru (Q : Bool → En → Prop) : D → En → Prop := fun d e => onS (truD d) (kE Q e)
@[simp] theorem kTru_ap (Q : Bool → En → Prop) (d : D) (e : En) : kTru Q d e = onS (truD d) (kE Q e) := rfl
@[simp] theorem wp_truM (m : M D) (e : En) (Q : Bool → En → Prop) : Wp (truM m) e Q = Wp m e (kTru Q) := by
  simp only [truM, wp_bnd, wp_lft]; rfl
def kNot (Q : Bool → En → Prop) : Bool → En → Prop := fun b e => Q (!b) e
@[simp] theorem kNot_ap (Q : Bool → En → Prop) (b : Bool) (e : En) : kNot Q b e = Q (!b) e := rfl
@[simp] theorem wp_notM (m : M Bool) (e : En) (Q : Bool → En → Prop) : Wp (notM m) e Q = Wp m e (kNot Q) := by
  simp only [notM, wp_bnd, wp_ret]; rfl
def kIf (s t : M α) (Q : α → En → Prop) : Bool → En → Prop := fun b e => ifM b s t e Q
@[simp] theorem kIf_ap (s t : M α) (Q : α → En → Prop) (b : Bool) (e : En) : kIf s t Q b e = ifM b s t e Q := rfl
@[simp] theorem wp_andM (s t : M Bool) (e : En) (Q : Bool → En → Prop) : Wp (andM s t) e Q = Wp s e (kIf t (ret false) Q) := by
  simp only [andM, wp_bnd]
  congr 1; funext b e1; cases b <;> rfl
@[simp] theorem wp_orM (s t : M Bool) (e : En) (Q : Bool → En → Prop) : Wp (orM s t) e Q = Wp s e (kIf (ret true) t Q) := by
  simp only [orM, wp_bnd]
  congr 1; funext b e1; cases b <;> rfl
@[simp] theorem wp_ite (c : M Bool) (x y : M α) (e : En) (Q : α → En → Prop) : Wp (iteM c x y) e Q = Wp c e (kIf x y Q) := by
  simp only [iteM, wp_bnd]
  congr 1; funext b e1; cases b <;> rfl
@[simp] theorem wp_if (c : M Bool) (s t : M Fl) (e : En) (Q : Fl → En → Prop) : Wp (sIf c s t) e Q = Wp c e (kIf s t Q) := by
  simp only [sIf, wp_bnd]
  congr 1; funext b e1; cases b <;> rfl
def kAndV2 (d : D) (y : M D) (e : En) (Q : D → En → Prop) : Bool → Prop := fun b => ifM b y (ret d) e Q
@[simp] theorem kAndV2_ap (d : D) (y : M D) (e : En) (Q : D → En → Prop) (b : Bool) : kAndV2 d y e Q b = ifM b y (ret d) e Q := rfl
def kAndV (y : M D) (Q : D → En → Prop) : D → En → Prop := fun d e => onS (truD d) (kAndV2 d y e Q)
@[simp] theorem kAndV_ap (y : M D) (Q : D → En → Prop) (d : D) (e : En) : kAndV y Q d e = onS (truD d) (kAndV2 d y e Q) := rfl
@[simp] theorem wp_andV (x y : M D) (e : En) (Q : D → En → Prop) : Wp (andV x y) e Q = Wp x e (kAndV y Q) := by
  simp only [andV, wp_bnd, wp_lft]
  congr 1; funext d e1
  show _ = onS (truD d) _
  congr 1; funext b; cases b <;> rfl
def kOrV2 (d : D) (y : M D) (e : En) (Q : D → En → Prop) : Bool → Prop := fun b => ifM b (ret d) y e Q
@[simp] theorem kOrV2_ap (d : D) (y : M D) (e : En) (Q : D → En → Prop) (b : Bool) : kOrV2 d y e Q b = ifM b (ret d) y e Q := rfl
def kOrV (y : M D) (Q : D → En → Prop) : D → En → Prop := fun d e => onS (truD d) (kOrV2 d y e Q)
@[simp] theorem kOrV_ap (y : M D) (Q : D → En → Prop) (d : D) (e : En) : kOrV y Q d e = onS (truD d) (kOrV2 d y e Q) := rfl
@[simp] theorem wp_orV (x y : M D) (e : En) (Q : D → En → Prop) : Wp (orV x y) e Q = Wp x e (kOrV y Q) := by
  simp only [orV, wp_bnd, wp_lft]
  congr 1; funext d e1
  show _ = onS (truD d) _
  congr 1; funext b; cases b <;> rfl
def kNotV2 (e : En) (Q : D → En → Prop) : Bool → Prop := fun b => Q (.bool !b) e
@[simp] theorem kNotV2_ap (e : En) (Q : D → En → Prop) (b : Bool) : kNotV2 e Q b = Q (.bool !b) e := rfl
def kNotV (Q : D → En → Prop) : D → En → Prop := fun d e => onS (truD d) (kNotV2 e Q)
@[simp] theorem kNotV_ap (Q : D → En → Prop) (d : D) (e : En) : kNotV Q d e = onS (truD d) (kNotV2 e Q) := rfl
@[simp] theorem wp_notV (m : M D) (e : En) (Q : D → En → Prop) : Wp (notV m) e Q = Wp m e (kNotV Q) := by
  simp only [notV, wp_bnd, wp_ret, wp_lft]; rfl
/-! slices -/
@[simp] theorem wp_part0 (e : En) (Q : Option Int → En → Prop) : Wp (partM none) e Q = Q none e := rfl
def kPart (Q : Option Int → En → Prop) : D → En → Prop := fun d e => match d with | .int i => Q (some i) e | _ => False
@[simp] theorem kPart_ap (Q : Option Int → En → Prop) (i : Int) (e : En) : kPart Q (.int i) e = Q (some i) e := rfl
@[simp] theorem wp_part1 (m : M D) (e : En) (Q : Option Int → En → Prop) : Wp (partM (some m)) e Q = Wp m e (kPart Q) := by
  simp only [partM, wp_bnd]
  congr 1; funext d e1; cases d <;> rfl
def kSl2 (x : D) (i : Option Int) (Q : D → En → Prop) : Option Int → En → Prop := fun j e => onS (slD x i j) (kE Q e)
@[simp] theorem kSl2_ap (x : D) (i : Option Int) (Q : D → En → Prop) (j : Option Int) (e : En) : kSl2 x i Q j e = onS (slD x i j) (kE Q e) := rfl
def kSl1 (x : D) (h : Option (M D)) (Q : D → En → Prop) : Option Int → En → Prop := fun i e => Wp (partM h) e (kSl2 x i Q)
@[simp] theorem kSl1_ap (x : D) (h : Option (M D)) (Q : D → En → Prop) (i : Option Int) (e : En) : kSl1 x h Q i e = Wp (partM h) e (kSl2 x i Q) := rfl
def kSl0 (l h : Option (M D)) (Q : D → En → Prop) : D → En → Prop := fun x e => Wp (partM l) e (kSl1 x h Q)
@[simp] theorem kSl0_ap (l h : Option (M D)) (Q : D → En → Prop) (x : D) (e : En) : kSl0 l h Q x e = Wp (partM l) e (kSl1 x h Q) := rfl
@[simp] theorem wp_sl (m : M D) (l h : Option (M D)) (e : En) (Q : D → En → Prop) : Wp (slM m l h) e Q = Wp m e (kSl0 l h Q) := by
  simp only [slM, wp_bnd, wp_lft]; rfl
def kSL3 (i j : Option Int) (e : En) (Q : D → En → Prop) : D → Prop := fun x => onS (slD x i j) (kE Q e)
@[simp] theorem kSL3_ap (i j : Option Int) (e : En) (Q : D → En → Prop) (x : D) : kSL3 i j e Q x = onS (slD x i j) (kE Q e) := rfl
def kSL2 (k : Nat) (i : Option Int) (Q : D → En → Prop) : Option Int → En → Prop := fun j e => gQ e[k]? (kSL3 i j e Q)
@[simp] theorem kSL2_ap (k : Nat) (i : Option Int) (Q : D → En → Prop) (j : Option Int) (e : En) : kSL2 k i Q j e = gQ e[k]? (kSL3 i j e Q) := rfl
def kSL1 (k : Nat) (h : Option (M D)) (Q : D → En → Prop) : Option Int → En → Prop := fun i e => Wp (partM h) e (kSL2 k i Q)
@[simp] theorem kSL1_ap (k : Nat) (h : Option (M D)) (Q : D → En → Prop) (i : Option Int) (e : En) : kSL1 k h Q i e = Wp (partM h) e (kSL2 k i Q) := rfl
def kSL0 (k : Nat) (l h : Option (M D)) (e : En) (Q : D → En → Prop) : D → Prop := fun _ => Wp (partM l) e (kSL1 k h Q)
@[simp] theorem kSL0_ap (k : Nat) (l h : Option (M D)) (e : En) (Q : D → En → Prop) (x : D) : kSL0 k l h e Q x = Wp (partM l) e (kSL1 k h Q) := rfl
@[simp] theorem wp_slL (k : Nat) (l h : Option (M D)) (e : En) (Q : D → En → Prop) : Wp (slL k l h) e Q = gQ e[k]? (kSL0 k l h e Q) := by
  simp only [slL, wp_bnd, wp_vq, wp_lft]; rfl
/-! calls -/
@[simp] theorem wp_evA0 (e : En) (Q : List D → En → Prop) : Wp (evA []) e Q = Q [] e := rfl
def kA1 (r : List Arg) (Q : List D → En → Prop) : D → En → Prop := fun d e => Wp (evA r) e (kS2 d Q)
@[simp] theorem kA1_ap (r : List Arg) (Q : List D → En → Prop) (d : D) (e : En) : kA1 r Q d e = Wp (evA r) e (kS2 d Q) := rfl
@[simp] theorem wp_evAv (m : M D) (r : List Arg) (e : En) (Q : List D → En → Prop) : Wp (evA (.v m :: r)) e Q = Wp m e (kA1 r Q) := by
  simp only [evA, wp_bnd, wp_ret]; rfl
def kA2 (r : List Arg) (e : En) (Q : List D → En → Prop) : D → Prop := fun _ => Wp (evA r) e (kS2 .none Q)
@[simp] theorem kA2_ap (r : List Arg) (e : En) (Q : List D → En → Prop) (d : D) : kA2 r e Q d = Wp (evA r) e (kS2 .none Q) := rfl
@[simp] theorem wp_evAio (i : Nat) (r : List Arg) (e : En) (Q : List D → En → Prop) : Wp (evA (.io i :: r)) e Q = gO e[i]? (kA2 r e Q) := by
  simp only [evA, wp_bnd, wp_ret]
  show Owp (chkO i e) _ = _
  unfold chkO
  generalize e[i]? = t
  cases t with
  | none => rfl
  | some s => cases s <;> rfl
def kCall4 (d : D) (Q : D → En → Prop) : En → Prop := fun e => Q d e
@[simp] theorem kCall4_ap (d : D) (Q : D → En → Prop) (e : En) : kCall4 d Q e = Q d e := rfl
def kCall3 (as : List Arg) (e : En) (Q : D → En → Prop) : D → List D → Prop := fun d outs => onS (putA as outs e) (kCall4 d Q)
@[simp] theorem kCall3_ap (as : List Arg) (e : En) (Q : D → En → Prop) (d : D) (outs : List D) : kCall3 as e Q d outs = onS (putA as outs e) (kCall4 d Q) := rfl
def kCall2 (F : List D → FO) (as : List Arg) (e : En) (Q : D → En → Prop) : List D → Prop := fun full => Fwp (F full) (kCall3 as e Q)
@[simp] theorem kCall2_ap (F : List D → FO) (as : List Arg) (e : En) (Q : D → En → Prop) (full : List D) : kCall2 F as e Q full = Fwp (F full) (kCall3 as e Q) := rfl
def kCall1 (F : List D → FO) (as : List Arg) (Q : D → En → Prop) : List D → En → Prop := fun ds e => onS (fillA as e ds) (kCall2 F as e Q)
@[simp] theorem kCall1_ap (F : List D → FO) (as : List Arg) (Q : D → En → Prop) (ds : List D) (e : En) : kCall1 F as Q ds e = onS (fillA as e ds) (kCall2 F as e Q) := rfl
@[simp] theorem wp_call (F : List D → FO) (as : List Arg) (e : En) (Q : D → En → Prop) : Wp (callM F as) e Q = Wp (evA as) e (kCall1 F as Q) := by
  unfold callM
  rw [wp_bnd]
  congr 1; funext ds e1
  show Owp (match fillA as e1 ds with
    | none => .no
    | some full => match F full with
      | .ok d outs => (match putA as outs e1 with | some e2 => .ok d e2 | none => .no)
      | _ => .no) Q = onS (fillA as e1 ds) (kCall2 F as e1 Q)
  cases fillA as e1 ds with
  | none => rfl
  | some full =>
    simp only [onS_s, kCall2_ap]
    cases F full with
    | ok d outs =>
      simp only [fwp_ok, kCall3_ap]
      cases putA as outs e1 <;> rfl
    | exc x o => rfl
    | no => rfl
def kK2 (e : En) (Q : D → En → Prop) : D → List D → Prop := fun d outs => match outs with | [] => Q d e | _ => False
@[simp] theorem kK2_ap (e : En) (Q : D → En → Prop) (d : D) : kK2 e Q d [] = Q d e := rfl
def kK1 (F : List D → FO) (pm : List Nat) (Q : D → En → Prop) : List D → En → Prop := fun xs e => Fwp (F (pickD pm xs)) (kK2 e Q)
@[simp] theorem kK1_ap (F : List D → FO) (pm : List Nat) (Q : D → En → Prop) (xs : List D) (e : En) : kK1 F pm Q xs e = Fwp (F (pickD pm xs)) (kK2 e Q) := rfl
@[simp] theorem wp_callK (F : List D → FO) (pm : List Nat) (ms : List (M D)) (e : En) (Q : D → En → Prop) : Wp (callK F pm ms) e Q = Wp (seqM ms) e (kK1 F pm Q) := by
  unfold callK
  rw [wp_bnd]
  congr 1; funext ds e1
  show Owp (match F (pickD pm ds) with
    | .ok d [] => .ok d e1
    | _ => .no) Q = Fwp (F (pickD pm ds)) (kK2 e1 Q)
  cases F (pickD pm ds) with
  | ok d outs => cases outs <;> rfl
  | exc x o => rfl
  | no => rfl
/-! statements -/
@[simp] theorem wp_nx (e : En) (Q : Fl → En → Prop) : Wp sNx e Q = Q .nx e := rfl
@[simp] theorem wp_bk (e : En) (Q : Fl → En → Prop) : Wp sBk e Q = Q .bk e := rfl
@[simp] theorem wp_ct (e : En) (Q : Fl → En → Prop) : Wp sCt e Q = Q .ct e := rfl
@[simp] theorem wp_no (e : En) (Q : Fl → En → Prop) : Wp sNo e Q = False := rfl
def kSeq (t : M Fl) (Q : Fl → En → Prop) : Fl → En → Prop := fun f e => match f with | .nx => Wp t e Q | f => Q f e
@[simp] theorem kSeq_nx (t : M Fl) (Q : Fl → En → Prop) (e : En) : kSeq t Q .nx e = Wp t e Q := rfl
@[simp] theorem kSeq_rt (t : M Fl) (Q : Fl → En → Prop) (d : D) (e : En) : kSeq t Q (.rt d) e = Q (.rt d) e := rfl
@[simp] theorem kSeq_ro (t : M Fl) (Q : Fl → En → Prop) (d : D) (e : En) : kSeq t Q (.ro d) e = Q (.ro d) e := rfl
@[simp] theorem kSeq_bk (t : M Fl) (Q : Fl → En → Prop) (e : En) : kSeq t Q .bk e = Q .bk e := rfl
@[simp] theorem kSeq_ct (t : M Fl) (Q : Fl → En → Prop) (e : En) : kSeq t Q .ct e = Q .ct e := rfl
@[simp] theorem wp_seq (s t : M Fl) (e : En) (Q : Fl → En → Prop) : Wp (sSeq s t) e Q = Wp s e (kSeq t Q) := by
  unfold sSeq
  rw [wp_bnd]
  congr 1; funext f e1
  cases f <;> rfl
def kNx (Q : Fl → En → Prop) : En → Prop := fun e => Q .nx e
@[simp] theorem kNx_ap (Q : Fl → En → Prop) (e : En) : kNx Q e = Q .nx e := rfl
def kExp (Q : Fl → En → Prop) : D → En → Prop := fun _ e => Q .nx e
@[simp] theorem kExp_ap (Q : Fl → En → Prop) (d : D) (e : En) : kExp Q d e = Q .nx e := rfl
def kRt (Q : Fl → En → Prop) : D → En → Prop := fun d e => Q (.rt d) e
@[simp] theorem kRt_ap (Q : Fl → En → Prop) (d : D) (e : En) : kRt Q d e = Q (.rt d) e := rfl
def kRo (Q : Fl → En → Prop) : D → En → Prop := fun d e => Q (.ro d) e
@[simp] theorem kRo_ap (Q : Fl → En → Prop) (d : D) (e : En) : kRo Q d e = Q (.ro d) e := rfl
@[simp] theorem wp_expr (m : M D) (e : En) (Q : Fl → En → Prop) : Wp (sExpr m) e Q = Wp m e (kExp Q) := by
  simp only [sExpr, wp_bnd, wp_ret]; rfl
@[simp] theorem wp_rt (m : M D) (e : En) (Q : Fl → En → Prop) : Wp (sRet m) e Q = Wp m e (kRt Q) := by
  simp only [sRet, wp_bnd, wp_ret]; rfl
@[simp] theorem wp_rtN (e : En) (Q : Fl → En → Prop) : Wp sRetN e Q = Q (.rt .none) e := rfl
@[simp] theorem wp_ro (m : M D) (e : En) (Q : Fl → En → Prop) : Wp (sRetO m) e Q = Wp m e (kRo Q) := by
  simp only [sRetO, wp_bnd, wp_ret]; rfl
def kAsg (f : D → En → Option En) (Q : Fl → En → Prop) : D → En → Prop := fun d e => onS (f d e) (kNx Q)
@[simp] theorem kAsg_ap (f : D → En → Option En) (Q : Fl → En → Prop) (d : D) (e : En) : kAsg f Q d e = onS (f d e) (kNx Q) := rfl
@[simp] theorem wp_asg (f : D → En → Option En) (m : M D) (e : En) (Q : Fl → En → Prop) : Wp (sAsg f m) e Q = Wp m e (kAsg f Q) := by
  unfold sAsg
  rw [wp_bnd]
  congr 1; funext d e1
  show Owp (match f d e1 with | some e' => .ok .nx e' | none => .no) Q = onS (f d e1) (kNx Q)
  cases f d e1 <;> rfl
@[simp] theorem wp_asgO (i : Nat) (m : M D) (e : En) (Q : Fl → En → Prop) : Wp (sAsgO i m) e Q = Wp m e (kAsg (setO i) Q) := by
  unfold sAsgO
  rw [wp_bnd]
  congr 1; funext d e1
  show Owp (match setO i d e1 with | some e' => .ok .nx e' | none => .no) Q = onS (setO i d e1) (kNx Q)
  cases setO i d e1 <;> rfl
def kI3 (i : Nat) (e : En) (Q : Fl → En → Prop) : List D → Prop := fun ys => Q .nx (e.set i (.op (.list ys)))
@[simp] theorem kI3_ap (i : Nat) (e : En) (Q : Fl → En → Prop) (ys : List D) : kI3 i e Q ys = Q .nx (e.set i (.op (.list ys))) := rfl
def kI2 (i : Nat) (k : Int) (v : D) (e : En) (Q : Fl → En → Prop) : List D → Prop := fun xs => onS (setIx xs k v) (kI3 i e Q)
@[simp] theorem kI2_ap (i : Nat) (k : Int) (v : D) (e : En) (Q : Fl → En → Prop) (xs : List D) : kI2 i k v e Q xs = onS (setIx xs k v) (kI3 i e Q) := rfl
def kI1 (i : Nat) (v : D) (Q : Fl → En → Prop) : D → En → Prop := fun k e => match k with | .int k => onS (opL e[i]?) (kI2 i k v e Q) | _ => False
@[simp] theorem kI1_ap (i : Nat) (v : D) (Q : Fl → En → Prop) (k : Int) (e : En) : kI1 i v Q (.int k) e = onS (opL e[i]?) (kI2 i k v e Q) := rfl
def kI0b (i : Nat) (mk : M D) (v : D) (e : En) (Q : Fl → En → Prop) : D → Prop := fun _ => Wp mk e (kI1 i v Q)
@[simp] theorem kI0b_ap (i : Nat) (mk : M D) (v : D) (e : En) (Q : Fl → En → Prop) (d : D) : kI0b i mk v e Q d = Wp mk e (kI1 i v Q) := rfl
def kI0 (i : Nat) (mk : M D) (Q : Fl → En → Prop) : D → En → Prop := fun v e => gO e[i]? (kI0b i mk v e Q)
@[simp] theorem kI0_ap (i : Nat) (mk : M D) (Q : Fl → En → Prop) (v : D) (e : En) : kI0 i mk Q v e = gO e[i]? (kI0b i mk v e Q) := rfl
@[simp] theorem wp_setIx (i : Nat) (mk mv : M D) (e : En) (Q : Fl → En → Prop) : Wp (sSetIx i mk mv) e Q = Wp mv e (kI0 i mk Q) := by
  unfold sSetIx
  rw [wp_bnd]
  congr 1; funext v e1
  rw [wp_bnd]
  show Owp (chkO i e1) _ = gO e1[i]? (kI0b i mk v e1 Q)
  unfold chkO
  have key : ∀ k e2, Owp ((fun (k : D) (e : En) => match k with
      | .int k => (match e[i]? with
        | some (.op (.list xs)) => (match setIx xs k v with | some ys => .ok Fl.nx (e.set i (.op (.list ys))) | none => .no)
        | _ => .no)
      | _ => Out.no) k e2) Q = kI1 i v Q k e2 := fun k e2 => by
    cases k <;> try rfl
    rw [kI1_ap]
    dsimp only [kI2]
    generalize e2[i]? = t
    cases t with
    | none => rfl
    | some s =>
      cases s with
      | op d =>
        cases d <;> try rfl
        dsimp only [opL, onS, kI2]
        generalize setIx _ _ v = u
        cases u <;> rfl
      | _ => rfl
  generalize e1[i]? = t
  cases t with
  | none => rfl
  | some s =>
    cases s with
    | op d =>
      simp only [owp_ok, wp_bnd, gO, kI0b]
      congr 1; funext k e2
      exact key k e2
    | _ => rfl
def kM2 (i : Nat) (f : List D → D → Option (List D)) (v : D) (e : En) (Q : Fl → En → Prop) : List D → Prop := fun xs => onS (f xs v) (kI3 i e Q)
@[simp] theorem kM2_ap (i : Nat) (f : List D → D → Option (List D)) (v : D) (e : En) (Q : Fl → En → Prop) (xs : List D) : kM2 i f v e Q xs = onS (f xs v) (kI3 i e Q) := rfl
def kM1 (i : Nat) (f : List D → D → Option (List D)) (Q : Fl → En → Prop) : D → En → Prop := fun v e => onS (opL e[i]?) (kM2 i f v e Q)
@[simp] theorem kM1_ap (i : Nat) (f : List D → D → Option (List D)) (Q : Fl → En → Prop) (v : D) (e : En) : kM1 i f Q v e = onS (opL e[i]?) (kM2 i f v e Q) := rfl
def kM0 (i : Nat) (m : M D) (f : List D → D → Option (List D)) (e : En) (Q : Fl → En → Prop) : List D → Prop := fun _ => Wp m e (kM1 i f Q)
@[simp] theorem kM0_ap (i : Nat) (m : M D) (f : List D → D → Option (List D)) (e : En) (Q : Fl → En → Prop) (xs : List D) : kM0 i m f e Q xs = Wp m e (kM1 i f Q) := rfl
@[simp] theorem wp_mt (i : Nat) (m : M D) (f : List D → D → Option (List D)) (e : En) (Q : Fl → En → Prop) : Wp (sMt i m f) e Q = onS (opL e[i]?) (kM0 i m f e Q) := by
  unfold sMt
  rw [wp_bnd]
  show Owp (chkL i e) _ = _
  unfold chkL
  have key : ∀ v e1, Owp ((fun (v : D) (e : En) => match e[i]? with
      | some (.op (.list xs)) => (match f xs v with | some ys => .ok Fl.nx (e.set i (.op (.list ys))) | none => .no)
      | _ => Out.no) v e1) Q = kM1 i f Q v e1 := fun v e1 => by
    rw [kM1_ap]
    dsimp only
    generalize e1[i]? = t
    cases t with
    | none => rfl
    | some s =>
      cases s with
      | op d =>
        cases d <;> try rfl
        dsimp only [opL, onS, kM2]
        generalize f _ v = u
        cases u <;> rfl
      | _ => rfl
  generalize e[i]? = t
  cases t with
  | none => rfl
  | some s =>
    cases s with
    | op d =>
      cases d <;> try rfl
      simp only [owp_ok, wp_bnd, opL, onS, kM0]
      congr 1; funext v e1
      exact key v e1
    | _ => rfl
/-! iterations -/
def kIt (f : D → Option (List D)) (Q : List D → En → Prop) : D → En → Prop := fun d e => onS (f d) (kE Q e)
@[simp] theorem kIt_ap (f : D → Option (List D)) (Q : List D → En → Prop) (d : D) (e : En) : kIt f Q d e = onS (f d) (kE Q e) := rfl
def kIts (f : List D → Option (List D)) (Q : List D → En → Prop) : List D → En → Prop := fun d e => onS (f d) (kE Q e)
@[simp] theorem kIts_ap (f : List D → Option (List D)) (Q : List D → En → Prop) (d : List D) (e : En) : kIts f Q d e = onS (f d) (kE Q e) := rfl
@[simp] theorem wp_walkA (m : M D) (e : En) (Q : List D → En → Prop) : Wp (walkA m) e Q = Wp m e (kIt itemsA Q) := by
  simp only [walkA, wp_bnd, wp_lft]; rfl
@[simp] theorem wp_range1 (ms : List (M D)) (e : En) (Q : List D → En → Prop) : Wp (range1 ms) e Q = Wp (seqM ms) e (kIts rg1 Q) := by
  simp only [range1, wp_bnd, wp_lft]; rfl
@[simp] theorem wp_range2 (ms : List (M D)) (e : En) (Q : List D → En → Prop) : Wp (range2 ms) e Q = Wp (seqM ms) e (kIts rg2 Q) := by
  simp only [range2, wp_bnd, wp_lft]; rfl
@[simp] theorem wp_range3 (ms : List (M D)) (e : En) (Q : List D → En → Prop) : Wp (range3 ms) e Q = Wp (seqM ms) e (kIts rg3 Q) := by
  simp only [range3, wp_bnd, wp_lft]; rfl
@[simp] theorem wp_zipM (ms : List (M D)) (e : En) (Q : List D → En → Prop) : Wp (zipM ms) e Q = Wp (seqM ms) e (kIts zpD Q) := by
  simp only [zipM, wp_bnd, wp_lft]; rfl
@[simp] theorem wp_enumM (ms : List (M D)) (e : En) (Q : List D → En → Prop) : Wp (enumM ms) e Q = Wp (seqM ms) e (kIts enD Q) := by
  simp only [enumM, wp_bnd, wp_lft]; rfl
def kFor (tg : D → En → Option En) (body : M Fl) (Q : Fl → En → Prop) : List D → En → Prop := fun ds e => Wp (forL tg body ds) e Q
@[simp] theorem kFor_ap (tg : D → En → Option En) (body : M Fl) (Q : Fl → En → Prop) (ds : List D) (e : En) : kFor tg body Q ds e = Wp (forL tg body ds) e Q := rfl
@[simp] theorem wp_for (mi : M (List D)) (tg : D → En → Option En) (body : M Fl) (e : En) (Q : Fl → En → Prop) : Wp (sFor mi tg body) e Q = Wp mi e (kFor tg body Q) := by
  simp only [sFor, wp_bnd]; rfl
def kTurn (I : En → Prop) (Q : Fl → En → Prop) : Fl → En → Prop := fun f e => match f with | .nx => I e | .ct => I e | .bk => Q .nx e | .rt v => Q (.rt v) e | .ro v => Q (.ro v) e
@[simp] theorem kTurn_nx (I : En → Prop) (Q : Fl → En → Prop) (e : En) : kTurn I Q .nx e = I e := rfl
@[simp] theorem kTurn_ct (I : En → Prop) (Q : Fl → En → Prop) (e : En) : kTurn I Q .ct e = I e := rfl
@[simp] theorem kTurn_bk (I : En → Prop) (Q : Fl → En → Prop) (e : En) : kTurn I Q .bk e = Q .nx e := rfl
@[simp] theorem kTurn_rt (I : En → Prop) (Q : Fl → En → Prop) (v : D) (e : En) : kTurn I Q (.rt v) e = Q (.rt v) e := rfl
@[simp] theorem kTurn_ro (I : En → Prop) (Q : Fl → En → Prop) (v : D) (e : En) : kTurn I Q (.ro v) e = Q (.ro v) e := rfl
/-- a loop by an invariant of what is left -/
theorem wp_forL {tg : D → En → Option En} {body : M Fl} {Q : Fl → En → Prop} (I : List D → En → Prop)
    (step : ∀ d rest e, I (d :: rest) e → onS (tg d e) fun e1 => Wp body e1 (kTurn (I rest) Q))
    (fin : ∀ e, I [] e → Q .nx e) : ∀ (ds : List D) (e : En), I ds e → Wp (forL tg body ds) e Q
  | [], e, h => fin e h
  | d :: ds, e, h => by
    have h2 := step d ds e h
    unfold Wp forL
    cases ht : tg d e with
    | none => rw [ht] at h2; exact h2.elim
    | some e1 =>
      rw [ht] at h2
      have h2 : Owp (body e1) (kTurn (I ds) Q) := h2
      dsimp only
      cases hb : body e1 with
      | no => rw [hb] at h2; exact h2.elim
      | exc x e2 => rw [hb] at h2; exact h2.elim
      | ok f e2 =>
        rw [hb] at h2
        cases f with
        | nx => exact wp_forL I step fin ds e2 h2
        | ct => exact wp_forL I step fin ds e2 h2
        | bk => exact h2
        | rt v => exact h2
        | ro v => exact h2
def kElt (I : List D → En → Prop) (vs : List Nat) (acc : List D) : D → En → Prop := fun y e => I (acc ++ [y]) (wipeE e vs)
@[simp] theorem kElt_ap (I : List D → En → Prop) (vs : List Nat) (acc : List D) (y : D) (e : En) : kElt I vs acc y e = I (acc ++ [y]) (wipeE e vs) := rfl
def kCond (elt : M D) (I : List D → En → Prop) (vs : List Nat) (acc : List D) : Bool → En → Prop := fun b e => if b = true then Wp elt e (kElt I vs acc) else I acc (wipeE e vs)
@[simp] theorem kCond_t (elt : M D) (I : List D → En → Prop) (vs : List Nat) (acc : List D) (e : En) : kCond elt I vs acc true e = Wp elt e (kElt I vs acc) := rfl
@[simp] theorem kCond_f (elt : M D) (I : List D → En → Prop) (vs : List Nat) (acc : List D) (e : En) : kCond elt I vs acc false e = I acc (wipeE e vs) := rfl
theorem wp_cmpL {tg : D → En → Option En} {cond : M Bool} {elt : M D} {vs : List Nat} (I : List D → List D → En → Prop)
    (step : ∀ d rest acc e, I (d :: rest) acc e → onS (tg d e) fun e1 => Wp cond e1 (kCond elt (I rest) vs acc)) :
    ∀ (ds acc : List D) (e : En), I ds acc e → Wp (cmpL tg cond elt vs ds) e fun ys e' => I [] (acc ++ ys) e'
  | [], acc, e, h => by simpa [Wp, cmpL, ret] using h
  | d :: ds, acc, e, h => by
    have h2 := step d ds acc e h
    unfold Wp cmpL
    cases ht : tg d e with
    | none => rw [ht] at h2; exact h2.elim
    | some e1 =>
      rw [ht] at h2
      have h2 : Owp (cond e1) (kCond elt (I ds) vs acc) := h2
      dsimp only
      cases hc : cond e1 with
      | no => rw [hc] at h2; exact h2.elim
      | exc x e2 => rw [hc] at h2; exact h2.elim
      | ok b e2 =>
        rw [hc] at h2
        cases b with
        | false =>
          have ih := wp_cmpL I step ds acc _ h2
          unfold Wp at ih
          dsimp only
          cases hr : cmpL tg cond elt vs ds (wipeE e2 vs) with
          | ok ys e4 => rw [hr] at ih; exact ih
          | exc x e4 => rw [hr] at ih; exact ih.elim
          | no => rw [hr] at ih; exact ih.elim
        | true =>
          have h2 : Owp (elt e2) (kElt (I ds) vs acc) := h2
          dsimp only
          cases he : elt e2 with
          | no => rw [he] at h2; exact h2.elim
          | exc x e3 => rw [he] at h2; exact h2.elim
          | ok y e3 =>
            rw [he] at h2
            have ih := wp_cmpL I step ds _ _ h2
            unfold Wp at ih
            dsimp only
            cases hr : cmpL tg cond elt vs ds (wipeE e3 vs) with
            | ok ys e4 => rw [hr] at ih; simpa using ih
            | exc x e4 => rw [hr] at ih; exact ih.elim
            | no => rw [hr] at ih; exact ih.elim
/-- what a comprehension asks, once its source is there -/
def kLc (vs : List Nat) (tg : D → En → Option En) (cond : M Bool) (elt : M D) (Q : D → En → Prop) : List D → En → Prop := fun ds e =>
  Wp (cmpL tg cond elt vs ds) (wipeE e vs) fun ys e1 => ys.length ≤ sizeLine ∧ Q (.list ys) (restE e e1 vs)
@[simp] theorem wp_lc (vs : List Nat) (mi : M (List D)) (tg : D → En → Option En) (cond : M Bool) (elt : M D) (e : En) (Q : D → En → Prop) : Wp (lcM vs mi tg cond elt) e Q = Wp mi e (kLc vs tg cond elt Q) := by
  unfold lcM
  rw [wp_bnd]
  congr 1; funext ds e1
  show Owp (match cmpL tg cond elt vs ds (wipeE e1 vs) with
    | .ok ys e2 => if ys.length ≤ sizeLine then .ok (.list ys) (restE e1 e2 vs) else .no
    | _ => .no) Q = Owp (cmpL tg cond elt vs ds (wipeE e1 vs)) _
  cases cmpL tg cond elt vs ds (wipeE e1 vs) with
  | ok ys e2 =>
    show Owp (if ys.length ≤ sizeLine then Out.ok (PyData.list ys) (restE e1 e2 vs) else .no) Q = (ys.length ≤ sizeLine ∧ Q (.list ys) (restE e1 e2 vs))
    by_cases hl : ys.length ≤ sizeLine
    · rw [if_pos hl]; simp only [hl, true_and, owp_ok]
    · rw [if_neg hl]; simp only [hl, false_and]; rfl
  | exc x e2 => rfl
  | no => rfl
theorem kLc_of {vs : List Nat} {tg : D → En → Option En} {cond : M Bool} {elt : M D} {Q : D → En → Prop} {ds : List D} {e : En} (J : List D → List D → En → Prop) (h0 : J ds [] (wipeE e vs))
    (step : ∀ d rest acc e, J (d :: rest) acc e → onS (tg d e) fun e1 => Wp cond e1 (kCond elt (J rest) vs acc))
    (fin : ∀ acc e', J [] acc e' → acc.length ≤ sizeLine ∧ Q (.list acc) (restE e e' vs)) : kLc vs tg cond elt Q ds e :=
  Wp.mono (wp_cmpL J step ds [] _ h0) fun ys e1 h => fin ys e1 (by simpa using h)
end
def endF (mask : List Bool) (Q : D → List D → Prop) : Fl → En → Prop := fun f e => match f with
  | .rt d => onS (getO (posT mask 0) e) (Q d)
  | .nx => onS (getO (posT mask 0) e) (Q .none)
  | _ => False
def endO (mask : List Bool) (Q : D → List D → Prop) : Fl → En → Prop := fun f e => match f with
  | .ro d => onS (getO (posT mask 0) e) (Q d)
  | _ => False
@[simp] theorem endF_rt (mask : List Bool) (Q : D → List D → Prop) (d : D) (e : En) : endF mask Q (.rt d) e = onS (getO (posT mask 0) e) (Q d) := rfl
@[simp] theorem endF_nx (mask : List Bool) (Q : D → List D → Prop) (e : En) : endF mask Q .nx e = onS (getO (posT mask 0) e) (Q .none) := rfl
@[simp] theorem endO_ro (mask : List Bool) (Q : D → List D → Prop) (d : D) (e : En) : endO mask Q (.ro d) e = onS (getO (posT mask 0) e) (Q d) := rfl
def kBody (body : M Fl) (Q : Fl → En → Prop) : En → Prop := fun e => Wp body e Q
@[simp] theorem kBody_ap (body : M Fl) (Q : Fl → En → Prop) (e : En) : kBody body Q e = Wp body e Q := rfl
theorem fwp_mk (mask : List Bool) (n : Nat) (body : M Fl) (ds : List D) (Q : D → List D → Prop) : Fwp (mkF mask n body ds) Q = onS (initE mask ds n) (kBody body (endF mask Q)) := by
  unfold mkF
  cases initE mask ds n with
  | none => rfl
  | some e0 =>
    dsimp only [onS, kBody]
    unfold Wp
    cases body e0 with
    | no => rfl
    | exc x e => dsimp only; split <;> rfl
    | ok f e => cases f <;> dsimp only [owp_ok, endF] <;> (try cases getO (posT mask 0) e) <;> rfl
theorem fwp_mko (mask : List Bool) (n : Nat) (body : M Fl) (ds : List D) (Q : D → List D → Prop) : Fwp (mkFo mask n body ds) Q = onS (initE mask ds n) (kBody body (endO mask Q)) := by
  unfold mkFo
  cases initE mask ds n with
  | none => rfl
  | some e0 =>
    dsimp only [onS, kBody]
    unfold Wp
    cases body e0 with
    | no => rfl
    | exc x e => dsimp only; split <;> rfl
    | ok f e => cases f <;> dsimp only [owp_ok, endO] <;> (try cases getO (posT mask 0) e) <;> rfl
end ZZ

namespace ZZ
open PySem PySem.Spec L2
@[simp] theorem addD_i (i j : Int) : addD (.int i) (.int j) = some (.int (i + j)) := rfl
@[simp] theorem addD_s (i j : Str) : addD (.str i) (.str j) = if i.length + j.length ≤ sizeLine then some (.str (i ++ j)) else none := rfl
@[simp] theorem addD_t (i j : List D) : addD (.tuple i) (.tuple j) = if i.length + j.length ≤ sizeLine then some (.tuple (i ++ j)) else none := rfl
@[simp] theorem addD_l (i j : List D) : addD (.list i) (.list j) = if i.length + j.length ≤ sizeLine then some (.list (i ++ j)) else none := rfl
@[simp] theorem subD_i (i j : Int) : subD (.int i) (.int j) = some (.int (i - j)) := rfl
@[simp] theorem mulD_i (i j : Int) : mulD (.int i) (.int j) = if mulOk i j = true then some (.int (i * j)) else none := rfl
theorem mulOk_l {i j : Int} (h : -18446744073709551616 < i ∧ i < 18446744073709551616) : mulOk i j = true := by
  unfold mulOk
  simp only [Bool.or_eq_true, decide_eq_true_eq]
  left; left; omega
theorem mulOk_r {i j : Int} (h : -18446744073709551616 < j ∧ j < 18446744073709551616) : mulOk i j = true := by
  unfold mulOk
  simp only [Bool.or_eq_true, decide_eq_true_eq]
  left; right; omega
@[simp] theorem modD_i (i j : Int) : modD (.int i) (.int j) = if 0 < j then some (.int (i % j)) else none := rfl
theorem divD_i {i j : Int} (h : 0 < j ∧ j < 1073741824) : divD (.int i) (.int j) = some (.int (i / j)) := by simp only [divD, h, and_self, if_true]
theorem powD_i {i j : Int} (h : powOk i j = true) : powD (.int i) (.int j) = some (.int (i ^ j.toNat)) := by simp only [powD, h, if_true]
theorem powOk_s {i j : Int} (h0 : 0 ≤ j) (h1 : j ≤ 1000000) (h : -18446744073709551616 < i ∧ i < 18446744073709551616) : powOk i j = true := by
  unfold powOk
  have : i.natAbs < 2 ^ 64 := by omega
  simp [h0, h1, this]
theorem intBits_lt {i : Int} {n : Nat} (h0 : 0 < n) (h : i.natAbs < 2 ^ n) : Builtin.Int.intBits i ≤ n := by
  have : i.natAbs.log2 < n := by
    by_cases z : i.natAbs = 0
    · rw [z]; simpa using h0
    · exact (Nat.log2_lt z).mpr h
  unfold Builtin.Int.intBits
  split <;> omega
theorem powOk_b {i j : Int} {n : Nat} (hn : 0 < n) (h0 : 0 ≤ j) (h : i.natAbs < 2 ^ n) (h1 : (n : Int) * j ≤ 134217728) : powOk i j = true := by
  unfold powOk
  have hb := intBits_lt hn h
  have : (Builtin.Int.intBits i : Int) * j ≤ (n : Int) * j := Int.mul_le_mul_of_nonneg_right (by omega) h0
  simp only [Bool.and_eq_true, Bool.or_eq_true, decide_eq_true_eq]
  exact ⟨h0, .inr (by omega)⟩
@[simp] theorem ltD_i (i j : Int) : ltD (.int i) (.int j) = some (.bool (decide (i < j))) := rfl
@[simp] theorem ltD_s (i j : Str) : ltD (.str i) (.str j) = some (.bool (strLt i j)) := rfl
@[simp] theorem leD_i (i j : Int) : leD (.int i) (.int j) = some (.bool (decide (i ≤ j))) := rfl
@[simp] theorem gtD_i (i j : Int) : gtD (.int i) (.int j) = some (.bool (decide (j < i))) := rfl
@[simp] theorem geD_i (i j : Int) : geD (.int i) (.int j) = some (.bool (decide (j ≤ i))) := rfl
@[simp] theorem negD_i (i : Int) : negD (.int i) = some (.int (-i)) := rfl
@[simp] theorem isBD_b (i j : Bool) : isBD (.bool i) (.bool j) = some (.bool (decide (i = j))) := rfl
@[simp] theorem isnBD_b (i j : Bool) : isnBD (.bool i) (.bool j) = some (.bool (!decide (i = j))) := rfl
@[simp] theorem truD_b (b : Bool) : truD (.bool b) = some b := rfl
@[simp] theorem truD_i (i : Int) : truD (.int i) = some (i != 0) := rfl
@[simp] theorem truD_n : truD .none = some false := rfl
@[simp] theorem truD_l (ds : List D) : truD (.list ds) = some (!ds.isEmpty) := rfl
@[simp] theorem truD_t (ds : List D) : truD (.tuple ds) = some (!ds.isEmpty) := rfl
@[simp] theorem lenD_l (ds : List D) : lenD (.list ds) = some (.int ds.length) := rfl
@[simp] theorem lenD_t (ds : List D) : lenD (.tuple ds) = some (.int ds.length) := rfl
@[simp] theorem lenD_s (z : Str) : lenD (.str z) = if z.length ≤ sizeLine then some (.int z.length) else none := rfl
@[simp] theorem intD_i (i : Int) : intD (.int i) = some (.int i) := rfl
@[simp] theorem intD_b (b : Bool) : intD (.bool b) = some (.int (if b then 1 else 0)) := rfl
@[simp] theorem absD_i (i : Int) : absD (.int i) = some (.int (if i < 0 then -i else i)) := rfl
@[simp] theorem listD_l (ds : List D) : listD (.list ds) = some (.list ds) := rfl
@[simp] theorem listD_t (ds : List D) : listD (.tuple ds) = some (.list ds) := rfl
@[simp] theorem tupD_l (ds : List D) : tupD (.list ds) = some (.tuple ds) := rfl
@[simp] theorem tupD_t (ds : List D) : tupD (.tuple ds) = some (.tuple ds) := rfl
@[simp] theorem max2D_i (i j : Int) : max2D (.int i) (.int j) = some (.int (if j > i then j else i)) := rfl
@[simp] theorem min2D_i (i j : Int) : min2D (.int i) (.int j) = some (.int (if j < i then j else i)) := rfl
@[simp] theorem isiD_d (T : String) (d : D) : isiD T d = some (.bool (isiT T (tyD d))) := rfl
@[simp] theorem revD_l (ds : List D) : revD (.list ds) = some (.list ds.reverse) := rfl
@[simp] theorem slD_l (ds : List D) (l h : Option Int) : slD (.list ds) l h = some (.list (cutD ds l h)) := rfl
@[simp] theorem slD_t (ds : List D) (l h : Option Int) : slD (.tuple ds) l h = some (.tuple (cutD ds l h)) := rfl
@[simp] theorem itemsA_l (ds : List D) : itemsA (.list ds) = some ds := rfl
@[simp] theorem itemsA_t (ds : List D) : itemsA (.tuple ds) = some ds := rfl
@[simp] theorem itemsA_s (z : Str) : itemsA (.str z) = some (chrs z) := rfl
@[simp] theorem ixD_l (ds : List D) (i : Int) : ixD (.list ds) (.int i) = atI ds i := rfl
@[simp] theorem ixD_t (ds : List D) (i : Int) : ixD (.tuple ds) (.int i) = atI ds i := rfl
@[simp] theorem zpD_l (xs ys : List D) : zpD [.list xs, .list ys] = some (prs xs ys) := rfl
@[simp] theorem zpD_t (xs ys : List D) : zpD [.tuple xs, .tuple ys] = some (prs xs ys) := rfl
@[simp] theorem setT_t (is : List Nat) (ds : List D) (e : En) : setT is (.tuple ds) e = setNs is ds e := rfl
@[simp] theorem setTr_t (is : List Nat) (ds : List D) (e : En) : setTr is (.tuple ds) e = setNs is ds.reverse e := rfl
@[simp] theorem setNs_0 (e : En) : setNs [] [] e = some e := rfl
@[simp] theorem setNs_1 (i : Nat) (is : List Nat) (d : D) (ds : List D) (e : En) : setNs (i :: is) (d :: ds) e = (setN i d e).bind (setNs is ds) := rfl
theorem setN_of {i : Nat} {d : D} {e : En} (h : i < e.length) : setN i d e = some (e.set i (.fz d)) := by
  unfold setN
  rw [List.getElem?_eq_getElem h]
theorem setO_of {i : Nat} {d : D} {e : En} (h : i < e.length) : setO i d e = some (e.set i (.op d)) := by
  unfold setO
  rw [List.getElem?_eq_getElem h]
theorem atI_nn {α : Type} {xs : List α} {i : Int} {v : α} (h : 0 ≤ i) (hv : xs[i.toNat]? = some v) : atI xs i = some v := by
  have hl := (List.getElem?_eq_some_iff.mp hv).1
  unfold atI ixN
  rw [if_pos h, if_pos (by omega)]
  exact hv
end ZZ
namespace ZZ
open PySem PySem.Spec L2
@[simp] theorem setN_z (d : D) (s : Sl) (e : En) : setN 0 d (s :: e) = some (.fz d :: e) := rfl
@[simp] theorem setN_s (n : Nat) (d : D) (s : Sl) (e : En) : setN (n + 1) d (s :: e) = (setN n d e).map (s :: ·) := by
  unfold setN
  rw [List.getElem?_cons_succ]
  cases e[n]? <;> rfl
@[simp] theorem setO_z (d : D) (s : Sl) (e : En) : setO 0 d (s :: e) = some (.op d :: e) := rfl
@[simp] theorem setO_s (n : Nat) (d : D) (s : Sl) (e : En) : setO (n + 1) d (s :: e) = (setO n d e).map (s :: ·) := by
  unfold setO
  rw [List.getElem?_cons_succ]
  cases e[n]? <;> rfl
@[simp] theorem atI_z {α : Type} (x : α) (xs : List α) : atI (x :: xs) 0 = some x := by
  unfold atI ixN
  rw [if_pos (by omega), if_pos (by rw [List.length_cons]; omega)]
  rfl
end ZZ
namespace ZZ
open PySem PySem.Spec L2
theorem ixN_ok {n k : Nat} (h : k < n) : ixN n (k : Int) = some k := by
  unfold ixN
  rw [if_pos (by omega), if_pos (by omega)]
  rfl
theorem atI_lit {α : Type} {xs : List α} (k : Nat) {v : α} (h : xs[k]? = some v) : atI xs (k : Int) = some v := atI_nn (by omega) (by simpa using h)
@[simp] theorem atI_1 {α : Type} (x y : α) (xs : List α) : atI (x :: y :: xs) 1 = some y := atI_lit 1 rfl
@[simp] theorem atI_2 {α : Type} (x y z : α) (xs : List α) : atI (x :: y :: z :: xs) 2 = some z := atI_lit 2 rfl
@[simp] theorem atI_3 {α : Type} (x y z t : α) (xs : List α) : atI (x :: y :: z :: t :: xs) 3 = some t := atI_lit 3 rfl
@[simp] theorem atI_4 {α : Type} (x y z t u : α) (xs : List α) : atI (x :: y :: z :: t :: u :: xs) 4 = some u := atI_lit 4 rfl
theorem setIx_lit {xs : List D} (k : Nat) (h : k < xs.length) (v : D) : setIx xs (k : Int) v = some (xs.set k v) := by
  unfold setIx
  rw [ixN_ok h]; rfl
@[simp] theorem setIx_0 (x : D) (xs : List D) (v : D) : setIx (x :: xs) 0 v = some (v :: xs) := setIx_lit 0 (by simp) v
@[simp] theorem setIx_1 (x y : D) (xs : List D) (v : D) : setIx (x :: y :: xs) 1 v = some (x :: v :: xs) := setIx_lit 1 (by simp) v
@[simp] theorem setIx_2 (x y z : D) (xs : List D) (v : D) : setIx (x :: y :: z :: xs) 2 v = some (x :: y :: v :: xs) := setIx_lit 2 (by simp) v
/-- some one of a display is taken -/
theorem atI_some {α : Type} {xs : List α} {i : Int} (h0 : 0 ≤ i) (h : i < xs.length) : ∃ v, atI xs i = some v ∧ v ∈ xs := by
  have hl : i.toNat < xs.length := by omega
  exact ⟨xs[i.toNat], atI_nn h0 (List.getElem?_eq_getElem hl), List.getElem_mem hl⟩
end ZZ
namespace ZZ
open PySem PySem.Spec L2
theorem intsD_map : ∀ is : List Int, intsD (is.map PyData.int) = some is
  | [] => rfl
  | i :: is => by simp only [List.map_cons, intsD, intsD_map is, Option.map_some]
@[simp] theorem sumD_map (is : List Int) : sumD (.list (is.map PyData.int)) = some (.int is.sum) := by
  simp only [sumD, intsD_map, Option.map_some]
theorem cutD_map (is : List Int) (l h : Option Int) : ∃ js : List Int, cutD (is.map PyData.int) l h = js.map PyData.int := by
  unfold cutD
  rw [← List.map_drop, ← List.map_take]
  exact ⟨_, rfl⟩
theorem atI_map {is : List Int} {i : Int} (h0 : 0 ≤ i) (h : i < is.length) : ∃ z, atI (is.map PyData.int) i = some (.int z) := by
  obtain ⟨v, hv, hm⟩ := atI_some (xs := is.map PyData.int) h0 (by rw [List.length_map]; exact h)
  obtain ⟨z, _, rfl⟩ := List.mem_map.mp hm
  exact ⟨z, hv⟩
end ZZ
namespace ZZ
open PySem PySem.Spec L2
@[simp] theorem rg1_i (b : Int) : rg1 [.int b] = if rOk b = true then some (rng 0 b) else none := rfl
@[simp] theorem rg2_i (a b : Int) : rg2 [.int a, .int b] = if rOk a = true ∧ rOk b = true then some (rng a b) else none := rfl
theorem rOk_s {a : Int} (h : -1000000000000 ≤ a ∧ a ≤ 1000000000000) : rOk a = true := by
  unfold rOk
  rw [decide_eq_true_eq]; omega
theorem rng_drop_cons {a b : Int} {k : Nat} {d : D} {rest : List D} (h : (rng a b).drop k = d :: rest) : d = .int (a + k) ∧ rest = (rng a b).drop (k + 1) ∧ k < (b - a).toNat := by
  have hk : k < (rng a b).length := by
    apply Nat.lt_of_not_le
    intro hle
    rw [List.drop_eq_nil_of_le hle] at h; cases h
  have hc := List.drop_eq_getElem_cons hk
  rw [h] at hc
  injection hc with h1 h2
  have := rng_get (List.getElem?_eq_getElem hk)
  rw [← h1] at this
  exact ⟨this, h2, by rw [rng_len] at hk; exact hk⟩
theorem rng_drop_nil {a b : Int} {k : Nat} (h : (rng a b).drop k = []) : (b - a).toNat ≤ k := by
  rw [List.drop_eq_nil_iff, rng_len] at h; exact h
theorem lrgD_l (mk : List D → D) (a b : Int) : lrgD mk (.int a) (.int b) = if rgOk a b then some (mk (rng a b)) else none := rfl
theorem rgOk_s {a b : Int} (h : -1000000 ≤ a ∧ a ≤ 1000000 ∧ -1000000 ≤ b ∧ b ≤ 1000000) : rgOk a b = true := by
  unfold rgOk
  rw [decide_eq_true_eq]; omega
theorem lrgD_s (mk : List D → D) {a b : Int} (h : -1000000 ≤ a ∧ a ≤ 1000000 ∧ -1000000 ≤ b ∧ b ≤ 1000000) : lrgD mk (.int a) (.int b) = some (mk (rng a b)) := by
  rw [lrgD_l, rgOk_s h]; rfl
end ZZ
namespace ZZ
open PySem PySem.Spec L2
theorem shaped_i (i : Int) : SeqAt.shaped (.int i) = true := by simp [SeqAt.shaped, PyData.canLay0, PyData.depth]
theorem eqv_i (i j : Int) : PyData.eqv (.int i) (.int j) = decide (i = j) := by
  unfold PyData.eqv
  by_cases h : i = j <;> simp [h]
@[simp] theorem eqD_i (i j : Int) : eqD (.int i) (.int j) = some (.bool (decide (i = j))) := by
  show (if SeqAt.shaped (.int i) = true ∧ SeqAt.shaped (.int j) = true then some (PyData.bool (PyData.eqv (.int i) (.int j))) else none) = _
  rw [if_pos ⟨shaped_i i, shaped_i j⟩, eqv_i]
@[simp] theorem neD_i (i j : Int) : neD (.int i) (.int j) = some (.bool (!decide (i = j))) := by
  show (if SeqAt.shaped (.int i) = true ∧ SeqAt.shaped (.int j) = true then some (PyData.bool (!PyData.eqv (.int i) (.int j))) else none) = _
  rw [if_pos ⟨shaped_i i, shaped_i j⟩, eqv_i]
theorem eqD_s (i j : Str) : eqD (.str i) (.str j) = some (.bool (decide (i = j))) := rfl
theorem neD_s (i j : Str) : neD (.str i) (.str j) = some (.bool (!decide (i = j))) := rfl
end ZZ
namespace ZZ
open PySem PySem.Spec L2
@[simp] theorem isi_int_n : isiT "int" (tyD .none) = false := by decide
@[simp] theorem isi_int_b (b : Bool) : isiT "int" (tyD (.bool b)) = true := by show isiT "int" "bool" = true; decide
@[simp] theorem isi_int_i (i : Int) : isiT "int" (tyD (.int i)) = true := by show isiT "int" "int" = true; decide
@[simp] theorem isi_int_s (s : Str) : isiT "int" (tyD (.str s)) = false := by show isiT "int" "str" = false; decide
@[simp] theorem isi_int_l (xs : List D) : isiT "int" (tyD (.list xs)) = false := by show isiT "int" "list" = false; decide
@[simp] theorem isi_int_t (xs : List D) : isiT "int" (tyD (.tuple xs)) = false := by show isiT "int" "tuple" = false; decide
@[simp] theorem isi_int_d (xs : List (D × D)) : isiT "int" (tyD (.dict xs)) = false := by show isiT "int" "dict" = false; decide
@[simp] theorem isi_bool_n : isiT "bool" (tyD .none) = false := by decide
@[simp] theorem isi_bool_b (b : Bool) : isiT "bool" (tyD (.bool b)) = true := by show isiT "bool" "bool" = true; decide
@[simp] theorem isi_bool_i (i : Int) : isiT "bool" (tyD (.int i)) = false := by show isiT "bool" "int" = false; decide
@[simp] theorem isi_bool_s (s : Str) : isiT "bool" (tyD (.str s)) = false := by show isiT "bool" "str" = false; decide
@[simp] theorem isi_bool_l (xs : List D) : isiT "bool" (tyD (.list xs)) = false := by show isiT "bool" "list" = false; decide
@[simp] theorem isi_bool_t (xs : List D) : isiT "bool" (tyD (.tuple xs)) = false := by show isiT "bool" "tuple" = false; decide
@[simp] theorem isi_bool_d (xs : List (D × D)) : isiT "bool" (tyD (.dict xs)) = false := by show isiT "bool" "dict" = false; decide
@[simp] theorem isi_str_n : isiT "str" (tyD .none) = false := by decide
@[simp] theorem isi_str_b (b : Bool) : isiT "str" (tyD (.bool b)) = false := by show isiT "str" "bool" = false; decide
@[simp] theorem isi_str_i (i : Int) : isiT "str" (tyD (.int i)) = false := by show isiT "str" "int" = false; decide
@[simp] theorem isi_str_s (s : Str) : isiT "str" (tyD (.str s)) = true := by show isiT "str" "str" = true; decide
@[simp] theorem isi_str_l (xs : List D) : isiT "str" (tyD (.list xs)) = false := by show isiT "str" "list" = false; decide
@[simp] theorem isi_str_t (xs : List D) : isiT "str" (tyD (.tuple xs)) = false := by show isiT "str" "tuple" = false; decide
@[simp] theorem isi_str_d (xs : List (D × D)) : isiT "str" (tyD (.dict xs)) = false := by show isiT "str" "dict" = false; decide
@[simp] theorem isi_list_n : isiT "list" (tyD .none) = false := by decide
@[simp] theorem isi_list_b (b : Bool) : isiT "list" (tyD (.bool b)) = false := by show isiT "list" "bool" = false; decide
@[simp] theorem isi_list_i (i : Int) : isiT "list" (tyD (.int i)) = false := by show isiT "list" "int" = false; decide
@[simp] theorem isi_list_s (s : Str) : isiT "list" (tyD (.str s)) = false := by show isiT "list" "str" = false; decide
@[simp] theorem isi_list_l (xs : List D) : isiT "list" (tyD (.list xs)) = true := by show isiT "list" "list" = true; decide
@[simp] theorem isi_list_t (xs : List D) : isiT "list" (tyD (.tuple xs)) = false := by show isiT "list" "tuple" = false; decide
@[simp] theorem isi_list_d (xs : List (D × D)) : isiT "list" (tyD (.dict xs)) = false := by show isiT "list" "dict" = false; decide
@[simp] theorem isi_tuple_n : isiT "tuple" (tyD .none) = false := by decide
@[simp] theorem isi_tuple_b (b : Bool) : isiT "tuple" (tyD (.bool b)) = false := by show isiT "tuple" "bool" = false; decide
@[simp] theorem isi_tuple_i (i : Int) : isiT "tuple" (tyD (.int i)) = false := by show isiT "tuple" "int" = false; decide
@[simp] theorem isi_tuple_s (s : Str) : isiT "tuple" (tyD (.str s)) = false := by show isiT "tuple" "str" = false; decide
@[simp] theorem isi_tuple_l (xs : List D) : isiT "tuple" (tyD (.list xs)) = false := by show isiT "tuple" "list" = false; decide
@[simp] theorem isi_tuple_t (xs : List D) : isiT "tuple" (tyD (.tuple xs)) = true := by show isiT "tuple" "tuple" = true; decide
@[simp] theorem isi_tuple_d (xs : List (D × D)) : isiT "tuple" (tyD (.dict xs)) = false := by show isiT "tuple" "dict" = false; decide
@[simp] theorem isi_dict_n : isiT "dict" (tyD .none) = false := by decide
@[simp] theorem isi_dict_b (b : Bool) : isiT "dict" (tyD (.bool b)) = false := by show isiT "dict" "bool" = false; decide
@[simp] theorem isi_dict_i (i : Int) : isiT "dict" (tyD (.int i)) = false := by show isiT "dict" "int" = false; decide
@[simp] theorem isi_dict_s (s : Str) : isiT "dict" (tyD (.str s)) = false := by show isiT "dict" "str" = false; decide
@[simp] theorem isi_dict_l (xs : List D) : isiT "dict" (tyD (.list xs)) = false := by show isiT "dict" "list" = false; decide
@[simp] theorem isi_dict_t (xs : List D) : isiT "dict" (tyD (.tuple xs)) = false := by show isiT "dict" "tuple" = false; decide
@[simp] theorem isi_dict_d (xs : List (D × D)) : isiT "dict" (tyD (.dict xs)) = true := by show isiT "dict" "dict" = true; decide
theorem fo_eq {o : FO} {a : D} {b : List D} (h : Fwp o fun d os => d = a ∧ os = b) : o = .ok a b := by
  cases o with
  | ok d os => obtain ⟨rfl, rfl⟩ := h; rfl
  | exc x e => exact h.elim
  | no => exact h.elim
def isT (o : FO) : Bool := match o with | .ok (.bool true) [] => true | _ => false
def isF (o : FO) : Bool := match o with | .ok (.bool false) [] => true | _ => false
theorem of_isT {o : FO} (h : isT o = true) : o = .ok (.bool true) [] := by
  unfold isT at h
  split at h
  · rfl
  · cases h
theorem of_isF {o : FO} (h : isF o = true) : o = .ok (.bool false) [] := by
  unfold isF at h
  split at h
  · rfl
  · cases h
def intB : D → Bool
  | .int _ => true
  | _ => false
@[simp] theorem notD_b (b : Bool) : notD (.bool b) = some (.bool !b) := rfl
@[simp] theorem isNone_n : isNoneD .none = true := rfl
@[simp] theorem isNone_s (s : Str) : isNoneD (.str s) = false := rfl
@[simp] theorem isNone_i (s : Int) : isNoneD (.int s) = false := rfl
@[simp] theorem isNone_t (s : List D) : isNoneD (.tuple s) = false := rfl
@[simp] theorem isNone_l (s : List D) : isNoneD (.list s) = false := rfl
end ZZ
namespace ZZ
open PySem PySem.Spec L2
def bIs (b : Bool) (o : Option D) : Bool := match o with | some (.bool c) => c == b | _ => false
theorem of_bIs {b : Bool} {o : Option D} (h : bIs b o = true) : o = some (.bool b) := by
  unfold bIs at h
  split at h
  · rename_i c; have : c = b := by simpa using h
    rw [this]
  · cases h
end ZZ
namespace ZZ
open PySem PySem.Spec L2
def kPure (y : D) (e0 : En) (vs : List Nat) : D → En → Prop := fun z e => z = y ∧ wipeE e vs = e0
@[simp] theorem kPure_ap (y : D) (e0 : En) (vs : List Nat) (z : D) (e : En) : kPure y e0 vs z e = (z = y ∧ wipeE e vs = e0) := rfl
/-- [elt for target in ds], where nothing is drawn -/
theorem kLc_map {vs : List Nat} {tg : D → En → Option En} {elt : M D} {Q : D → En → Prop} {ds : List D} {e : En} (f : D → D)
    (h : ∀ d ∈ ds, onS (tg d (wipeE e vs)) fun e1 => Wp elt e1 (kPure (f d) (wipeE e vs) vs)) (hl : ds.length ≤ sizeLine) (q : Q (.list (ds.map f)) (restE e (wipeE e vs) vs)) : kLc vs tg (ret true) elt Q ds e := by
  refine kLc_of (fun rest acc e' => e' = wipeE e vs ∧ ∃ done, done ++ rest = ds ∧ acc = done.map f) ⟨rfl, [], rfl, rfl⟩ ?_ ?_
  · rintro d rest acc _ ⟨rfl, done, hd, rfl⟩
    have h1 := h d (by rw [← hd]; simp)
    cases ht : tg d (wipeE e vs) with
    | none => rw [ht] at h1; exact h1.elim
    | some e1 =>
      rw [ht] at h1
      simp only [onS_s, wp_ret, kCond_t] at h1 ⊢
      refine Wp.mono h1 ?_
      rintro y e2 ⟨rfl, h2⟩
      exact ⟨h2, done ++ [d], by rw [List.append_assoc]; exact hd, by rw [List.map_append]; rfl⟩
  · rintro acc _ ⟨rfl, done, hd, rfl⟩
    rw [List.append_nil] at hd
    subst hd
    exact ⟨by rw [List.length_map]; exact hl, q⟩
/-- [elt for target in ds if cond], where nothing is drawn -/
theorem kLc_filter {vs : List Nat} {tg : D → En → Option En} {cond : M Bool} {elt : M D} {Q : D → En → Prop} {ds : List D} {e : En} (p : D → Bool) (f : D → D)
    (h : ∀ d ∈ ds, onS (tg d (wipeE e vs)) fun e1 => Wp cond e1 fun b e2 => b = p d ∧ (b = true → Wp elt e2 (kPure (f d) (wipeE e vs) vs)) ∧ (b = false → wipeE e2 vs = wipeE e vs)) (hl : ds.length ≤ sizeLine) (q : Q (.list ((ds.filter p).map f)) (restE e (wipeE e vs) vs)) : kLc vs tg cond elt Q ds e := by
  refine kLc_of (fun rest acc e' => e' = wipeE e vs ∧ ∃ done, done ++ rest = ds ∧ acc = (done.filter p).map f) ⟨rfl, [], rfl, rfl⟩ ?_ ?_
  · rintro d rest acc _ ⟨rfl, done, hd, rfl⟩
    have h1 := h d (by rw [← hd]; simp)
    cases ht : tg d (wipeE e vs) with
    | none => rw [ht] at h1; exact h1.elim
    | some e1 =>
      rw [ht] at h1
      simp only [onS_s] at h1 ⊢
      refine Wp.mono h1 ?_
      rintro b e2 ⟨hb, h2, h3⟩
      cases b with
      | true =>
        refine Wp.mono (h2 rfl) ?_
        rintro y e3 ⟨rfl, h4⟩
        exact ⟨h4, done ++ [d], by rw [List.append_assoc]; exact hd, by rw [List.filter_append, List.map_append, List.filter_cons, ← hb]; rfl⟩
      | false => exact ⟨h3 rfl, done ++ [d], by rw [List.append_assoc]; exact hd, by rw [List.filter_append, List.filter_cons, ← hb]; simp⟩
  · rintro acc _ ⟨rfl, done, hd, rfl⟩
    rw [List.append_nil] at hd
    subst hd
    exact ⟨by rw [List.length_map]; exact Nat.le_trans (List.length_filter_le _ _) hl, q⟩
theorem boolsD_map (p : D → Bool) : ∀ ds : List D, boolsD (ds.map fun d => .bool (p d)) = some (ds.map p)
  | [] => rfl
  | d :: ds => by simp only [List.map_cons, boolsD, boolsD_map p ds, Option.map_some]
theorem allD_map (p : D → Bool) (ds : List D) : allD (.list (ds.map fun d => .bool (p d))) = some (.bool (ds.all p)) := by
  simp only [allD, boolsD_map, Option.map_some, List.all_map]
  rfl
theorem anyD_map (p : D → Bool) (ds : List D) : anyD (.list (ds.map fun d => .bool (p d))) = some (.bool (ds.any p)) := by
  simp only [anyD, boolsD_map, Option.map_some, List.any_map]
  rfl
end ZZ
namespace ZZ
open PySem PySem.Spec L2
theorem cutD_take (xs : List D) (k : Nat) : cutD xs none (some (k : Int)) = xs.take k := by
  unfold cutD
  rw [HT.sIx_none, HT.sIx_nat, List.drop_zero, Nat.sub_zero]
  by_cases h : k ≤ xs.length
  · rw [Nat.min_eq_left h]
  · rw [Nat.min_eq_right (by omega), List.take_length, List.take_of_length_le (by omega)]
theorem cutD_drop (xs : List D) (k : Nat) : cutD xs (some (k : Int)) none = xs.drop k := by
  unfold cutD
  rw [HT.sIx_none, HT.sIx_nat]
  by_cases h : k ≤ xs.length
  · rw [Nat.min_eq_left h, List.take_of_length_le (by rw [List.length_drop]; omega)]
  · rw [Nat.min_eq_right (by omega), List.drop_length, List.drop_eq_nil_of_le (by omega : xs.length ≤ k)]
    simp
theorem asc_pairs {fs : List Int} (hp : fs.Pairwise (· < ·)) : ∀ d ∈ prs (fs.map PyData.int) ((fs.map PyData.int).drop 1), ∃ a b : Int, d = .tuple [.int a, .int b] ∧ a < b := by
  induction fs with
  | nil => intro d hd; simp [prs] at hd
  | cons x t ih =>
    intro d hd
    cases t with
    | nil => simp [prs] at hd
    | cons y t =>
      rw [List.pairwise_cons] at hp
      have : prs ((x :: y :: t).map PyData.int) (((x :: y :: t).map PyData.int).drop 1) = .tuple [.int x, .int y] :: prs ((y :: t).map PyData.int) (((y :: t).map PyData.int).drop 1) := rfl
      rw [this] at hd
      rcases List.mem_cons.mp hd with rfl | hd
      · exact ⟨x, y, rfl, hp.1 y List.mem_cons_self⟩
      · exact ih hp.2 d hd
theorem prs_len (xs ys : List D) : (prs xs ys).length ≤ xs.length := by
  unfold prs
  rw [List.length_map, List.length_zip]
  omega
end ZZ
namespace ZZ
open PySem PySem.Spec PyProof.Rows L2
@[simp] theorem pickD_1 (a : D) : pickD [0] [a] = [a] := rfl
@[simp] theorem pickD_2 (a b : D) : pickD [0, 1] [a, b] = [a, b] := rfl
@[simp] theorem pickD_3 (a b c : D) : pickD [0, 1, 2] [a, b, c] = [a, b, c] := rfl
@[simp] theorem pickD_4 (a b c d : D) : pickD [0, 1, 2, 3] [a, b, c, d] = [a, b, c, d] := rfl
@[simp] theorem appD_l (xs : List D) (v : D) : appD xs v = if xs.length < sizeLine then some (xs ++ [v]) else none := rfl
@[simp] theorem extD_l (xs ys : List D) : extD xs (.list ys) = if xs.length + ys.length ≤ sizeLine then some (xs ++ ys) else none := rfl
/-- a text of whole numbers fits -/
theorem shown_ints (k : Nat) (hk : 0 < k) : ∀ fs : List Int, (∀ x ∈ fs, 0 ≤ x ∧ x < 10 ^ k) → ((PyData.shownAll (fs.map PyData.int)).map (·.length)).sum ≤ k * fs.length ∧ (PyData.shownAll (fs.map PyData.int)).length = fs.length
  | [], _ => by simp [PyData.shownAll]
  | x :: fs, h => by
    obtain ⟨h1, h2⟩ := shown_ints k hk fs fun y hy => h y (List.mem_cons_of_mem _ hy)
    have h3 := toString_length_le (h x List.mem_cons_self).1 hk (h x List.mem_cons_self).2
    simp only [List.map_cons, PyData.shownAll, PyData.shown, List.sum_cons, List.length_cons]
    refine ⟨?_, by omega⟩
    have e : k * (fs.length + 1) = k * fs.length + k := by rw [Nat.mul_add, Nat.mul_one]
    omega
theorem depth_ints : ∀ fs : List Int, PyData.depthAll (fs.map PyData.int) ≤ 1
  | [] => by simp [PyData.depthAll]
  | x :: fs => by
    have := depth_ints fs
    simp only [List.map_cons, PyData.depthAll, PyData.depth]
    omega
theorem showable_ints : ∀ fs : List Int, (∀ x ∈ fs, 0 ≤ x ∧ x < 10 ^ 18) → PyData.showableAll (fs.map PyData.int) = true
  | [], _ => by simp [PyData.showableAll]
  | x :: fs, h => by
    have h1 := h x List.mem_cons_self
    have h2 : x.natAbs.log2 < 1920 := by
      by_cases z : x.natAbs = 0
      · rw [z]; decide
      · have : x.natAbs < 2 ^ 64 := by omega
        have := (Nat.log2_lt z).mpr this
        omega
    simp only [List.map_cons, PyData.showableAll, PyData.showable, h2, decide_true, Bool.true_and]
    exact showable_ints fs fun y hy => h y (List.mem_cons_of_mem _ hy)
theorem canLay_ints : ∀ fs : List Int, PyData.canLayAll0 (fs.map PyData.int) = true
  | [] => by simp [PyData.canLayAll0]
  | f :: fs => by simp only [List.map_cons, PyData.canLayAll0, PyData.canLay0, canLay_ints fs, Bool.and_self]
theorem repr_ints {fs : List Int} (h : ∀ x ∈ fs, 0 ≤ x ∧ x < 10 ^ 18) (hl : fs.length ≤ 100000) : ∃ z, reprD (.tuple (fs.map PyData.int)) = some (.str z) := by
  unfold reprD
  have h1 := shown_ints 18 (by omega) fs h
  have h2 := tupleText_len_le (PyData.shownAll (fs.map PyData.int))
  refine ⟨_, if_pos ⟨by simp only [PyData.canLay0, canLay_ints], by simp only [PyData.showable, showable_ints fs h], ?_, ?_⟩⟩
  · have := depth_ints fs
    simp only [PyData.depth]; omega
  · simp only [PyData.shown]
    rw [sizeLine_eq]
    omega
end ZZ

namespace Vk10
open PySem PySem.Spec PyProof.Rows L2 ZZ
def potD (a b c : Int) : D := .list [.int a, .int b, .int c]
def PotOk (n : Int) (p : D) : Prop := ∃ a b c, p = potD a b c ∧ 0 ≤ a ∧ 0 ≤ b ∧ b < 2305843009213693921 ∧ 0 ≤ c ∧ c ≤ n
theorem take_ok {n u : Int} {p : D} (hp : PotOk n p) (hn : n ≤ 1152921504606846976) (h0 : 0 < u) (h1 : u < 1073741824) :
    Fwp (F__law_take [p, .int u]) fun d outs => ∃ k p', d = .int k ∧ outs = [p'] ∧ 0 ≤ k ∧ k < u ∧ PotOk (n + 1) p' := by
  obtain ⟨a, b, c, rfl, ha, hb, hb2, hc, hcn⟩ := hp
  unfold F__law_take
  rw [fwp_mk]
  simp -implicitDefEqProofs only [owp_ok, fwp_ok, onS_s, onS_n, gR_f, gQ_f, gQ_o, gL_f, gL_o, gO_o, opL_op, wp_ret, kE_ap, kSet_ap, ifM_t, ifM_f, wp_vr, wp_vq, wp_vl, wp_vo, kBin2_ap, kBin1_ap, wp_bin, kUna_ap, wp_una, kBL2_ap, kBL1_ap, kBL0_ap, wp_binL, wp_seq0, kS2_ap, kS1_ap, wp_seq1, kTup_ap, wp_tup, kLst_ap, wp_lst, wp_seqP0, kP3_ap, kP2_ap, kP1_ap, wp_seqP1, wp_noX, kDsp_ap, wp_dsp, kBool_ap, wp_boolOf, kN_ap, kNN_ap, wp_isN, wp_isNN, kC4_ap, kC3_ap, wp_bl, kC2_ap, kC1_ap, wp_chn, kTru_ap, wp_truM, kNot_ap, wp_notM, kIf_ap, wp_andM, wp_orM, wp_ite, wp_if, kAndV2_ap, kAndV_ap, wp_andV, kOrV2_ap, kOrV_ap, wp_orV, kNotV2_ap, kNotV_ap, wp_notV, wp_part0, kPart_ap, wp_part1, kSl2_ap, kSl1_ap, kSl0_ap, wp_sl, kSL3_ap, kSL2_ap, kSL1_ap, kSL0_ap, wp_slL, wp_evA0, kA1_ap, wp_evAv, kA2_ap, wp_evAio, kCall4_ap, kCall3_ap, kCall2_ap, kCall1_ap, wp_call, kK2_ap, kK1_ap, wp_callK, wp_nx, wp_bk, wp_ct, wp_no, kSeq_nx, kSeq_rt, kSeq_ro, kSeq_bk, kSeq_ct, wp_seq, kNx_ap, kExp_ap, kRt_ap, kRo_ap, wp_expr, wp_rt, wp_rtN, wp_ro, kAsg_ap, wp_asg, wp_asgO, kI3_ap, kI2_ap, kI1_ap, kI0b_ap, kI0_ap, wp_setIx, kM2_ap, kM1_ap, kM0_ap, wp_mt, kIt_ap, kIts_ap, wp_walkA, wp_range1, wp_range2, wp_range3, wp_zipM, wp_enumM, kFor_ap, wp_for, kTurn_nx, kTurn_ct, kTurn_bk, kTurn_rt, kTurn_ro, kElt_ap, kCond_t, kCond_f, wp_lc, endF_rt, endF_nx, endO_ro, kBody_ap, addD_i, addD_s, addD_t, addD_l, subD_i, mulD_i, modD_i, ltD_i, ltD_s, leD_i, gtD_i, geD_i, negD_i, isBD_b, isnBD_b, truD_b, truD_i, truD_n, truD_l, truD_t, lenD_l, lenD_t, lenD_s, intD_i, intD_b, absD_i, listD_l, listD_t, tupD_l, tupD_t, max2D_i, min2D_i, isiD_d, revD_l, slD_l, slD_t, itemsA_l, itemsA_t, itemsA_s, ixD_l, ixD_t, zpD_l, zpD_t, setT_t, setTr_t, setNs_0, setNs_1, setN_z, setN_s, setO_z, setO_s, atI_z, atI_1, atI_2, atI_3, atI_4, setIx_0, setIx_1, setIx_2, sumD_map, rg1_i, rg2_i, eqD_i, neD_i, isi_int_n, isi_int_b, isi_int_i, isi_int_s, isi_int_l, isi_int_t, isi_int_d, isi_bool_n, isi_bool_b, isi_bool_i, isi_bool_s, isi_bool_l, isi_bool_t, isi_bool_d, isi_str_n, isi_str_b, isi_str_i, isi_str_s, isi_str_l, isi_str_t, isi_str_d, isi_list_n, isi_list_b, isi_list_i, isi_list_s, isi_list_l, isi_list_t, isi_list_d, isi_tuple_n, isi_tuple_b, isi_tuple_i, isi_tuple_s, isi_tuple_l, isi_tuple_t, isi_tuple_d, isi_dict_n, isi_dict_b, isi_dict_i, isi_dict_s, isi_dict_l, isi_dict_t, isi_dict_d, notD_b, isNone_n, isNone_s, isNone_i, isNone_t, isNone_l, kPure_ap, pickD_1, pickD_2, pickD_3, pickD_4, appD_l, extD_l, List.getElem?_cons_zero, List.getElem?_cons_succ, List.set_cons_zero, List.set_cons_succ, initE, Option.map_some, List.replicate, posT, getO, fillA, putA, Bool.not_true, Bool.not_false, if_true, if_false, Bool.false_eq_true, Option.bind_some, wipeE, restE, reduceIte, List.length_cons, List.length_nil, fwp_mk, fwp_mko, Nat.reduceAdd, Nat.reduceSub, List.append_nil, List.nil_append, List.cons_append, List.reverse_cons, List.reverse_nil, Int.reduceLT, Int.reduceLE, Int.reduceAdd, Int.reduceMul, Int.reduceNeg, decide_true, decide_false, decide_eq_true_eq, Int.reduceEq, Option.map_none, and_self, and_true, true_and, Bool.true_and, Bool.false_and, Bool.or_true, Bool.or_false, List.isEmpty_nil, List.isEmpty_cons, List.getElem?_nil, Option.isSome_some, Int.cast_ofNat_Int, Bool.not_eq_true, Bool.and_true, Bool.and_self, Bool.true_or, Bool.false_or, Bool.and_false, Int.reduceSub, Int.natCast_zero, Int.reduceGT, Int.reduceGE, ne_eq, not_true_eq_false, not_false_eq_true, B__law_take, potD]
  refine ifM_d (fun h => ?_) (fun h => ?_)
  · simp -implicitDefEqProofs only [owp_ok, fwp_ok, onS_s, onS_n, gR_f, gQ_f, gQ_o, gL_f, gL_o, gO_o, opL_op, wp_ret, kE_ap, kSet_ap, ifM_t, ifM_f, wp_vr, wp_vq, wp_vl, wp_vo, kBin2_ap, kBin1_ap, wp_bin, kUna_ap, wp_una, kBL2_ap, kBL1_ap, kBL0_ap, wp_binL, wp_seq0, kS2_ap, kS1_ap, wp_seq1, kTup_ap, wp_tup, kLst_ap, wp_lst, wp_seqP0, kP3_ap, kP2_ap, kP1_ap, wp_seqP1, wp_noX, kDsp_ap, wp_dsp, kBool_ap, wp_boolOf, kN_ap, kNN_ap, wp_isN, wp_isNN, kC4_ap, kC3_ap, wp_bl, kC2_ap, kC1_ap, wp_chn, kTru_ap, wp_truM, kNot_ap, wp_notM, kIf_ap, wp_andM, wp_orM, wp_ite, wp_if, kAndV2_ap, kAndV_ap, wp_andV, kOrV2_ap, kOrV_ap, wp_orV, kNotV2_ap, kNotV_ap, wp_notV, wp_part0, kPart_ap, wp_part1, kSl2_ap, kSl1_ap, kSl0_ap, wp_sl, kSL3_ap, kSL2_ap, kSL1_ap, kSL0_ap, wp_slL, wp_evA0, kA1_ap, wp_evAv, kA2_ap, wp_evAio, kCall4_ap, kCall3_ap, kCall2_ap, kCall1_ap, wp_call, kK2_ap, kK1_ap, wp_callK, wp_nx, wp_bk, wp_ct, wp_no, kSeq_nx, kSeq_rt, kSeq_ro, kSeq_bk, kSeq_ct, wp_seq, kNx_ap, kExp_ap, kRt_ap, kRo_ap, wp_expr, wp_rt, wp_rtN, wp_ro, kAsg_ap, wp_asg, wp_asgO, kI3_ap, kI2_ap, kI1_ap, kI0b_ap, kI0_ap, wp_setIx, kM2_ap, kM1_ap, kM0_ap, wp_mt, kIt_ap, kIts_ap, wp_walkA, wp_range1, wp_range2, wp_range3, wp_zipM, wp_enumM, kFor_ap, wp_for, kTurn_nx, kTurn_ct, kTurn_bk, kTurn_rt, kTurn_ro, kElt_ap, kCond_t, kCond_f, wp_lc, endF_rt, endF_nx, endO_ro, kBody_ap, addD_i, addD_s, addD_t, addD_l, subD_i, mulD_i, modD_i, ltD_i, ltD_s, leD_i, gtD_i, geD_i, negD_i, isBD_b, isnBD_b, truD_b, truD_i, truD_n, truD_l, truD_t, lenD_l, lenD_t, lenD_s, intD_i, intD_b, absD_i, listD_l, listD_t, tupD_l, tupD_t, max2D_i, min2D_i, isiD_d, revD_l, slD_l, slD_t, itemsA_l, itemsA_t, itemsA_s, ixD_l, ixD_t, zpD_l, zpD_t, setT_t, setTr_t, setNs_0, setNs_1, setN_z, setN_s, setO_z, setO_s, atI_z, atI_1, atI_2, atI_3, atI_4, setIx_0, setIx_1, setIx_2, sumD_map, rg1_i, rg2_i, eqD_i, neD_i, isi_int_n, isi_int_b, isi_int_i, isi_int_s, isi_int_l, isi_int_t, isi_int_d, isi_bool_n, isi_bool_b, isi_bool_i, isi_bool_s, isi_bool_l, isi_bool_t, isi_bool_d, isi_str_n, isi_str_b, isi_str_i, isi_str_s, isi_str_l, isi_str_t, isi_str_d, isi_list_n, isi_list_b, isi_list_i, isi_list_s, isi_list_l, isi_list_t, isi_list_d, isi_tuple_n, isi_tuple_b, isi_tuple_i, isi_tuple_s, isi_tuple_l, isi_tuple_t, isi_tuple_d, isi_dict_n, isi_dict_b, isi_dict_i, isi_dict_s, isi_dict_l, isi_dict_t, isi_dict_d, notD_b, isNone_n, isNone_s, isNone_i, isNone_t, isNone_l, kPure_ap, pickD_1, pickD_2, pickD_3, pickD_4, appD_l, extD_l, List.getElem?_cons_zero, List.getElem?_cons_succ, List.set_cons_zero, List.set_cons_succ, initE, Option.map_some, List.replicate, posT, getO, fillA, putA, Bool.not_true, Bool.not_false, if_true, if_false, Bool.false_eq_true, Option.bind_some, wipeE, restE, reduceIte, List.length_cons, List.length_nil, fwp_mk, fwp_mko, Nat.reduceAdd, Nat.reduceSub, List.append_nil, List.nil_append, List.cons_append, List.reverse_cons, List.reverse_nil, Int.reduceLT, Int.reduceLE, Int.reduceAdd, Int.reduceMul, Int.reduceNeg, decide_true, decide_false, decide_eq_true_eq, Int.reduceEq, Option.map_none, and_self, and_true, true_and, Bool.true_and, Bool.false_and, Bool.or_true, Bool.or_false, List.isEmpty_nil, List.isEmpty_cons, List.getElem?_nil, Option.isSome_some, Int.cast_ofNat_Int, Bool.not_eq_true, Bool.and_true, Bool.and_self, Bool.true_or, Bool.false_or, Bool.and_false, Int.reduceSub, Int.natCast_zero, Int.reduceGT, Int.reduceGE, ne_eq, not_true_eq_false, not_false_eq_true, h0, divD_i ⟨h0, h1⟩]
    exact ⟨a % u, potD (a / u) b c, rfl, rfl, Int.emod_nonneg _ (by omega), Int.emod_lt_of_pos _ h0, a / u, b, c, rfl, Int.ediv_nonneg ha (by omega), hb, hb2, hc, by omega⟩
  · simp -implicitDefEqProofs only [owp_ok, fwp_ok, onS_s, onS_n, gR_f, gQ_f, gQ_o, gL_f, gL_o, gO_o, opL_op, wp_ret, kE_ap, kSet_ap, ifM_t, ifM_f, wp_vr, wp_vq, wp_vl, wp_vo, kBin2_ap, kBin1_ap, wp_bin, kUna_ap, wp_una, kBL2_ap, kBL1_ap, kBL0_ap, wp_binL, wp_seq0, kS2_ap, kS1_ap, wp_seq1, kTup_ap, wp_tup, kLst_ap, wp_lst, wp_seqP0, kP3_ap, kP2_ap, kP1_ap, wp_seqP1, wp_noX, kDsp_ap, wp_dsp, kBool_ap, wp_boolOf, kN_ap, kNN_ap, wp_isN, wp_isNN, kC4_ap, kC3_ap, wp_bl, kC2_ap, kC1_ap, wp_chn, kTru_ap, wp_truM, kNot_ap, wp_notM, kIf_ap, wp_andM, wp_orM, wp_ite, wp_if, kAndV2_ap, kAndV_ap, wp_andV, kOrV2_ap, kOrV_ap, wp_orV, kNotV2_ap, kNotV_ap, wp_notV, wp_part0, kPart_ap, wp_part1, kSl2_ap, kSl1_ap, kSl0_ap, wp_sl, kSL3_ap, kSL2_ap, kSL1_ap, kSL0_ap, wp_slL, wp_evA0, kA1_ap, wp_evAv, kA2_ap, wp_evAio, kCall4_ap, kCall3_ap, kCall2_ap, kCall1_ap, wp_call, kK2_ap, kK1_ap, wp_callK, wp_nx, wp_bk, wp_ct, wp_no, kSeq_nx, kSeq_rt, kSeq_ro, kSeq_bk, kSeq_ct, wp_seq, kNx_ap, kExp_ap, kRt_ap, kRo_ap, wp_expr, wp_rt, wp_rtN, wp_ro, kAsg_ap, wp_asg, wp_asgO, kI3_ap, kI2_ap, kI1_ap, kI0b_ap, kI0_ap, wp_setIx, kM2_ap, kM1_ap, kM0_ap, wp_mt, kIt_ap, kIts_ap, wp_walkA, wp_range1, wp_range2, wp_range3, wp_zipM, wp_enumM, kFor_ap, wp_for, kTurn_nx, kTurn_ct, kTurn_bk, kTurn_rt, kTurn_ro, kElt_ap, kCond_t, kCond_f, wp_lc, endF_rt, endF_nx, endO_ro, kBody_ap, addD_i, addD_s, addD_t, addD_l, subD_i, mulD_i, modD_i, ltD_i, ltD_s, leD_i, gtD_i, geD_i, negD_i, isBD_b, isnBD_b, truD_b, truD_i, truD_n, truD_l, truD_t, lenD_l, lenD_t, lenD_s, intD_i, intD_b, absD_i, listD_l, listD_t, tupD_l, tupD_t, max2D_i, min2D_i, isiD_d, revD_l, slD_l, slD_t, itemsA_l, itemsA_t, itemsA_s, ixD_l, ixD_t, zpD_l, zpD_t, setT_t, setTr_t, setNs_0, setNs_1, setN_z, setN_s, setO_z, setO_s, atI_z, atI_1, atI_2, atI_3, atI_4, setIx_0, setIx_1, setIx_2, sumD_map, rg1_i, rg2_i, eqD_i, neD_i, isi_int_n, isi_int_b, isi_int_i, isi_int_s, isi_int_l, isi_int_t, isi_int_d, isi_bool_n, isi_bool_b, isi_bool_i, isi_bool_s, isi_bool_l, isi_bool_t, isi_bool_d, isi_str_n, isi_str_b, isi_str_i, isi_str_s, isi_str_l, isi_str_t, isi_str_d, isi_list_n, isi_list_b, isi_list_i, isi_list_s, isi_list_l, isi_list_t, isi_list_d, isi_tuple_n, isi_tuple_b, isi_tuple_i, isi_tuple_s, isi_tuple_l, isi_tuple_t, isi_tuple_d, isi_dict_n, isi_dict_b, isi_dict_i, isi_dict_s, isi_dict_l, isi_dict_t, isi_dict_d, notD_b, isNone_n, isNone_s, isNone_i, isNone_t, isNone_l, kPure_ap, pickD_1, pickD_2, pickD_3, pickD_4, appD_l, extD_l, List.getElem?_cons_zero, List.getElem?_cons_succ, List.set_cons_zero, List.set_cons_succ, initE, Option.map_some, List.replicate, posT, getO, fillA, putA, Bool.not_true, Bool.not_false, if_true, if_false, Bool.false_eq_true, Option.bind_some, wipeE, restE, reduceIte, List.length_cons, List.length_nil, fwp_mk, fwp_mko, Nat.reduceAdd, Nat.reduceSub, List.append_nil, List.nil_append, List.cons_append, List.reverse_cons, List.reverse_nil, Int.reduceLT, Int.reduceLE, Int.reduceAdd, Int.reduceMul, Int.reduceNeg, decide_true, decide_false, decide_eq_true_eq, Int.reduceEq, Option.map_none, and_self, and_true, true_and, Bool.true_and, Bool.false_and, Bool.or_true, Bool.or_false, List.isEmpty_nil, List.isEmpty_cons, List.getElem?_nil, Option.isSome_some, Int.cast_ofNat_Int, Bool.not_eq_true, Bool.and_true, Bool.and_self, Bool.true_or, Bool.false_or, Bool.and_false, Int.reduceSub, Int.natCast_zero, Int.reduceGT, Int.reduceGE, ne_eq, not_true_eq_false, not_false_eq_true, h0]
    obtain ⟨pr, hpr, hm⟩ := atI_some (xs := [PyData.int 2147483647, PyData.int 2147483629, PyData.int 2147483587, PyData.int 2147483579, PyData.int 2147483563]) (i := (c + 1) % 5) (by omega) (by simp only [List.length_cons, List.length_nil]; omega)
    obtain ⟨q, rfl, hq0, hq1⟩ : ∃ q : Int, pr = .int q ∧ 0 < q ∧ q < 4294967296 := by
      simp only [List.mem_cons, List.not_mem_nil, or_false] at hm
      rcases hm with rfl | rfl | rfl | rfl | rfl <;> exact ⟨_, rfl, by decide, by decide⟩
    have hx : 97001 * (c + 1) * (c + 1) ≤ 97001 * 1152921504606846977 * 1152921504606846977 := by
      have : 97001 * (c + 1) ≤ 97001 * 1152921504606846977 := by omega
      exact Int.mul_le_mul this (by omega) (by omega) (by omega)
    have hx0 : 0 ≤ 97001 * (c + 1) * (c + 1) := Int.mul_nonneg (by omega) (by omega)
    have hpw : powOk (b + 97001 * (c + 1) * (c + 1) + 701) 3 = true := powOk_b (n := 200) (by omega) (by omega) (by omega) (by omega)
    simp -implicitDefEqProofs only [owp_ok, fwp_ok, onS_s, onS_n, gR_f, gQ_f, gQ_o, gL_f, gL_o, gO_o, opL_op, wp_ret, kE_ap, kSet_ap, ifM_t, ifM_f, wp_vr, wp_vq, wp_vl, wp_vo, kBin2_ap, kBin1_ap, wp_bin, kUna_ap, wp_una, kBL2_ap, kBL1_ap, kBL0_ap, wp_binL, wp_seq0, kS2_ap, kS1_ap, wp_seq1, kTup_ap, wp_tup, kLst_ap, wp_lst, wp_seqP0, kP3_ap, kP2_ap, kP1_ap, wp_seqP1, wp_noX, kDsp_ap, wp_dsp, kBool_ap, wp_boolOf, kN_ap, kNN_ap, wp_isN, wp_isNN, kC4_ap, kC3_ap, wp_bl, kC2_ap, kC1_ap, wp_chn, kTru_ap, wp_truM, kNot_ap, wp_notM, kIf_ap, wp_andM, wp_orM, wp_ite, wp_if, kAndV2_ap, kAndV_ap, wp_andV, kOrV2_ap, kOrV_ap, wp_orV, kNotV2_ap, kNotV_ap, wp_notV, wp_part0, kPart_ap, wp_part1, kSl2_ap, kSl1_ap, kSl0_ap, wp_sl, kSL3_ap, kSL2_ap, kSL1_ap, kSL0_ap, wp_slL, wp_evA0, kA1_ap, wp_evAv, kA2_ap, wp_evAio, kCall4_ap, kCall3_ap, kCall2_ap, kCall1_ap, wp_call, kK2_ap, kK1_ap, wp_callK, wp_nx, wp_bk, wp_ct, wp_no, kSeq_nx, kSeq_rt, kSeq_ro, kSeq_bk, kSeq_ct, wp_seq, kNx_ap, kExp_ap, kRt_ap, kRo_ap, wp_expr, wp_rt, wp_rtN, wp_ro, kAsg_ap, wp_asg, wp_asgO, kI3_ap, kI2_ap, kI1_ap, kI0b_ap, kI0_ap, wp_setIx, kM2_ap, kM1_ap, kM0_ap, wp_mt, kIt_ap, kIts_ap, wp_walkA, wp_range1, wp_range2, wp_range3, wp_zipM, wp_enumM, kFor_ap, wp_for, kTurn_nx, kTurn_ct, kTurn_bk, kTurn_rt, kTurn_ro, kElt_ap, kCond_t, kCond_f, wp_lc, endF_rt, endF_nx, endO_ro, kBody_ap, addD_i, addD_s, addD_t, addD_l, subD_i, mulD_i, modD_i, ltD_i, ltD_s, leD_i, gtD_i, geD_i, negD_i, isBD_b, isnBD_b, truD_b, truD_i, truD_n, truD_l, truD_t, lenD_l, lenD_t, lenD_s, intD_i, intD_b, absD_i, listD_l, listD_t, tupD_l, tupD_t, max2D_i, min2D_i, isiD_d, revD_l, slD_l, slD_t, itemsA_l, itemsA_t, itemsA_s, ixD_l, ixD_t, zpD_l, zpD_t, setT_t, setTr_t, setNs_0, setNs_1, setN_z, setN_s, setO_z, setO_s, atI_z, atI_1, atI_2, atI_3, atI_4, setIx_0, setIx_1, setIx_2, sumD_map, rg1_i, rg2_i, eqD_i, neD_i, isi_int_n, isi_int_b, isi_int_i, isi_int_s, isi_int_l, isi_int_t, isi_int_d, isi_bool_n, isi_bool_b, isi_bool_i, isi_bool_s, isi_bool_l, isi_bool_t, isi_bool_d, isi_str_n, isi_str_b, isi_str_i, isi_str_s, isi_str_l, isi_str_t, isi_str_d, isi_list_n, isi_list_b, isi_list_i, isi_list_s, isi_list_l, isi_list_t, isi_list_d, isi_tuple_n, isi_tuple_b, isi_tuple_i, isi_tuple_s, isi_tuple_l, isi_tuple_t, isi_tuple_d, isi_dict_n, isi_dict_b, isi_dict_i, isi_dict_s, isi_dict_l, isi_dict_t, isi_dict_d, notD_b, isNone_n, isNone_s, isNone_i, isNone_t, isNone_l, kPure_ap, pickD_1, pickD_2, pickD_3, pickD_4, appD_l, extD_l, List.getElem?_cons_zero, List.getElem?_cons_succ, List.set_cons_zero, List.set_cons_succ, initE, Option.map_some, List.replicate, posT, getO, fillA, putA, Bool.not_true, Bool.not_false, if_true, if_false, Bool.false_eq_true, Option.bind_some, wipeE, restE, reduceIte, List.length_cons, List.length_nil, fwp_mk, fwp_mko, Nat.reduceAdd, Nat.reduceSub, List.append_nil, List.nil_append, List.cons_append, List.reverse_cons, List.reverse_nil, Int.reduceLT, Int.reduceLE, Int.reduceAdd, Int.reduceMul, Int.reduceNeg, decide_true, decide_false, decide_eq_true_eq, Int.reduceEq, Option.map_none, and_self, and_true, true_and, Bool.true_and, Bool.false_and, Bool.or_true, Bool.or_false, List.isEmpty_nil, List.isEmpty_cons, List.getElem?_nil, Option.isSome_some, Int.cast_ofNat_Int, Bool.not_eq_true, Bool.and_true, Bool.and_self, Bool.true_or, Bool.false_or, Bool.and_false, Int.reduceSub, Int.natCast_zero, Int.reduceGT, Int.reduceGE, ne_eq, not_true_eq_false, not_false_eq_true, hpr, mulOk_l (i := 97001) (j := c + 1) (by omega), mulOk_r (i := 97001 * (c + 1)) (j := c + 1) (by omega), powD_i hpw, hq0]
    generalize hy : (b + 97001 * (c + 1) * (c + 1) + 701) ^ (3 : Int).toNat % q = y
    have hy0 : 0 ≤ y := by rw [← hy]; exact Int.emod_nonneg _ (by omega)
    have hy1 : y < q := by rw [← hy]; exact Int.emod_lt_of_pos _ hq0
    clear hy
    simp -implicitDefEqProofs only [owp_ok, fwp_ok, onS_s, onS_n, gR_f, gQ_f, gQ_o, gL_f, gL_o, gO_o, opL_op, wp_ret, kE_ap, kSet_ap, ifM_t, ifM_f, wp_vr, wp_vq, wp_vl, wp_vo, kBin2_ap, kBin1_ap, wp_bin, kUna_ap, wp_una, kBL2_ap, kBL1_ap, kBL0_ap, wp_binL, wp_seq0, kS2_ap, kS1_ap, wp_seq1, kTup_ap, wp_tup, kLst_ap, wp_lst, wp_seqP0, kP3_ap, kP2_ap, kP1_ap, wp_seqP1, wp_noX, kDsp_ap, wp_dsp, kBool_ap, wp_boolOf, kN_ap, kNN_ap, wp_isN, wp_isNN, kC4_ap, kC3_ap, wp_bl, kC2_ap, kC1_ap, wp_chn, kTru_ap, wp_truM, kNot_ap, wp_notM, kIf_ap, wp_andM, wp_orM, wp_ite, wp_if, kAndV2_ap, kAndV_ap, wp_andV, kOrV2_ap, kOrV_ap, wp_orV, kNotV2_ap, kNotV_ap, wp_notV, wp_part0, kPart_ap, wp_part1, kSl2_ap, kSl1_ap, kSl0_ap, wp_sl, kSL3_ap, kSL2_ap, kSL1_ap, kSL0_ap, wp_slL, wp_evA0, kA1_ap, wp_evAv, kA2_ap, wp_evAio, kCall4_ap, kCall3_ap, kCall2_ap, kCall1_ap, wp_call, kK2_ap, kK1_ap, wp_callK, wp_nx, wp_bk, wp_ct, wp_no, kSeq_nx, kSeq_rt, kSeq_ro, kSeq_bk, kSeq_ct, wp_seq, kNx_ap, kExp_ap, kRt_ap, kRo_ap, wp_expr, wp_rt, wp_rtN, wp_ro, kAsg_ap, wp_asg, wp_asgO, kI3_ap, kI2_ap, kI1_ap, kI0b_ap, kI0_ap, wp_setIx, kM2_ap, kM1_ap, kM0_ap, wp_mt, kIt_ap, kIts_ap, wp_walkA, wp_range1, wp_range2, wp_range3, wp_zipM, wp_enumM, kFor_ap, wp_for, kTurn_nx, kTurn_ct, kTurn_bk, kTurn_rt, kTurn_ro, kElt_ap, kCond_t, kCond_f, wp_lc, endF_rt, endF_nx, endO_ro, kBody_ap, addD_i, addD_s, addD_t, addD_l, subD_i, mulD_i, modD_i, ltD_i, ltD_s, leD_i, gtD_i, geD_i, negD_i, isBD_b, isnBD_b, truD_b, truD_i, truD_n, truD_l, truD_t, lenD_l, lenD_t, lenD_s, intD_i, intD_b, absD_i, listD_l, listD_t, tupD_l, tupD_t, max2D_i, min2D_i, isiD_d, revD_l, slD_l, slD_t, itemsA_l, itemsA_t, itemsA_s, ixD_l, ixD_t, zpD_l, zpD_t, setT_t, setTr_t, setNs_0, setNs_1, setN_z, setN_s, setO_z, setO_s, atI_z, atI_1, atI_2, atI_3, atI_4, setIx_0, setIx_1, setIx_2, sumD_map, rg1_i, rg2_i, eqD_i, neD_i, isi_int_n, isi_int_b, isi_int_i, isi_int_s, isi_int_l, isi_int_t, isi_int_d, isi_bool_n, isi_bool_b, isi_bool_i, isi_bool_s, isi_bool_l, isi_bool_t, isi_bool_d, isi_str_n, isi_str_b, isi_str_i, isi_str_s, isi_str_l, isi_str_t, isi_str_d, isi_list_n, isi_list_b, isi_list_i, isi_list_s, isi_list_l, isi_list_t, isi_list_d, isi_tuple_n, isi_tuple_b, isi_tuple_i, isi_tuple_s, isi_tuple_l, isi_tuple_t, isi_tuple_d, isi_dict_n, isi_dict_b, isi_dict_i, isi_dict_s, isi_dict_l, isi_dict_t, isi_dict_d, notD_b, isNone_n, isNone_s, isNone_i, isNone_t, isNone_l, kPure_ap, pickD_1, pickD_2, pickD_3, pickD_4, appD_l, extD_l, List.getElem?_cons_zero, List.getElem?_cons_succ, List.set_cons_zero, List.set_cons_succ, initE, Option.map_some, List.replicate, posT, getO, fillA, putA, Bool.not_true, Bool.not_false, if_true, if_false, Bool.false_eq_true, Option.bind_some, wipeE, restE, reduceIte, List.length_cons, List.length_nil, fwp_mk, fwp_mko, Nat.reduceAdd, Nat.reduceSub, List.append_nil, List.nil_append, List.cons_append, List.reverse_cons, List.reverse_nil, Int.reduceLT, Int.reduceLE, Int.reduceAdd, Int.reduceMul, Int.reduceNeg, decide_true, decide_false, decide_eq_true_eq, Int.reduceEq, Option.map_none, and_self, and_true, true_and, Bool.true_and, Bool.false_and, Bool.or_true, Bool.or_false, List.isEmpty_nil, List.isEmpty_cons, List.getElem?_nil, Option.isSome_some, Int.cast_ofNat_Int, Bool.not_eq_true, Bool.and_true, Bool.and_self, Bool.true_or, Bool.false_or, Bool.and_false, Int.reduceSub, Int.natCast_zero, Int.reduceGT, Int.reduceGE, ne_eq, not_true_eq_false, not_false_eq_true, mulOk_l (i := 811) (j := c + 1) (by omega), mulOk_l (i := y) (j := y % 11003 + 811 * (c + 1)) (by omega), divD_i (j := 1009) (by decide), h0]
    exact ⟨_, potD a b (c + 1), rfl, rfl, Int.emod_nonneg _ (by omega), Int.emod_lt_of_pos _ h0, a, b, c + 1, rfl, ha, hb, hb2, by omega, by omega⟩
theorem of_ok {n : Int} {p : D} {ds : List D} (hp : PotOk n p) (hn : n ≤ 1152921504606846976) (h0 : 0 < ds.length) (h1 : ds.length < 1000000) :
    Fwp (F__law_of [p, .list ds]) fun d outs => ∃ p', d ∈ ds ∧ outs = [p'] ∧ PotOk (n + 1) p' := by
  unfold F__law_of
  rw [fwp_mk]
  simp -implicitDefEqProofs only [owp_ok, fwp_ok, onS_s, onS_n, gR_f, gQ_f, gQ_o, gL_f, gL_o, gO_o, opL_op, wp_ret, kE_ap, kSet_ap, ifM_t, ifM_f, wp_vr, wp_vq, wp_vl, wp_vo, kBin2_ap, kBin1_ap, wp_bin, kUna_ap, wp_una, kBL2_ap, kBL1_ap, kBL0_ap, wp_binL, wp_seq0, kS2_ap, kS1_ap, wp_seq1, kTup_ap, wp_tup, kLst_ap, wp_lst, wp_seqP0, kP3_ap, kP2_ap, kP1_ap, wp_seqP1, wp_noX, kDsp_ap, wp_dsp, kBool_ap, wp_boolOf, kN_ap, kNN_ap, wp_isN, wp_isNN, kC4_ap, kC3_ap, wp_bl, kC2_ap, kC1_ap, wp_chn, kTru_ap, wp_truM, kNot_ap, wp_notM, kIf_ap, wp_andM, wp_orM, wp_ite, wp_if, kAndV2_ap, kAndV_ap, wp_andV, kOrV2_ap, kOrV_ap, wp_orV, kNotV2_ap, kNotV_ap, wp_notV, wp_part0, kPart_ap, wp_part1, kSl2_ap, kSl1_ap, kSl0_ap, wp_sl, kSL3_ap, kSL2_ap, kSL1_ap, kSL0_ap, wp_slL, wp_evA0, kA1_ap, wp_evAv, kA2_ap, wp_evAio, kCall4_ap, kCall3_ap, kCall2_ap, kCall1_ap, wp_call, kK2_ap, kK1_ap, wp_callK, wp_nx, wp_bk, wp_ct, wp_no, kSeq_nx, kSeq_rt, kSeq_ro, kSeq_bk, kSeq_ct, wp_seq, kNx_ap, kExp_ap, kRt_ap, kRo_ap, wp_expr, wp_rt, wp_rtN, wp_ro, kAsg_ap, wp_asg, wp_asgO, kI3_ap, kI2_ap, kI1_ap, kI0b_ap, kI0_ap, wp_setIx, kM2_ap, kM1_ap, kM0_ap, wp_mt, kIt_ap, kIts_ap, wp_walkA, wp_range1, wp_range2, wp_range3, wp_zipM, wp_enumM, kFor_ap, wp_for, kTurn_nx, kTurn_ct, kTurn_bk, kTurn_rt, kTurn_ro, kElt_ap, kCond_t, kCond_f, wp_lc, endF_rt, endF_nx, endO_ro, kBody_ap, addD_i, addD_s, addD_t, addD_l, subD_i, mulD_i, modD_i, ltD_i, ltD_s, leD_i, gtD_i, geD_i, negD_i, isBD_b, isnBD_b, truD_b, truD_i, truD_n, truD_l, truD_t, lenD_l, lenD_t, lenD_s, intD_i, intD_b, absD_i, listD_l, listD_t, tupD_l, tupD_t, max2D_i, min2D_i, isiD_d, revD_l, slD_l, slD_t, itemsA_l, itemsA_t, itemsA_s, ixD_l, ixD_t, zpD_l, zpD_t, setT_t, setTr_t, setNs_0, setNs_1, setN_z, setN_s, setO_z, setO_s, atI_z, atI_1, atI_2, atI_3, atI_4, setIx_0, setIx_1, setIx_2, sumD_map, rg1_i, rg2_i, eqD_i, neD_i, isi_int_n, isi_int_b, isi_int_i, isi_int_s, isi_int_l, isi_int_t, isi_int_d, isi_bool_n, isi_bool_b, isi_bool_i, isi_bool_s, isi_bool_l, isi_bool_t, isi_bool_d, isi_str_n, isi_str_b, isi_str_i, isi_str_s, isi_str_l, isi_str_t, isi_str_d, isi_list_n, isi_list_b, isi_list_i, isi_list_s, isi_list_l, isi_list_t, isi_list_d, isi_tuple_n, isi_tuple_b, isi_tuple_i, isi_tuple_s, isi_tuple_l, isi_tuple_t, isi_tuple_d, isi_dict_n, isi_dict_b, isi_dict_i, isi_dict_s, isi_dict_l, isi_dict_t, isi_dict_d, notD_b, isNone_n, isNone_s, isNone_i, isNone_t, isNone_l, kPure_ap, pickD_1, pickD_2, pickD_3, pickD_4, appD_l, extD_l, List.getElem?_cons_zero, List.getElem?_cons_succ, List.set_cons_zero, List.set_cons_succ, initE, Option.map_some, List.replicate, posT, getO, fillA, putA, Bool.not_true, Bool.not_false, if_true, if_false, Bool.false_eq_true, Option.bind_some, wipeE, restE, reduceIte, List.length_cons, List.length_nil, fwp_mk, fwp_mko, Nat.reduceAdd, Nat.reduceSub, List.append_nil, List.nil_append, List.cons_append, List.reverse_cons, List.reverse_nil, Int.reduceLT, Int.reduceLE, Int.reduceAdd, Int.reduceMul, Int.reduceNeg, decide_true, decide_false, decide_eq_true_eq, Int.reduceEq, Option.map_none, and_self, and_true, true_and, Bool.true_and, Bool.false_and, Bool.or_true, Bool.or_false, List.isEmpty_nil, List.isEmpty_cons, List.getElem?_nil, Option.isSome_some, Int.cast_ofNat_Int, Bool.not_eq_true, Bool.and_true, Bool.and_self, Bool.true_or, Bool.false_or, Bool.and_false, Int.reduceSub, Int.natCast_zero, Int.reduceGT, Int.reduceGE, ne_eq, not_true_eq_false, not_false_eq_true, B__law_of]
  refine (take_ok (u := ds.length) hp hn (by omega) (by omega)).mono ?_
  rintro _ _ ⟨k, p', rfl, rfl, hk0, hk1, hp'⟩
  obtain ⟨v, hv, hm⟩ := atI_some (xs := ds) hk0 hk1
  simp -implicitDefEqProofs only [owp_ok, fwp_ok, onS_s, onS_n, gR_f, gQ_f, gQ_o, gL_f, gL_o, gO_o, opL_op, wp_ret, kE_ap, kSet_ap, ifM_t, ifM_f, wp_vr, wp_vq, wp_vl, wp_vo, kBin2_ap, kBin1_ap, wp_bin, kUna_ap, wp_una, kBL2_ap, kBL1_ap, kBL0_ap, wp_binL, wp_seq0, kS2_ap, kS1_ap, wp_seq1, kTup_ap, wp_tup, kLst_ap, wp_lst, wp_seqP0, kP3_ap, kP2_ap, kP1_ap, wp_seqP1, wp_noX, kDsp_ap, wp_dsp, kBool_ap, wp_boolOf, kN_ap, kNN_ap, wp_isN, wp_isNN, kC4_ap, kC3_ap, wp_bl, kC2_ap, kC1_ap, wp_chn, kTru_ap, wp_truM, kNot_ap, wp_notM, kIf_ap, wp_andM, wp_orM, wp_ite, wp_if, kAndV2_ap, kAndV_ap, wp_andV, kOrV2_ap, kOrV_ap, wp_orV, kNotV2_ap, kNotV_ap, wp_notV, wp_part0, kPart_ap, wp_part1, kSl2_ap, kSl1_ap, kSl0_ap, wp_sl, kSL3_ap, kSL2_ap, kSL1_ap, kSL0_ap, wp_slL, wp_evA0, kA1_ap, wp_evAv, kA2_ap, wp_evAio, kCall4_ap, kCall3_ap, kCall2_ap, kCall1_ap, wp_call, kK2_ap, kK1_ap, wp_callK, wp_nx, wp_bk, wp_ct, wp_no, kSeq_nx, kSeq_rt, kSeq_ro, kSeq_bk, kSeq_ct, wp_seq, kNx_ap, kExp_ap, kRt_ap, kRo_ap, wp_expr, wp_rt, wp_rtN, wp_ro, kAsg_ap, wp_asg, wp_asgO, kI3_ap, kI2_ap, kI1_ap, kI0b_ap, kI0_ap, wp_setIx, kM2_ap, kM1_ap, kM0_ap, wp_mt, kIt_ap, kIts_ap, wp_walkA, wp_range1, wp_range2, wp_range3, wp_zipM, wp_enumM, kFor_ap, wp_for, kTurn_nx, kTurn_ct, kTurn_bk, kTurn_rt, kTurn_ro, kElt_ap, kCond_t, kCond_f, wp_lc, endF_rt, endF_nx, endO_ro, kBody_ap, addD_i, addD_s, addD_t, addD_l, subD_i, mulD_i, modD_i, ltD_i, ltD_s, leD_i, gtD_i, geD_i, negD_i, isBD_b, isnBD_b, truD_b, truD_i, truD_n, truD_l, truD_t, lenD_l, lenD_t, lenD_s, intD_i, intD_b, absD_i, listD_l, listD_t, tupD_l, tupD_t, max2D_i, min2D_i, isiD_d, revD_l, slD_l, slD_t, itemsA_l, itemsA_t, itemsA_s, ixD_l, ixD_t, zpD_l, zpD_t, setT_t, setTr_t, setNs_0, setNs_1, setN_z, setN_s, setO_z, setO_s, atI_z, atI_1, atI_2, atI_3, atI_4, setIx_0, setIx_1, setIx_2, sumD_map, rg1_i, rg2_i, eqD_i, neD_i, isi_int_n, isi_int_b, isi_int_i, isi_int_s, isi_int_l, isi_int_t, isi_int_d, isi_bool_n, isi_bool_b, isi_bool_i, isi_bool_s, isi_bool_l, isi_bool_t, isi_bool_d, isi_str_n, isi_str_b, isi_str_i, isi_str_s, isi_str_l, isi_str_t, isi_str_d, isi_list_n, isi_list_b, isi_list_i, isi_list_s, isi_list_l, isi_list_t, isi_list_d, isi_tuple_n, isi_tuple_b, isi_tuple_i, isi_tuple_s, isi_tuple_l, isi_tuple_t, isi_tuple_d, isi_dict_n, isi_dict_b, isi_dict_i, isi_dict_s, isi_dict_l, isi_dict_t, isi_dict_d, notD_b, isNone_n, isNone_s, isNone_i, isNone_t, isNone_l, kPure_ap, pickD_1, pickD_2, pickD_3, pickD_4, appD_l, extD_l, List.getElem?_cons_zero, List.getElem?_cons_succ, List.set_cons_zero, List.set_cons_succ, initE, Option.map_some, List.replicate, posT, getO, fillA, putA, Bool.not_true, Bool.not_false, if_true, if_false, Bool.false_eq_true, Option.bind_some, wipeE, restE, reduceIte, List.length_cons, List.length_nil, fwp_mk, fwp_mko, Nat.reduceAdd, Nat.reduceSub, List.append_nil, List.nil_append, List.cons_append, List.reverse_cons, List.reverse_nil, Int.reduceLT, Int.reduceLE, Int.reduceAdd, Int.reduceMul, Int.reduceNeg, decide_true, decide_false, decide_eq_true_eq, Int.reduceEq, Option.map_none, and_self, and_true, true_and, Bool.true_and, Bool.false_and, Bool.or_true, Bool.or_false, List.isEmpty_nil, List.isEmpty_cons, List.getElem?_nil, Option.isSome_some, Int.cast_ofNat_Int, Bool.not_eq_true, Bool.and_true, Bool.and_self, Bool.true_or, Bool.false_or, Bool.and_false, Int.reduceSub, Int.natCast_zero, Int.reduceGT, Int.reduceGE, ne_eq, not_true_eq_false, not_false_eq_true, hv]
  exact ⟨p', hm, rfl, hp'⟩
theorem cells_ok (ns : List Int) (h : ns.length ≤ 63) : ∃ k : Int, (k = 1 ∨ k = 2) ∧ Fwp (F__law_cells [.list (ns.map PyData.int), .int 2]) fun d outs => d = .list (rng 0 k) ∧ outs = [] := by
  by_cases h2 : ns.length < 2
  · refine ⟨1, .inl rfl, ?_⟩
    unfold F__law_cells
    rw [fwp_mk]
    have e1 : (if ((ns.map PyData.int).length : Int) < 2 then ((ns.map PyData.int).length : Int) else 2) = ns.length := by rw [List.length_map, if_pos (by omega)]
    have e2 : (if (ns.length : Int) > 1 then (ns.length : Int) else 1) = 1 := by rw [if_neg (by omega)]
    simp -implicitDefEqProofs only [owp_ok, fwp_ok, onS_s, onS_n, gR_f, gQ_f, gQ_o, gL_f, gL_o, gO_o, opL_op, wp_ret, kE_ap, kSet_ap, ifM_t, ifM_f, wp_vr, wp_vq, wp_vl, wp_vo, kBin2_ap, kBin1_ap, wp_bin, kUna_ap, wp_una, kBL2_ap, kBL1_ap, kBL0_ap, wp_binL, wp_seq0, kS2_ap, kS1_ap, wp_seq1, kTup_ap, wp_tup, kLst_ap, wp_lst, wp_seqP0, kP3_ap, kP2_ap, kP1_ap, wp_seqP1, wp_noX, kDsp_ap, wp_dsp, kBool_ap, wp_boolOf, kN_ap, kNN_ap, wp_isN, wp_isNN, kC4_ap, kC3_ap, wp_bl, kC2_ap, kC1_ap, wp_chn, kTru_ap, wp_truM, kNot_ap, wp_notM, kIf_ap, wp_andM, wp_orM, wp_ite, wp_if, kAndV2_ap, kAndV_ap, wp_andV, kOrV2_ap, kOrV_ap, wp_orV, kNotV2_ap, kNotV_ap, wp_notV, wp_part0, kPart_ap, wp_part1, kSl2_ap, kSl1_ap, kSl0_ap, wp_sl, kSL3_ap, kSL2_ap, kSL1_ap, kSL0_ap, wp_slL, wp_evA0, kA1_ap, wp_evAv, kA2_ap, wp_evAio, kCall4_ap, kCall3_ap, kCall2_ap, kCall1_ap, wp_call, kK2_ap, kK1_ap, wp_callK, wp_nx, wp_bk, wp_ct, wp_no, kSeq_nx, kSeq_rt, kSeq_ro, kSeq_bk, kSeq_ct, wp_seq, kNx_ap, kExp_ap, kRt_ap, kRo_ap, wp_expr, wp_rt, wp_rtN, wp_ro, kAsg_ap, wp_asg, wp_asgO, kI3_ap, kI2_ap, kI1_ap, kI0b_ap, kI0_ap, wp_setIx, kM2_ap, kM1_ap, kM0_ap, wp_mt, kIt_ap, kIts_ap, wp_walkA, wp_range1, wp_range2, wp_range3, wp_zipM, wp_enumM, kFor_ap, wp_for, kTurn_nx, kTurn_ct, kTurn_bk, kTurn_rt, kTurn_ro, kElt_ap, kCond_t, kCond_f, wp_lc, endF_rt, endF_nx, endO_ro, kBody_ap, addD_i, addD_s, addD_t, addD_l, subD_i, mulD_i, modD_i, ltD_i, ltD_s, leD_i, gtD_i, geD_i, negD_i, isBD_b, isnBD_b, truD_b, truD_i, truD_n, truD_l, truD_t, lenD_l, lenD_t, lenD_s, intD_i, intD_b, absD_i, listD_l, listD_t, tupD_l, tupD_t, max2D_i, min2D_i, isiD_d, revD_l, slD_l, slD_t, itemsA_l, itemsA_t, itemsA_s, ixD_l, ixD_t, zpD_l, zpD_t, setT_t, setTr_t, setNs_0, setNs_1, setN_z, setN_s, setO_z, setO_s, atI_z, atI_1, atI_2, atI_3, atI_4, setIx_0, setIx_1, setIx_2, sumD_map, rg1_i, rg2_i, eqD_i, neD_i, isi_int_n, isi_int_b, isi_int_i, isi_int_s, isi_int_l, isi_int_t, isi_int_d, isi_bool_n, isi_bool_b, isi_bool_i, isi_bool_s, isi_bool_l, isi_bool_t, isi_bool_d, isi_str_n, isi_str_b, isi_str_i, isi_str_s, isi_str_l, isi_str_t, isi_str_d, isi_list_n, isi_list_b, isi_list_i, isi_list_s, isi_list_l, isi_list_t, isi_list_d, isi_tuple_n, isi_tuple_b, isi_tuple_i, isi_tuple_s, isi_tuple_l, isi_tuple_t, isi_tuple_d, isi_dict_n, isi_dict_b, isi_dict_i, isi_dict_s, isi_dict_l, isi_dict_t, isi_dict_d, notD_b, isNone_n, isNone_s, isNone_i, isNone_t, isNone_l, kPure_ap, pickD_1, pickD_2, pickD_3, pickD_4, appD_l, extD_l, List.getElem?_cons_zero, List.getElem?_cons_succ, List.set_cons_zero, List.set_cons_succ, initE, Option.map_some, List.replicate, posT, getO, fillA, putA, Bool.not_true, Bool.not_false, if_true, if_false, Bool.false_eq_true, Option.bind_some, wipeE, restE, reduceIte, List.length_cons, List.length_nil, fwp_mk, fwp_mko, Nat.reduceAdd, Nat.reduceSub, List.append_nil, List.nil_append, List.cons_append, List.reverse_cons, List.reverse_nil, Int.reduceLT, Int.reduceLE, Int.reduceAdd, Int.reduceMul, Int.reduceNeg, decide_true, decide_false, decide_eq_true_eq, Int.reduceEq, Option.map_none, and_self, and_true, true_and, Bool.true_and, Bool.false_and, Bool.or_true, Bool.or_false, List.isEmpty_nil, List.isEmpty_cons, List.getElem?_nil, Option.isSome_some, Int.cast_ofNat_Int, Bool.not_eq_true, Bool.and_true, Bool.and_self, Bool.true_or, Bool.false_or, Bool.and_false, Int.reduceSub, Int.natCast_zero, Int.reduceGT, Int.reduceGE, ne_eq, not_true_eq_false, not_false_eq_true, B__law_cells, e1, e2, lrgD_s PyData.list (a := 0) (b := 1) (by omega)]
  · refine ⟨2, .inr rfl, ?_⟩
    unfold F__law_cells
    rw [fwp_mk]
    have e1 : (if ((ns.map PyData.int).length : Int) < 2 then ((ns.map PyData.int).length : Int) else 2) = 2 := by rw [List.length_map, if_neg (by omega)]
    simp -implicitDefEqProofs only [owp_ok, fwp_ok, onS_s, onS_n, gR_f, gQ_f, gQ_o, gL_f, gL_o, gO_o, opL_op, wp_ret, kE_ap, kSet_ap, ifM_t, ifM_f, wp_vr, wp_vq, wp_vl, wp_vo, kBin2_ap, kBin1_ap, wp_bin, kUna_ap, wp_una, kBL2_ap, kBL1_ap, kBL0_ap, wp_binL, wp_seq0, kS2_ap, kS1_ap, wp_seq1, kTup_ap, wp_tup, kLst_ap, wp_lst, wp_seqP0, kP3_ap, kP2_ap, kP1_ap, wp_seqP1, wp_noX, kDsp_ap, wp_dsp, kBool_ap, wp_boolOf, kN_ap, kNN_ap, wp_isN, wp_isNN, kC4_ap, kC3_ap, wp_bl, kC2_ap, kC1_ap, wp_chn, kTru_ap, wp_truM, kNot_ap, wp_notM, kIf_ap, wp_andM, wp_orM, wp_ite, wp_if, kAndV2_ap, kAndV_ap, wp_andV, kOrV2_ap, kOrV_ap, wp_orV, kNotV2_ap, kNotV_ap, wp_notV, wp_part0, kPart_ap, wp_part1, kSl2_ap, kSl1_ap, kSl0_ap, wp_sl, kSL3_ap, kSL2_ap, kSL1_ap, kSL0_ap, wp_slL, wp_evA0, kA1_ap, wp_evAv, kA2_ap, wp_evAio, kCall4_ap, kCall3_ap, kCall2_ap, kCall1_ap, wp_call, kK2_ap, kK1_ap, wp_callK, wp_nx, wp_bk, wp_ct, wp_no, kSeq_nx, kSeq_rt, kSeq_ro, kSeq_bk, kSeq_ct, wp_seq, kNx_ap, kExp_ap, kRt_ap, kRo_ap, wp_expr, wp_rt, wp_rtN, wp_ro, kAsg_ap, wp_asg, wp_asgO, kI3_ap, kI2_ap, kI1_ap, kI0b_ap, kI0_ap, wp_setIx, kM2_ap, kM1_ap, kM0_ap, wp_mt, kIt_ap, kIts_ap, wp_walkA, wp_range1, wp_range2, wp_range3, wp_zipM, wp_enumM, kFor_ap, wp_for, kTurn_nx, kTurn_ct, kTurn_bk, kTurn_rt, kTurn_ro, kElt_ap, kCond_t, kCond_f, wp_lc, endF_rt, endF_nx, endO_ro, kBody_ap, addD_i, addD_s, addD_t, addD_l, subD_i, mulD_i, modD_i, ltD_i, ltD_s, leD_i, gtD_i, geD_i, negD_i, isBD_b, isnBD_b, truD_b, truD_i, truD_n, truD_l, truD_t, lenD_l, lenD_t, lenD_s, intD_i, intD_b, absD_i, listD_l, listD_t, tupD_l, tupD_t, max2D_i, min2D_i, isiD_d, revD_l, slD_l, slD_t, itemsA_l, itemsA_t, itemsA_s, ixD_l, ixD_t, zpD_l, zpD_t, setT_t, setTr_t, setNs_0, setNs_1, setN_z, setN_s, setO_z, setO_s, atI_z, atI_1, atI_2, atI_3, atI_4, setIx_0, setIx_1, setIx_2, sumD_map, rg1_i, rg2_i, eqD_i, neD_i, isi_int_n, isi_int_b, isi_int_i, isi_int_s, isi_int_l, isi_int_t, isi_int_d, isi_bool_n, isi_bool_b, isi_bool_i, isi_bool_s, isi_bool_l, isi_bool_t, isi_bool_d, isi_str_n, isi_str_b, isi_str_i, isi_str_s, isi_str_l, isi_str_t, isi_str_d, isi_list_n, isi_list_b, isi_list_i, isi_list_s, isi_list_l, isi_list_t, isi_list_d, isi_tuple_n, isi_tuple_b, isi_tuple_i, isi_tuple_s, isi_tuple_l, isi_tuple_t, isi_tuple_d, isi_dict_n, isi_dict_b, isi_dict_i, isi_dict_s, isi_dict_l, isi_dict_t, isi_dict_d, notD_b, isNone_n, isNone_s, isNone_i, isNone_t, isNone_l, kPure_ap, pickD_1, pickD_2, pickD_3, pickD_4, appD_l, extD_l, List.getElem?_cons_zero, List.getElem?_cons_succ, List.set_cons_zero, List.set_cons_succ, initE, Option.map_some, List.replicate, posT, getO, fillA, putA, Bool.not_true, Bool.not_false, if_true, if_false, Bool.false_eq_true, Option.bind_some, wipeE, restE, reduceIte, List.length_cons, List.length_nil, fwp_mk, fwp_mko, Nat.reduceAdd, Nat.reduceSub, List.append_nil, List.nil_append, List.cons_append, List.reverse_cons, List.reverse_nil, Int.reduceLT, Int.reduceLE, Int.reduceAdd, Int.reduceMul, Int.reduceNeg, decide_true, decide_false, decide_eq_true_eq, Int.reduceEq, Option.map_none, and_self, and_true, true_and, Bool.true_and, Bool.false_and, Bool.or_true, Bool.or_false, List.isEmpty_nil, List.isEmpty_cons, List.getElem?_nil, Option.isSome_some, Int.cast_ofNat_Int, Bool.not_eq_true, Bool.and_true, Bool.and_self, Bool.true_or, Bool.false_or, Bool.and_false, Int.reduceSub, Int.natCast_zero, Int.reduceGT, Int.reduceGE, ne_eq, not_true_eq_false, not_false_eq_true, B__law_cells, e1, lrgD_s PyData.list (a := 0) (b := 2) (by omega)]
theorem pot_ok (ns : List Int) (place : Int) (h0 : 0 ≤ place) (h1 : place ≤ 1) : Fwp (F__law_pot [.list (ns.map PyData.int), .int place]) fun d outs => PotOk 0 d ∧ outs = [] := by
  unfold F__law_pot
  rw [fwp_mko]
  simp -implicitDefEqProofs only [owp_ok, fwp_ok, onS_s, onS_n, gR_f, gQ_f, gQ_o, gL_f, gL_o, gO_o, opL_op, wp_ret, kE_ap, kSet_ap, ifM_t, ifM_f, wp_vr, wp_vq, wp_vl, wp_vo, kBin2_ap, kBin1_ap, wp_bin, kUna_ap, wp_una, kBL2_ap, kBL1_ap, kBL0_ap, wp_binL, wp_seq0, kS2_ap, kS1_ap, wp_seq1, kTup_ap, wp_tup, kLst_ap, wp_lst, wp_seqP0, kP3_ap, kP2_ap, kP1_ap, wp_seqP1, wp_noX, kDsp_ap, wp_dsp, kBool_ap, wp_boolOf, kN_ap, kNN_ap, wp_isN, wp_isNN, kC4_ap, kC3_ap, wp_bl, kC2_ap, kC1_ap, wp_chn, kTru_ap, wp_truM, kNot_ap, wp_notM, kIf_ap, wp_andM, wp_orM, wp_ite, wp_if, kAndV2_ap, kAndV_ap, wp_andV, kOrV2_ap, kOrV_ap, wp_orV, kNotV2_ap, kNotV_ap, wp_notV, wp_part0, kPart_ap, wp_part1, kSl2_ap, kSl1_ap, kSl0_ap, wp_sl, kSL3_ap, kSL2_ap, kSL1_ap, kSL0_ap, wp_slL, wp_evA0, kA1_ap, wp_evAv, kA2_ap, wp_evAio, kCall4_ap, kCall3_ap, kCall2_ap, kCall1_ap, wp_call, kK2_ap, kK1_ap, wp_callK, wp_nx, wp_bk, wp_ct, wp_no, kSeq_nx, kSeq_rt, kSeq_ro, kSeq_bk, kSeq_ct, wp_seq, kNx_ap, kExp_ap, kRt_ap, kRo_ap, wp_expr, wp_rt, wp_rtN, wp_ro, kAsg_ap, wp_asg, wp_asgO, kI3_ap, kI2_ap, kI1_ap, kI0b_ap, kI0_ap, wp_setIx, kM2_ap, kM1_ap, kM0_ap, wp_mt, kIt_ap, kIts_ap, wp_walkA, wp_range1, wp_range2, wp_range3, wp_zipM, wp_enumM, kFor_ap, wp_for, kTurn_nx, kTurn_ct, kTurn_bk, kTurn_rt, kTurn_ro, kElt_ap, kCond_t, kCond_f, wp_lc, endF_rt, endF_nx, endO_ro, kBody_ap, addD_i, addD_s, addD_t, addD_l, subD_i, mulD_i, modD_i, ltD_i, ltD_s, leD_i, gtD_i, geD_i, negD_i, isBD_b, isnBD_b, truD_b, truD_i, truD_n, truD_l, truD_t, lenD_l, lenD_t, lenD_s, intD_i, intD_b, absD_i, listD_l, listD_t, tupD_l, tupD_t, max2D_i, min2D_i, isiD_d, revD_l, slD_l, slD_t, itemsA_l, itemsA_t, itemsA_s, ixD_l, ixD_t, zpD_l, zpD_t, setT_t, setTr_t, setNs_0, setNs_1, setN_z, setN_s, setO_z, setO_s, atI_z, atI_1, atI_2, atI_3, atI_4, setIx_0, setIx_1, setIx_2, sumD_map, rg1_i, rg2_i, eqD_i, neD_i, isi_int_n, isi_int_b, isi_int_i, isi_int_s, isi_int_l, isi_int_t, isi_int_d, isi_bool_n, isi_bool_b, isi_bool_i, isi_bool_s, isi_bool_l, isi_bool_t, isi_bool_d, isi_str_n, isi_str_b, isi_str_i, isi_str_s, isi_str_l, isi_str_t, isi_str_d, isi_list_n, isi_list_b, isi_list_i, isi_list_s, isi_list_l, isi_list_t, isi_list_d, isi_tuple_n, isi_tuple_b, isi_tuple_i, isi_tuple_s, isi_tuple_l, isi_tuple_t, isi_tuple_d, isi_dict_n, isi_dict_b, isi_dict_i, isi_dict_s, isi_dict_l, isi_dict_t, isi_dict_d, notD_b, isNone_n, isNone_s, isNone_i, isNone_t, isNone_l, kPure_ap, pickD_1, pickD_2, pickD_3, pickD_4, appD_l, extD_l, List.getElem?_cons_zero, List.getElem?_cons_succ, List.set_cons_zero, List.set_cons_succ, initE, Option.map_some, List.replicate, posT, getO, fillA, putA, Bool.not_true, Bool.not_false, if_true, if_false, Bool.false_eq_true, Option.bind_some, wipeE, restE, reduceIte, List.length_cons, List.length_nil, fwp_mk, fwp_mko, Nat.reduceAdd, Nat.reduceSub, List.append_nil, List.nil_append, List.cons_append, List.reverse_cons, List.reverse_nil, Int.reduceLT, Int.reduceLE, Int.reduceAdd, Int.reduceMul, Int.reduceNeg, decide_true, decide_false, decide_eq_true_eq, Int.reduceEq, Option.map_none, and_self, and_true, true_and, Bool.true_and, Bool.false_and, Bool.or_true, Bool.or_false, List.isEmpty_nil, List.isEmpty_cons, List.getElem?_nil, Option.isSome_some, Int.cast_ofNat_Int, Bool.not_eq_true, Bool.and_true, Bool.and_self, Bool.true_or, Bool.false_or, Bool.and_false, Int.reduceSub, Int.natCast_zero, Int.reduceGT, Int.reduceGE, ne_eq, not_true_eq_false, not_false_eq_true, B__law_pot]
  have rest : ∀ cell : Int, kAsg (setN 2)
      (kSeq
        (sSeq (sAsg (setN 3) (ZZ.bin mulD (ZZ.bin modD (una ZZ.intD (una absD (vr 2))) (ZZ.bin powD (ZZ.bin powD (ZZ.ret (.int 10)) (ZZ.ret (.int 60))) (ZZ.ret (.int 5)))) (una ZZ.intD (ZZ.bin geD (una absD (vr 2)) (ZZ.bin powD (ZZ.ret (.int 10)) (ZZ.ret (.int 18)))))))
          (sSeq (sAsg (setN 4) (ZZ.bin modD (una ZZ.intD (vr 2)) (ZZ.ret (.int 2305843009213693951))))
            (sRetO (lstM [vr 3, ZZ.bin modD (una ZZ.intD (ZZ.bin addD (ZZ.bin addD (ZZ.bin mulD (vr 4) (ZZ.ret (.int 73009))) (ZZ.bin mulD (ZZ.bin mulD (ZZ.ret (.int 8819)) (vr 1)) (vr 1))) (ZZ.ret (.int 907)))) (ZZ.ret (.int 2305843009213693921)), ZZ.ret (.int 0)]))))
        (endO [false, false] fun d outs => PotOk 0 d ∧ outs = [])) (.int cell) [Sl.fz (.list (ns.map PyData.int)), Sl.fz (.int place), Sl.un, Sl.un, Sl.un] := fun cell => by
    have p1 : powOk 10 60 = true := by decide +kernel
    have p2 : powOk (10 ^ (60 : Int).toNat) 5 = true := by decide +kernel
    have p3 : powOk 10 18 = true := by decide +kernel
    have p4 : (0 : Int) < (10 ^ (60 : Int).toNat) ^ (5 : Int).toNat := by decide +kernel
    simp -implicitDefEqProofs only [owp_ok, fwp_ok, onS_s, onS_n, gR_f, gQ_f, gQ_o, gL_f, gL_o, gO_o, opL_op, wp_ret, kE_ap, kSet_ap, ifM_t, ifM_f, wp_vr, wp_vq, wp_vl, wp_vo, kBin2_ap, kBin1_ap, wp_bin, kUna_ap, wp_una, kBL2_ap, kBL1_ap, kBL0_ap, wp_binL, wp_seq0, kS2_ap, kS1_ap, wp_seq1, kTup_ap, wp_tup, kLst_ap, wp_lst, wp_seqP0, kP3_ap, kP2_ap, kP1_ap, wp_seqP1, wp_noX, kDsp_ap, wp_dsp, kBool_ap, wp_boolOf, kN_ap, kNN_ap, wp_isN, wp_isNN, kC4_ap, kC3_ap, wp_bl, kC2_ap, kC1_ap, wp_chn, kTru_ap, wp_truM, kNot_ap, wp_notM, kIf_ap, wp_andM, wp_orM, wp_ite, wp_if, kAndV2_ap, kAndV_ap, wp_andV, kOrV2_ap, kOrV_ap, wp_orV, kNotV2_ap, kNotV_ap, wp_notV, wp_part0, kPart_ap, wp_part1, kSl2_ap, kSl1_ap, kSl0_ap, wp_sl, kSL3_ap, kSL2_ap, kSL1_ap, kSL0_ap, wp_slL, wp_evA0, kA1_ap, wp_evAv, kA2_ap, wp_evAio, kCall4_ap, kCall3_ap, kCall2_ap, kCall1_ap, wp_call, kK2_ap, kK1_ap, wp_callK, wp_nx, wp_bk, wp_ct, wp_no, kSeq_nx, kSeq_rt, kSeq_ro, kSeq_bk, kSeq_ct, wp_seq, kNx_ap, kExp_ap, kRt_ap, kRo_ap, wp_expr, wp_rt, wp_rtN, wp_ro, kAsg_ap, wp_asg, wp_asgO, kI3_ap, kI2_ap, kI1_ap, kI0b_ap, kI0_ap, wp_setIx, kM2_ap, kM1_ap, kM0_ap, wp_mt, kIt_ap, kIts_ap, wp_walkA, wp_range1, wp_range2, wp_range3, wp_zipM, wp_enumM, kFor_ap, wp_for, kTurn_nx, kTurn_ct, kTurn_bk, kTurn_rt, kTurn_ro, kElt_ap, kCond_t, kCond_f, wp_lc, endF_rt, endF_nx, endO_ro, kBody_ap, addD_i, addD_s, addD_t, addD_l, subD_i, mulD_i, modD_i, ltD_i, ltD_s, leD_i, gtD_i, geD_i, negD_i, isBD_b, isnBD_b, truD_b, truD_i, truD_n, truD_l, truD_t, lenD_l, lenD_t, lenD_s, intD_i, intD_b, absD_i, listD_l, listD_t, tupD_l, tupD_t, max2D_i, min2D_i, isiD_d, revD_l, slD_l, slD_t, itemsA_l, itemsA_t, itemsA_s, ixD_l, ixD_t, zpD_l, zpD_t, setT_t, setTr_t, setNs_0, setNs_1, setN_z, setN_s, setO_z, setO_s, atI_z, atI_1, atI_2, atI_3, atI_4, setIx_0, setIx_1, setIx_2, sumD_map, rg1_i, rg2_i, eqD_i, neD_i, isi_int_n, isi_int_b, isi_int_i, isi_int_s, isi_int_l, isi_int_t, isi_int_d, isi_bool_n, isi_bool_b, isi_bool_i, isi_bool_s, isi_bool_l, isi_bool_t, isi_bool_d, isi_str_n, isi_str_b, isi_str_i, isi_str_s, isi_str_l, isi_str_t, isi_str_d, isi_list_n, isi_list_b, isi_list_i, isi_list_s, isi_list_l, isi_list_t, isi_list_d, isi_tuple_n, isi_tuple_b, isi_tuple_i, isi_tuple_s, isi_tuple_l, isi_tuple_t, isi_tuple_d, isi_dict_n, isi_dict_b, isi_dict_i, isi_dict_s, isi_dict_l, isi_dict_t, isi_dict_d, notD_b, isNone_n, isNone_s, isNone_i, isNone_t, isNone_l, kPure_ap, pickD_1, pickD_2, pickD_3, pickD_4, appD_l, extD_l, List.getElem?_cons_zero, List.getElem?_cons_succ, List.set_cons_zero, List.set_cons_succ, initE, Option.map_some, List.replicate, posT, getO, fillA, putA, Bool.not_true, Bool.not_false, if_true, if_false, Bool.false_eq_true, Option.bind_some, wipeE, restE, reduceIte, List.length_cons, List.length_nil, fwp_mk, fwp_mko, Nat.reduceAdd, Nat.reduceSub, List.append_nil, List.nil_append, List.cons_append, List.reverse_cons, List.reverse_nil, Int.reduceLT, Int.reduceLE, Int.reduceAdd, Int.reduceMul, Int.reduceNeg, decide_true, decide_false, decide_eq_true_eq, Int.reduceEq, Option.map_none, and_self, and_true, true_and, Bool.true_and, Bool.false_and, Bool.or_true, Bool.or_false, List.isEmpty_nil, List.isEmpty_cons, List.getElem?_nil, Option.isSome_some, Int.cast_ofNat_Int, Bool.not_eq_true, Bool.and_true, Bool.and_self, Bool.true_or, Bool.false_or, Bool.and_false, Int.reduceSub, Int.natCast_zero, Int.reduceGT, Int.reduceGE, ne_eq, not_true_eq_false, not_false_eq_true, powD_i p1, powD_i p2, powD_i p3, p4]
    generalize hA : (if cell < 0 then -cell else cell) = A
    have hA0 : 0 ≤ A := by rw [← hA]; split <;> omega
    generalize hB : (if (10 : Int) ^ (18 : Int).toNat ≤ A then (1 : Int) else 0) = B
    have hB0 : 0 ≤ B ∧ B ≤ 1 := by rw [← hB]; split <;> omega
    have hM : 0 ≤ A % (10 ^ (60 : Int).toNat) ^ (5 : Int).toNat := Int.emod_nonneg _ (by omega)
    generalize A % (10 ^ (60 : Int).toNat) ^ (5 : Int).toNat = C at *
    have m1 : mulOk C B = true := mulOk_r (by omega)
    have m2 : mulOk (cell % 2305843009213693951) 73009 = true := mulOk_r (by omega)
    have m3 : mulOk 8819 place = true := mulOk_l (by omega)
    have m4 : mulOk (8819 * place) place = true := mulOk_r (by omega)
    simp -implicitDefEqProofs only [owp_ok, fwp_ok, onS_s, onS_n, gR_f, gQ_f, gQ_o, gL_f, gL_o, gO_o, opL_op, wp_ret, kE_ap, kSet_ap, ifM_t, ifM_f, wp_vr, wp_vq, wp_vl, wp_vo, kBin2_ap, kBin1_ap, wp_bin, kUna_ap, wp_una, kBL2_ap, kBL1_ap, kBL0_ap, wp_binL, wp_seq0, kS2_ap, kS1_ap, wp_seq1, kTup_ap, wp_tup, kLst_ap, wp_lst, wp_seqP0, kP3_ap, kP2_ap, kP1_ap, wp_seqP1, wp_noX, kDsp_ap, wp_dsp, kBool_ap, wp_boolOf, kN_ap, kNN_ap, wp_isN, wp_isNN, kC4_ap, kC3_ap, wp_bl, kC2_ap, kC1_ap, wp_chn, kTru_ap, wp_truM, kNot_ap, wp_notM, kIf_ap, wp_andM, wp_orM, wp_ite, wp_if, kAndV2_ap, kAndV_ap, wp_andV, kOrV2_ap, kOrV_ap, wp_orV, kNotV2_ap, kNotV_ap, wp_notV, wp_part0, kPart_ap, wp_part1, kSl2_ap, kSl1_ap, kSl0_ap, wp_sl, kSL3_ap, kSL2_ap, kSL1_ap, kSL0_ap, wp_slL, wp_evA0, kA1_ap, wp_evAv, kA2_ap, wp_evAio, kCall4_ap, kCall3_ap, kCall2_ap, kCall1_ap, wp_call, kK2_ap, kK1_ap, wp_callK, wp_nx, wp_bk, wp_ct, wp_no, kSeq_nx, kSeq_rt, kSeq_ro, kSeq_bk, kSeq_ct, wp_seq, kNx_ap, kExp_ap, kRt_ap, kRo_ap, wp_expr, wp_rt, wp_rtN, wp_ro, kAsg_ap, wp_asg, wp_asgO, kI3_ap, kI2_ap, kI1_ap, kI0b_ap, kI0_ap, wp_setIx, kM2_ap, kM1_ap, kM0_ap, wp_mt, kIt_ap, kIts_ap, wp_walkA, wp_range1, wp_range2, wp_range3, wp_zipM, wp_enumM, kFor_ap, wp_for, kTurn_nx, kTurn_ct, kTurn_bk, kTurn_rt, kTurn_ro, kElt_ap, kCond_t, kCond_f, wp_lc, endF_rt, endF_nx, endO_ro, kBody_ap, addD_i, addD_s, addD_t, addD_l, subD_i, mulD_i, modD_i, ltD_i, ltD_s, leD_i, gtD_i, geD_i, negD_i, isBD_b, isnBD_b, truD_b, truD_i, truD_n, truD_l, truD_t, lenD_l, lenD_t, lenD_s, intD_i, intD_b, absD_i, listD_l, listD_t, tupD_l, tupD_t, max2D_i, min2D_i, isiD_d, revD_l, slD_l, slD_t, itemsA_l, itemsA_t, itemsA_s, ixD_l, ixD_t, zpD_l, zpD_t, setT_t, setTr_t, setNs_0, setNs_1, setN_z, setN_s, setO_z, setO_s, atI_z, atI_1, atI_2, atI_3, atI_4, setIx_0, setIx_1, setIx_2, sumD_map, rg1_i, rg2_i, eqD_i, neD_i, isi_int_n, isi_int_b, isi_int_i, isi_int_s, isi_int_l, isi_int_t, isi_int_d, isi_bool_n, isi_bool_b, isi_bool_i, isi_bool_s, isi_bool_l, isi_bool_t, isi_bool_d, isi_str_n, isi_str_b, isi_str_i, isi_str_s, isi_str_l, isi_str_t, isi_str_d, isi_list_n, isi_list_b, isi_list_i, isi_list_s, isi_list_l, isi_list_t, isi_list_d, isi_tuple_n, isi_tuple_b, isi_tuple_i, isi_tuple_s, isi_tuple_l, isi_tuple_t, isi_tuple_d, isi_dict_n, isi_dict_b, isi_dict_i, isi_dict_s, isi_dict_l, isi_dict_t, isi_dict_d, notD_b, isNone_n, isNone_s, isNone_i, isNone_t, isNone_l, kPure_ap, pickD_1, pickD_2, pickD_3, pickD_4, appD_l, extD_l, List.getElem?_cons_zero, List.getElem?_cons_succ, List.set_cons_zero, List.set_cons_succ, initE, Option.map_some, List.replicate, posT, getO, fillA, putA, Bool.not_true, Bool.not_false, if_true, if_false, Bool.false_eq_true, Option.bind_some, wipeE, restE, reduceIte, List.length_cons, List.length_nil, fwp_mk, fwp_mko, Nat.reduceAdd, Nat.reduceSub, List.append_nil, List.nil_append, List.cons_append, List.reverse_cons, List.reverse_nil, Int.reduceLT, Int.reduceLE, Int.reduceAdd, Int.reduceMul, Int.reduceNeg, decide_true, decide_false, decide_eq_true_eq, Int.reduceEq, Option.map_none, and_self, and_true, true_and, Bool.true_and, Bool.false_and, Bool.or_true, Bool.or_false, List.isEmpty_nil, List.isEmpty_cons, List.getElem?_nil, Option.isSome_some, Int.cast_ofNat_Int, Bool.not_eq_true, Bool.and_true, Bool.and_self, Bool.true_or, Bool.false_or, Bool.and_false, Int.reduceSub, Int.natCast_zero, Int.reduceGT, Int.reduceGE, ne_eq, not_true_eq_false, not_false_eq_true, m1, m2, m3, m4]
    exact ⟨C * B, _, 0, rfl, Int.mul_nonneg hM hB0.1, Int.emod_nonneg _ (by decide), Int.emod_lt_of_pos _ (by decide), by omega, by omega⟩
  refine ifM_d (fun h => ?_) (fun h => ?_)
  · obtain ⟨z, hz⟩ := atI_map (is := ns) h0 (by rw [List.length_map] at h; exact h)
    simp only [wp_bin, wp_vr, List.getElem?_cons_zero, List.getElem?_cons_succ, gR_f, kE_ap, kBin1_ap, kBin2_ap, ixD_l, hz, onS_s]
    exact rest z
  · obtain ⟨js, hjs⟩ := cutD_map ns none (some 1)
    simp only [wp_bin, wp_una, wp_sl, wp_part0, wp_part1, wp_ret, wp_vr, List.getElem?_cons_zero, List.getElem?_cons_succ, gR_f, kE_ap, kBin1_ap, kBin2_ap, kUna_ap, kSl0_ap, kSl1_ap, kSl2_ap, kPart_ap, slD_l, hjs, onS_s, sumD_map, modD_i, Int.reduceLT, if_true, mulD_i, mulOk_l (i := 2203) (j := place) (by omega), addD_i]
    exact rest _
def WordOk (d : D) : Prop := d = .str "free" ∨ d = .str "barred" ∨ d = .str "load" ∨ ∃ a b : Int, d = .tuple [.int a, .int b] ∧ 1 ≤ a ∧ a ≤ 9 ∧ 1 ≤ b ∧ b ≤ 6
def DaysOk (d : D) : Prop := d = .str "any" ∨ d = .str "plain" ∨ d = .str "feast" ∨ d = .str "eve"
def KindsOk (d : D) : Prop := d = .tuple [] ∨ d = .tuple [.str "van"] ∨ d = .tuple [.str "bus", .str "van"]
def HoursOk (h : Int) : Prop := h = 1 ∨ h = 2 ∨ h = 3 ∨ h = 4 ∨ h = 24
def RowOk (h : Int) (r : D) : Prop := ∃ (b e : Int) (dd kk ww : D), r = .tuple [.int b, .int e, dd, kk, ww] ∧ 0 ≤ b ∧ b < 7 * h ∧ 0 ≤ e ∧ e < 7 * h ∧ (e - b) % (7 * h) ≤ h ∧ DaysOk dd ∧ KindsOk kk ∧ WordOk ww
def SignOk (h : Int) (s : D) : Prop := ∃ rows : List D, s = .tuple [.int h, .tuple rows] ∧ rows.length ≤ 12 ∧ ∀ r ∈ rows, RowOk h r
def FeastsOk (f : D) : Prop := ∃ fs : List Int, f = .tuple (fs.map PyData.int) ∧ fs.length ≤ 20 ∧ fs.Pairwise (· < ·) ∧ ∀ x ∈ fs, 0 ≤ x ∧ x ≤ 10000
theorem PotOk.mono {n m : Int} {p : D} (h : PotOk n p) (k : n ≤ m) : PotOk m p := by
  obtain ⟨a, b, c, e, h1, h2, h3, h4, h5⟩ := h
  exact ⟨a, b, c, e, h1, h2, h3, h4, by omega⟩
theorem answer_ok {n : Int} {p : D} (hp : PotOk n p) (hn : n ≤ 1152921504606846000) : Fwp (F__law_answer [p]) fun d outs => ∃ p', WordOk d ∧ outs = [p'] ∧ PotOk (n + 3) p' := by
  unfold F__law_answer
  rw [fwp_mk]
  simp -implicitDefEqProofs only [owp_ok, fwp_ok, onS_s, onS_n, gR_f, gQ_f, gQ_o, gL_f, gL_o, gO_o, opL_op, wp_ret, kE_ap, kSet_ap, ifM_t, ifM_f, wp_vr, wp_vq, wp_vl, wp_vo, kBin2_ap, kBin1_ap, wp_bin, kUna_ap, wp_una, kBL2_ap, kBL1_ap, kBL0_ap, wp_binL, wp_seq0, kS2_ap, kS1_ap, wp_seq1, kTup_ap, wp_tup, kLst_ap, wp_lst, wp_seqP0, kP3_ap, kP2_ap, kP1_ap, wp_seqP1, wp_noX, kDsp_ap, wp_dsp, kBool_ap, wp_boolOf, kN_ap, kNN_ap, wp_isN, wp_isNN, kC4_ap, kC3_ap, wp_bl, kC2_ap, kC1_ap, wp_chn, kTru_ap, wp_truM, kNot_ap, wp_notM, kIf_ap, wp_andM, wp_orM, wp_ite, wp_if, kAndV2_ap, kAndV_ap, wp_andV, kOrV2_ap, kOrV_ap, wp_orV, kNotV2_ap, kNotV_ap, wp_notV, wp_part0, kPart_ap, wp_part1, kSl2_ap, kSl1_ap, kSl0_ap, wp_sl, kSL3_ap, kSL2_ap, kSL1_ap, kSL0_ap, wp_slL, wp_evA0, kA1_ap, wp_evAv, kA2_ap, wp_evAio, kCall4_ap, kCall3_ap, kCall2_ap, kCall1_ap, wp_call, kK2_ap, kK1_ap, wp_callK, wp_nx, wp_bk, wp_ct, wp_no, kSeq_nx, kSeq_rt, kSeq_ro, kSeq_bk, kSeq_ct, wp_seq, kNx_ap, kExp_ap, kRt_ap, kRo_ap, wp_expr, wp_rt, wp_rtN, wp_ro, kAsg_ap, wp_asg, wp_asgO, kI3_ap, kI2_ap, kI1_ap, kI0b_ap, kI0_ap, wp_setIx, kM2_ap, kM1_ap, kM0_ap, wp_mt, kIt_ap, kIts_ap, wp_walkA, wp_range1, wp_range2, wp_range3, wp_zipM, wp_enumM, kFor_ap, wp_for, kTurn_nx, kTurn_ct, kTurn_bk, kTurn_rt, kTurn_ro, kElt_ap, kCond_t, kCond_f, wp_lc, endF_rt, endF_nx, endO_ro, kBody_ap, addD_i, addD_s, addD_t, addD_l, subD_i, mulD_i, modD_i, ltD_i, ltD_s, leD_i, gtD_i, geD_i, negD_i, isBD_b, isnBD_b, truD_b, truD_i, truD_n, truD_l, truD_t, lenD_l, lenD_t, lenD_s, intD_i, intD_b, absD_i, listD_l, listD_t, tupD_l, tupD_t, max2D_i, min2D_i, isiD_d, revD_l, slD_l, slD_t, itemsA_l, itemsA_t, itemsA_s, ixD_l, ixD_t, zpD_l, zpD_t, setT_t, setTr_t, setNs_0, setNs_1, setN_z, setN_s, setO_z, setO_s, atI_z, atI_1, atI_2, atI_3, atI_4, setIx_0, setIx_1, setIx_2, sumD_map, rg1_i, rg2_i, eqD_i, neD_i, isi_int_n, isi_int_b, isi_int_i, isi_int_s, isi_int_l, isi_int_t, isi_int_d, isi_bool_n, isi_bool_b, isi_bool_i, isi_bool_s, isi_bool_l, isi_bool_t, isi_bool_d, isi_str_n, isi_str_b, isi_str_i, isi_str_s, isi_str_l, isi_str_t, isi_str_d, isi_list_n, isi_list_b, isi_list_i, isi_list_s, isi_list_l, isi_list_t, isi_list_d, isi_tuple_n, isi_tuple_b, isi_tuple_i, isi_tuple_s, isi_tuple_l, isi_tuple_t, isi_tuple_d, isi_dict_n, isi_dict_b, isi_dict_i, isi_dict_s, isi_dict_l, isi_dict_t, isi_dict_d, notD_b, isNone_n, isNone_s, isNone_i, isNone_t, isNone_l, kPure_ap, pickD_1, pickD_2, pickD_3, pickD_4, appD_l, extD_l, List.getElem?_cons_zero, List.getElem?_cons_succ, List.set_cons_zero, List.set_cons_succ, initE, Option.map_some, List.replicate, posT, getO, fillA, putA, Bool.not_true, Bool.not_false, if_true, if_false, Bool.false_eq_true, Option.bind_some, wipeE, restE, reduceIte, List.length_cons, List.length_nil, fwp_mk, fwp_mko, Nat.reduceAdd, Nat.reduceSub, List.append_nil, List.nil_append, List.cons_append, List.reverse_cons, List.reverse_nil, Int.reduceLT, Int.reduceLE, Int.reduceAdd, Int.reduceMul, Int.reduceNeg, decide_true, decide_false, decide_eq_true_eq, Int.reduceEq, Option.map_none, and_self, and_true, true_and, Bool.true_and, Bool.false_and, Bool.or_true, Bool.or_false, List.isEmpty_nil, List.isEmpty_cons, List.getElem?_nil, Option.isSome_some, Int.cast_ofNat_Int, Bool.not_eq_true, Bool.and_true, Bool.and_self, Bool.true_or, Bool.false_or, Bool.and_false, Int.reduceSub, Int.natCast_zero, Int.reduceGT, Int.reduceGE, ne_eq, not_true_eq_false, not_false_eq_true, B__law_answer]
  refine (take_ok (u := 9) hp (by omega) (by omega) (by omega)).mono ?_
  rintro _ _ ⟨a, p1, rfl, rfl, ha0, ha1, hp1⟩
  simp -implicitDefEqProofs only [owp_ok, fwp_ok, onS_s, onS_n, gR_f, gQ_f, gQ_o, gL_f, gL_o, gO_o, opL_op, wp_ret, kE_ap, kSet_ap, ifM_t, ifM_f, wp_vr, wp_vq, wp_vl, wp_vo, kBin2_ap, kBin1_ap, wp_bin, kUna_ap, wp_una, kBL2_ap, kBL1_ap, kBL0_ap, wp_binL, wp_seq0, kS2_ap, kS1_ap, wp_seq1, kTup_ap, wp_tup, kLst_ap, wp_lst, wp_seqP0, kP3_ap, kP2_ap, kP1_ap, wp_seqP1, wp_noX, kDsp_ap, wp_dsp, kBool_ap, wp_boolOf, kN_ap, kNN_ap, wp_isN, wp_isNN, kC4_ap, kC3_ap, wp_bl, kC2_ap, kC1_ap, wp_chn, kTru_ap, wp_truM, kNot_ap, wp_notM, kIf_ap, wp_andM, wp_orM, wp_ite, wp_if, kAndV2_ap, kAndV_ap, wp_andV, kOrV2_ap, kOrV_ap, wp_orV, kNotV2_ap, kNotV_ap, wp_notV, wp_part0, kPart_ap, wp_part1, kSl2_ap, kSl1_ap, kSl0_ap, wp_sl, kSL3_ap, kSL2_ap, kSL1_ap, kSL0_ap, wp_slL, wp_evA0, kA1_ap, wp_evAv, kA2_ap, wp_evAio, kCall4_ap, kCall3_ap, kCall2_ap, kCall1_ap, wp_call, kK2_ap, kK1_ap, wp_callK, wp_nx, wp_bk, wp_ct, wp_no, kSeq_nx, kSeq_rt, kSeq_ro, kSeq_bk, kSeq_ct, wp_seq, kNx_ap, kExp_ap, kRt_ap, kRo_ap, wp_expr, wp_rt, wp_rtN, wp_ro, kAsg_ap, wp_asg, wp_asgO, kI3_ap, kI2_ap, kI1_ap, kI0b_ap, kI0_ap, wp_setIx, kM2_ap, kM1_ap, kM0_ap, wp_mt, kIt_ap, kIts_ap, wp_walkA, wp_range1, wp_range2, wp_range3, wp_zipM, wp_enumM, kFor_ap, wp_for, kTurn_nx, kTurn_ct, kTurn_bk, kTurn_rt, kTurn_ro, kElt_ap, kCond_t, kCond_f, wp_lc, endF_rt, endF_nx, endO_ro, kBody_ap, addD_i, addD_s, addD_t, addD_l, subD_i, mulD_i, modD_i, ltD_i, ltD_s, leD_i, gtD_i, geD_i, negD_i, isBD_b, isnBD_b, truD_b, truD_i, truD_n, truD_l, truD_t, lenD_l, lenD_t, lenD_s, intD_i, intD_b, absD_i, listD_l, listD_t, tupD_l, tupD_t, max2D_i, min2D_i, isiD_d, revD_l, slD_l, slD_t, itemsA_l, itemsA_t, itemsA_s, ixD_l, ixD_t, zpD_l, zpD_t, setT_t, setTr_t, setNs_0, setNs_1, setN_z, setN_s, setO_z, setO_s, atI_z, atI_1, atI_2, atI_3, atI_4, setIx_0, setIx_1, setIx_2, sumD_map, rg1_i, rg2_i, eqD_i, neD_i, isi_int_n, isi_int_b, isi_int_i, isi_int_s, isi_int_l, isi_int_t, isi_int_d, isi_bool_n, isi_bool_b, isi_bool_i, isi_bool_s, isi_bool_l, isi_bool_t, isi_bool_d, isi_str_n, isi_str_b, isi_str_i, isi_str_s, isi_str_l, isi_str_t, isi_str_d, isi_list_n, isi_list_b, isi_list_i, isi_list_s, isi_list_l, isi_list_t, isi_list_d, isi_tuple_n, isi_tuple_b, isi_tuple_i, isi_tuple_s, isi_tuple_l, isi_tuple_t, isi_tuple_d, isi_dict_n, isi_dict_b, isi_dict_i, isi_dict_s, isi_dict_l, isi_dict_t, isi_dict_d, notD_b, isNone_n, isNone_s, isNone_i, isNone_t, isNone_l, kPure_ap, pickD_1, pickD_2, pickD_3, pickD_4, appD_l, extD_l, List.getElem?_cons_zero, List.getElem?_cons_succ, List.set_cons_zero, List.set_cons_succ, initE, Option.map_some, List.replicate, posT, getO, fillA, putA, Bool.not_true, Bool.not_false, if_true, if_false, Bool.false_eq_true, Option.bind_some, wipeE, restE, reduceIte, List.length_cons, List.length_nil, fwp_mk, fwp_mko, Nat.reduceAdd, Nat.reduceSub, List.append_nil, List.nil_append, List.cons_append, List.reverse_cons, List.reverse_nil, Int.reduceLT, Int.reduceLE, Int.reduceAdd, Int.reduceMul, Int.reduceNeg, decide_true, decide_false, decide_eq_true_eq, Int.reduceEq, Option.map_none, and_self, and_true, true_and, Bool.true_and, Bool.false_and, Bool.or_true, Bool.or_false, List.isEmpty_nil, List.isEmpty_cons, List.getElem?_nil, Option.isSome_some, Int.cast_ofNat_Int, Bool.not_eq_true, Bool.and_true, Bool.and_self, Bool.true_or, Bool.false_or, Bool.and_false, Int.reduceSub, Int.natCast_zero, Int.reduceGT, Int.reduceGE, ne_eq, not_true_eq_false, not_false_eq_true]
  refine (take_ok (u := 6) hp1 (by omega) (by omega) (by omega)).mono ?_
  rintro _ _ ⟨b, p2, rfl, rfl, hb0, hb1, hp2⟩
  simp -implicitDefEqProofs only [owp_ok, fwp_ok, onS_s, onS_n, gR_f, gQ_f, gQ_o, gL_f, gL_o, gO_o, opL_op, wp_ret, kE_ap, kSet_ap, ifM_t, ifM_f, wp_vr, wp_vq, wp_vl, wp_vo, kBin2_ap, kBin1_ap, wp_bin, kUna_ap, wp_una, kBL2_ap, kBL1_ap, kBL0_ap, wp_binL, wp_seq0, kS2_ap, kS1_ap, wp_seq1, kTup_ap, wp_tup, kLst_ap, wp_lst, wp_seqP0, kP3_ap, kP2_ap, kP1_ap, wp_seqP1, wp_noX, kDsp_ap, wp_dsp, kBool_ap, wp_boolOf, kN_ap, kNN_ap, wp_isN, wp_isNN, kC4_ap, kC3_ap, wp_bl, kC2_ap, kC1_ap, wp_chn, kTru_ap, wp_truM, kNot_ap, wp_notM, kIf_ap, wp_andM, wp_orM, wp_ite, wp_if, kAndV2_ap, kAndV_ap, wp_andV, kOrV2_ap, kOrV_ap, wp_orV, kNotV2_ap, kNotV_ap, wp_notV, wp_part0, kPart_ap, wp_part1, kSl2_ap, kSl1_ap, kSl0_ap, wp_sl, kSL3_ap, kSL2_ap, kSL1_ap, kSL0_ap, wp_slL, wp_evA0, kA1_ap, wp_evAv, kA2_ap, wp_evAio, kCall4_ap, kCall3_ap, kCall2_ap, kCall1_ap, wp_call, kK2_ap, kK1_ap, wp_callK, wp_nx, wp_bk, wp_ct, wp_no, kSeq_nx, kSeq_rt, kSeq_ro, kSeq_bk, kSeq_ct, wp_seq, kNx_ap, kExp_ap, kRt_ap, kRo_ap, wp_expr, wp_rt, wp_rtN, wp_ro, kAsg_ap, wp_asg, wp_asgO, kI3_ap, kI2_ap, kI1_ap, kI0b_ap, kI0_ap, wp_setIx, kM2_ap, kM1_ap, kM0_ap, wp_mt, kIt_ap, kIts_ap, wp_walkA, wp_range1, wp_range2, wp_range3, wp_zipM, wp_enumM, kFor_ap, wp_for, kTurn_nx, kTurn_ct, kTurn_bk, kTurn_rt, kTurn_ro, kElt_ap, kCond_t, kCond_f, wp_lc, endF_rt, endF_nx, endO_ro, kBody_ap, addD_i, addD_s, addD_t, addD_l, subD_i, mulD_i, modD_i, ltD_i, ltD_s, leD_i, gtD_i, geD_i, negD_i, isBD_b, isnBD_b, truD_b, truD_i, truD_n, truD_l, truD_t, lenD_l, lenD_t, lenD_s, intD_i, intD_b, absD_i, listD_l, listD_t, tupD_l, tupD_t, max2D_i, min2D_i, isiD_d, revD_l, slD_l, slD_t, itemsA_l, itemsA_t, itemsA_s, ixD_l, ixD_t, zpD_l, zpD_t, setT_t, setTr_t, setNs_0, setNs_1, setN_z, setN_s, setO_z, setO_s, atI_z, atI_1, atI_2, atI_3, atI_4, setIx_0, setIx_1, setIx_2, sumD_map, rg1_i, rg2_i, eqD_i, neD_i, isi_int_n, isi_int_b, isi_int_i, isi_int_s, isi_int_l, isi_int_t, isi_int_d, isi_bool_n, isi_bool_b, isi_bool_i, isi_bool_s, isi_bool_l, isi_bool_t, isi_bool_d, isi_str_n, isi_str_b, isi_str_i, isi_str_s, isi_str_l, isi_str_t, isi_str_d, isi_list_n, isi_list_b, isi_list_i, isi_list_s, isi_list_l, isi_list_t, isi_list_d, isi_tuple_n, isi_tuple_b, isi_tuple_i, isi_tuple_s, isi_tuple_l, isi_tuple_t, isi_tuple_d, isi_dict_n, isi_dict_b, isi_dict_i, isi_dict_s, isi_dict_l, isi_dict_t, isi_dict_d, notD_b, isNone_n, isNone_s, isNone_i, isNone_t, isNone_l, kPure_ap, pickD_1, pickD_2, pickD_3, pickD_4, appD_l, extD_l, List.getElem?_cons_zero, List.getElem?_cons_succ, List.set_cons_zero, List.set_cons_succ, initE, Option.map_some, List.replicate, posT, getO, fillA, putA, Bool.not_true, Bool.not_false, if_true, if_false, Bool.false_eq_true, Option.bind_some, wipeE, restE, reduceIte, List.length_cons, List.length_nil, fwp_mk, fwp_mko, Nat.reduceAdd, Nat.reduceSub, List.append_nil, List.nil_append, List.cons_append, List.reverse_cons, List.reverse_nil, Int.reduceLT, Int.reduceLE, Int.reduceAdd, Int.reduceMul, Int.reduceNeg, decide_true, decide_false, decide_eq_true_eq, Int.reduceEq, Option.map_none, and_self, and_true, true_and, Bool.true_and, Bool.false_and, Bool.or_true, Bool.or_false, List.isEmpty_nil, List.isEmpty_cons, List.getElem?_nil, Option.isSome_some, Int.cast_ofNat_Int, Bool.not_eq_true, Bool.and_true, Bool.and_self, Bool.true_or, Bool.false_or, Bool.and_false, Int.reduceSub, Int.natCast_zero, Int.reduceGT, Int.reduceGE, ne_eq, not_true_eq_false, not_false_eq_true]
  refine (of_ok hp2 (by omega) (by simp) (by simp)).mono ?_
  rintro w _ ⟨p3, hm, rfl, hp3⟩
  simp -implicitDefEqProofs only [owp_ok, fwp_ok, onS_s, onS_n, gR_f, gQ_f, gQ_o, gL_f, gL_o, gO_o, opL_op, wp_ret, kE_ap, kSet_ap, ifM_t, ifM_f, wp_vr, wp_vq, wp_vl, wp_vo, kBin2_ap, kBin1_ap, wp_bin, kUna_ap, wp_una, kBL2_ap, kBL1_ap, kBL0_ap, wp_binL, wp_seq0, kS2_ap, kS1_ap, wp_seq1, kTup_ap, wp_tup, kLst_ap, wp_lst, wp_seqP0, kP3_ap, kP2_ap, kP1_ap, wp_seqP1, wp_noX, kDsp_ap, wp_dsp, kBool_ap, wp_boolOf, kN_ap, kNN_ap, wp_isN, wp_isNN, kC4_ap, kC3_ap, wp_bl, kC2_ap, kC1_ap, wp_chn, kTru_ap, wp_truM, kNot_ap, wp_notM, kIf_ap, wp_andM, wp_orM, wp_ite, wp_if, kAndV2_ap, kAndV_ap, wp_andV, kOrV2_ap, kOrV_ap, wp_orV, kNotV2_ap, kNotV_ap, wp_notV, wp_part0, kPart_ap, wp_part1, kSl2_ap, kSl1_ap, kSl0_ap, wp_sl, kSL3_ap, kSL2_ap, kSL1_ap, kSL0_ap, wp_slL, wp_evA0, kA1_ap, wp_evAv, kA2_ap, wp_evAio, kCall4_ap, kCall3_ap, kCall2_ap, kCall1_ap, wp_call, kK2_ap, kK1_ap, wp_callK, wp_nx, wp_bk, wp_ct, wp_no, kSeq_nx, kSeq_rt, kSeq_ro, kSeq_bk, kSeq_ct, wp_seq, kNx_ap, kExp_ap, kRt_ap, kRo_ap, wp_expr, wp_rt, wp_rtN, wp_ro, kAsg_ap, wp_asg, wp_asgO, kI3_ap, kI2_ap, kI1_ap, kI0b_ap, kI0_ap, wp_setIx, kM2_ap, kM1_ap, kM0_ap, wp_mt, kIt_ap, kIts_ap, wp_walkA, wp_range1, wp_range2, wp_range3, wp_zipM, wp_enumM, kFor_ap, wp_for, kTurn_nx, kTurn_ct, kTurn_bk, kTurn_rt, kTurn_ro, kElt_ap, kCond_t, kCond_f, wp_lc, endF_rt, endF_nx, endO_ro, kBody_ap, addD_i, addD_s, addD_t, addD_l, subD_i, mulD_i, modD_i, ltD_i, ltD_s, leD_i, gtD_i, geD_i, negD_i, isBD_b, isnBD_b, truD_b, truD_i, truD_n, truD_l, truD_t, lenD_l, lenD_t, lenD_s, intD_i, intD_b, absD_i, listD_l, listD_t, tupD_l, tupD_t, max2D_i, min2D_i, isiD_d, revD_l, slD_l, slD_t, itemsA_l, itemsA_t, itemsA_s, ixD_l, ixD_t, zpD_l, zpD_t, setT_t, setTr_t, setNs_0, setNs_1, setN_z, setN_s, setO_z, setO_s, atI_z, atI_1, atI_2, atI_3, atI_4, setIx_0, setIx_1, setIx_2, sumD_map, rg1_i, rg2_i, eqD_i, neD_i, isi_int_n, isi_int_b, isi_int_i, isi_int_s, isi_int_l, isi_int_t, isi_int_d, isi_bool_n, isi_bool_b, isi_bool_i, isi_bool_s, isi_bool_l, isi_bool_t, isi_bool_d, isi_str_n, isi_str_b, isi_str_i, isi_str_s, isi_str_l, isi_str_t, isi_str_d, isi_list_n, isi_list_b, isi_list_i, isi_list_s, isi_list_l, isi_list_t, isi_list_d, isi_tuple_n, isi_tuple_b, isi_tuple_i, isi_tuple_s, isi_tuple_l, isi_tuple_t, isi_tuple_d, isi_dict_n, isi_dict_b, isi_dict_i, isi_dict_s, isi_dict_l, isi_dict_t, isi_dict_d, notD_b, isNone_n, isNone_s, isNone_i, isNone_t, isNone_l, kPure_ap, pickD_1, pickD_2, pickD_3, pickD_4, appD_l, extD_l, List.getElem?_cons_zero, List.getElem?_cons_succ, List.set_cons_zero, List.set_cons_succ, initE, Option.map_some, List.replicate, posT, getO, fillA, putA, Bool.not_true, Bool.not_false, if_true, if_false, Bool.false_eq_true, Option.bind_some, wipeE, restE, reduceIte, List.length_cons, List.length_nil, fwp_mk, fwp_mko, Nat.reduceAdd, Nat.reduceSub, List.append_nil, List.nil_append, List.cons_append, List.reverse_cons, List.reverse_nil, Int.reduceLT, Int.reduceLE, Int.reduceAdd, Int.reduceMul, Int.reduceNeg, decide_true, decide_false, decide_eq_true_eq, Int.reduceEq, Option.map_none, and_self, and_true, true_and, Bool.true_and, Bool.false_and, Bool.or_true, Bool.or_false, List.isEmpty_nil, List.isEmpty_cons, List.getElem?_nil, Option.isSome_some, Int.cast_ofNat_Int, Bool.not_eq_true, Bool.and_true, Bool.and_self, Bool.true_or, Bool.false_or, Bool.and_false, Int.reduceSub, Int.natCast_zero, Int.reduceGT, Int.reduceGE, ne_eq, not_true_eq_false, not_false_eq_true]
  refine ⟨p3, ?_, rfl, hp3.mono (by omega)⟩
  simp only [List.mem_cons, List.not_mem_nil, or_false] at hm
  rcases hm with rfl | rfl | rfl | rfl | rfl | rfl
  · exact .inl rfl
  · exact .inr (.inl rfl)
  · exact .inr (.inl rfl)
  · exact .inr (.inr (.inl rfl))
  · exact .inr (.inr (.inr ⟨5, 3, rfl, by omega, by omega, by omega, by omega⟩))
  · exact .inr (.inr (.inr ⟨1 + a, 1 + b, rfl, by omega, by omega, by omega, by omega⟩))
theorem row_ok {n h : Int} {p : D} (hp : PotOk n p) (hn : n ≤ 1000000000000000000) (hh : HoursOk h) : Fwp (F__law_row [p, .int h]) fun d outs => ∃ p', RowOk h d ∧ outs = [p'] ∧ PotOk (n + 8) p' := by
  have h1 : 1 ≤ h ∧ h ≤ 24 := by rcases hh with rfl | rfl | rfl | rfl | rfl <;> omega
  unfold F__law_row
  rw [fwp_mk]
  simp -implicitDefEqProofs only [owp_ok, fwp_ok, onS_s, onS_n, gR_f, gQ_f, gQ_o, gL_f, gL_o, gO_o, opL_op, wp_ret, kE_ap, kSet_ap, ifM_t, ifM_f, wp_vr, wp_vq, wp_vl, wp_vo, kBin2_ap, kBin1_ap, wp_bin, kUna_ap, wp_una, kBL2_ap, kBL1_ap, kBL0_ap, wp_binL, wp_seq0, kS2_ap, kS1_ap, wp_seq1, kTup_ap, wp_tup, kLst_ap, wp_lst, wp_seqP0, kP3_ap, kP2_ap, kP1_ap, wp_seqP1, wp_noX, kDsp_ap, wp_dsp, kBool_ap, wp_boolOf, kN_ap, kNN_ap, wp_isN, wp_isNN, kC4_ap, kC3_ap, wp_bl, kC2_ap, kC1_ap, wp_chn, kTru_ap, wp_truM, kNot_ap, wp_notM, kIf_ap, wp_andM, wp_orM, wp_ite, wp_if, kAndV2_ap, kAndV_ap, wp_andV, kOrV2_ap, kOrV_ap, wp_orV, kNotV2_ap, kNotV_ap, wp_notV, wp_part0, kPart_ap, wp_part1, kSl2_ap, kSl1_ap, kSl0_ap, wp_sl, kSL3_ap, kSL2_ap, kSL1_ap, kSL0_ap, wp_slL, wp_evA0, kA1_ap, wp_evAv, kA2_ap, wp_evAio, kCall4_ap, kCall3_ap, kCall2_ap, kCall1_ap, wp_call, kK2_ap, kK1_ap, wp_callK, wp_nx, wp_bk, wp_ct, wp_no, kSeq_nx, kSeq_rt, kSeq_ro, kSeq_bk, kSeq_ct, wp_seq, kNx_ap, kExp_ap, kRt_ap, kRo_ap, wp_expr, wp_rt, wp_rtN, wp_ro, kAsg_ap, wp_asg, wp_asgO, kI3_ap, kI2_ap, kI1_ap, kI0b_ap, kI0_ap, wp_setIx, kM2_ap, kM1_ap, kM0_ap, wp_mt, kIt_ap, kIts_ap, wp_walkA, wp_range1, wp_range2, wp_range3, wp_zipM, wp_enumM, kFor_ap, wp_for, kTurn_nx, kTurn_ct, kTurn_bk, kTurn_rt, kTurn_ro, kElt_ap, kCond_t, kCond_f, wp_lc, endF_rt, endF_nx, endO_ro, kBody_ap, addD_i, addD_s, addD_t, addD_l, subD_i, mulD_i, modD_i, ltD_i, ltD_s, leD_i, gtD_i, geD_i, negD_i, isBD_b, isnBD_b, truD_b, truD_i, truD_n, truD_l, truD_t, lenD_l, lenD_t, lenD_s, intD_i, intD_b, absD_i, listD_l, listD_t, tupD_l, tupD_t, max2D_i, min2D_i, isiD_d, revD_l, slD_l, slD_t, itemsA_l, itemsA_t, itemsA_s, ixD_l, ixD_t, zpD_l, zpD_t, setT_t, setTr_t, setNs_0, setNs_1, setN_z, setN_s, setO_z, setO_s, atI_z, atI_1, atI_2, atI_3, atI_4, setIx_0, setIx_1, setIx_2, sumD_map, rg1_i, rg2_i, eqD_i, neD_i, isi_int_n, isi_int_b, isi_int_i, isi_int_s, isi_int_l, isi_int_t, isi_int_d, isi_bool_n, isi_bool_b, isi_bool_i, isi_bool_s, isi_bool_l, isi_bool_t, isi_bool_d, isi_str_n, isi_str_b, isi_str_i, isi_str_s, isi_str_l, isi_str_t, isi_str_d, isi_list_n, isi_list_b, isi_list_i, isi_list_s, isi_list_l, isi_list_t, isi_list_d, isi_tuple_n, isi_tuple_b, isi_tuple_i, isi_tuple_s, isi_tuple_l, isi_tuple_t, isi_tuple_d, isi_dict_n, isi_dict_b, isi_dict_i, isi_dict_s, isi_dict_l, isi_dict_t, isi_dict_d, notD_b, isNone_n, isNone_s, isNone_i, isNone_t, isNone_l, kPure_ap, pickD_1, pickD_2, pickD_3, pickD_4, appD_l, extD_l, List.getElem?_cons_zero, List.getElem?_cons_succ, List.set_cons_zero, List.set_cons_succ, initE, Option.map_some, List.replicate, posT, getO, fillA, putA, Bool.not_true, Bool.not_false, if_true, if_false, Bool.false_eq_true, Option.bind_some, wipeE, restE, reduceIte, List.length_cons, List.length_nil, fwp_mk, fwp_mko, Nat.reduceAdd, Nat.reduceSub, List.append_nil, List.nil_append, List.cons_append, List.reverse_cons, List.reverse_nil, Int.reduceLT, Int.reduceLE, Int.reduceAdd, Int.reduceMul, Int.reduceNeg, decide_true, decide_false, decide_eq_true_eq, Int.reduceEq, Option.map_none, and_self, and_true, true_and, Bool.true_and, Bool.false_and, Bool.or_true, Bool.or_false, List.isEmpty_nil, List.isEmpty_cons, List.getElem?_nil, Option.isSome_some, Int.cast_ofNat_Int, Bool.not_eq_true, Bool.and_true, Bool.and_self, Bool.true_or, Bool.false_or, Bool.and_false, Int.reduceSub, Int.natCast_zero, Int.reduceGT, Int.reduceGE, ne_eq, not_true_eq_false, not_false_eq_true, B__law_row, mulOk_l (i := 7) (j := h) (by omega)]
  refine (take_ok (u := 7 * h) hp (by omega) (by omega) (by omega)).mono ?_
  rintro _ _ ⟨b, p1, rfl, rfl, hb0, hb1, hp1⟩
  simp -implicitDefEqProofs only [owp_ok, fwp_ok, onS_s, onS_n, gR_f, gQ_f, gQ_o, gL_f, gL_o, gO_o, opL_op, wp_ret, kE_ap, kSet_ap, ifM_t, ifM_f, wp_vr, wp_vq, wp_vl, wp_vo, kBin2_ap, kBin1_ap, wp_bin, kUna_ap, wp_una, kBL2_ap, kBL1_ap, kBL0_ap, wp_binL, wp_seq0, kS2_ap, kS1_ap, wp_seq1, kTup_ap, wp_tup, kLst_ap, wp_lst, wp_seqP0, kP3_ap, kP2_ap, kP1_ap, wp_seqP1, wp_noX, kDsp_ap, wp_dsp, kBool_ap, wp_boolOf, kN_ap, kNN_ap, wp_isN, wp_isNN, kC4_ap, kC3_ap, wp_bl, kC2_ap, kC1_ap, wp_chn, kTru_ap, wp_truM, kNot_ap, wp_notM, kIf_ap, wp_andM, wp_orM, wp_ite, wp_if, kAndV2_ap, kAndV_ap, wp_andV, kOrV2_ap, kOrV_ap, wp_orV, kNotV2_ap, kNotV_ap, wp_notV, wp_part0, kPart_ap, wp_part1, kSl2_ap, kSl1_ap, kSl0_ap, wp_sl, kSL3_ap, kSL2_ap, kSL1_ap, kSL0_ap, wp_slL, wp_evA0, kA1_ap, wp_evAv, kA2_ap, wp_evAio, kCall4_ap, kCall3_ap, kCall2_ap, kCall1_ap, wp_call, kK2_ap, kK1_ap, wp_callK, wp_nx, wp_bk, wp_ct, wp_no, kSeq_nx, kSeq_rt, kSeq_ro, kSeq_bk, kSeq_ct, wp_seq, kNx_ap, kExp_ap, kRt_ap, kRo_ap, wp_expr, wp_rt, wp_rtN, wp_ro, kAsg_ap, wp_asg, wp_asgO, kI3_ap, kI2_ap, kI1_ap, kI0b_ap, kI0_ap, wp_setIx, kM2_ap, kM1_ap, kM0_ap, wp_mt, kIt_ap, kIts_ap, wp_walkA, wp_range1, wp_range2, wp_range3, wp_zipM, wp_enumM, kFor_ap, wp_for, kTurn_nx, kTurn_ct, kTurn_bk, kTurn_rt, kTurn_ro, kElt_ap, kCond_t, kCond_f, wp_lc, endF_rt, endF_nx, endO_ro, kBody_ap, addD_i, addD_s, addD_t, addD_l, subD_i, mulD_i, modD_i, ltD_i, ltD_s, leD_i, gtD_i, geD_i, negD_i, isBD_b, isnBD_b, truD_b, truD_i, truD_n, truD_l, truD_t, lenD_l, lenD_t, lenD_s, intD_i, intD_b, absD_i, listD_l, listD_t, tupD_l, tupD_t, max2D_i, min2D_i, isiD_d, revD_l, slD_l, slD_t, itemsA_l, itemsA_t, itemsA_s, ixD_l, ixD_t, zpD_l, zpD_t, setT_t, setTr_t, setNs_0, setNs_1, setN_z, setN_s, setO_z, setO_s, atI_z, atI_1, atI_2, atI_3, atI_4, setIx_0, setIx_1, setIx_2, sumD_map, rg1_i, rg2_i, eqD_i, neD_i, isi_int_n, isi_int_b, isi_int_i, isi_int_s, isi_int_l, isi_int_t, isi_int_d, isi_bool_n, isi_bool_b, isi_bool_i, isi_bool_s, isi_bool_l, isi_bool_t, isi_bool_d, isi_str_n, isi_str_b, isi_str_i, isi_str_s, isi_str_l, isi_str_t, isi_str_d, isi_list_n, isi_list_b, isi_list_i, isi_list_s, isi_list_l, isi_list_t, isi_list_d, isi_tuple_n, isi_tuple_b, isi_tuple_i, isi_tuple_s, isi_tuple_l, isi_tuple_t, isi_tuple_d, isi_dict_n, isi_dict_b, isi_dict_i, isi_dict_s, isi_dict_l, isi_dict_t, isi_dict_d, notD_b, isNone_n, isNone_s, isNone_i, isNone_t, isNone_l, kPure_ap, pickD_1, pickD_2, pickD_3, pickD_4, appD_l, extD_l, List.getElem?_cons_zero, List.getElem?_cons_succ, List.set_cons_zero, List.set_cons_succ, initE, Option.map_some, List.replicate, posT, getO, fillA, putA, Bool.not_true, Bool.not_false, if_true, if_false, Bool.false_eq_true, Option.bind_some, wipeE, restE, reduceIte, List.length_cons, List.length_nil, fwp_mk, fwp_mko, Nat.reduceAdd, Nat.reduceSub, List.append_nil, List.nil_append, List.cons_append, List.reverse_cons, List.reverse_nil, Int.reduceLT, Int.reduceLE, Int.reduceAdd, Int.reduceMul, Int.reduceNeg, decide_true, decide_false, decide_eq_true_eq, Int.reduceEq, Option.map_none, and_self, and_true, true_and, Bool.true_and, Bool.false_and, Bool.or_true, Bool.or_false, List.isEmpty_nil, List.isEmpty_cons, List.getElem?_nil, Option.isSome_some, Int.cast_ofNat_Int, Bool.not_eq_true, Bool.and_true, Bool.and_self, Bool.true_or, Bool.false_or, Bool.and_false, Int.reduceSub, Int.natCast_zero, Int.reduceGT, Int.reduceGE, ne_eq, not_true_eq_false, not_false_eq_true]
  refine (take_ok (u := h) hp1 (by omega) (by omega) (by omega)).mono ?_
  rintro _ _ ⟨l, p2, rfl, rfl, hl0, hl1, hp2⟩
  simp -implicitDefEqProofs only [owp_ok, fwp_ok, onS_s, onS_n, gR_f, gQ_f, gQ_o, gL_f, gL_o, gO_o, opL_op, wp_ret, kE_ap, kSet_ap, ifM_t, ifM_f, wp_vr, wp_vq, wp_vl, wp_vo, kBin2_ap, kBin1_ap, wp_bin, kUna_ap, wp_una, kBL2_ap, kBL1_ap, kBL0_ap, wp_binL, wp_seq0, kS2_ap, kS1_ap, wp_seq1, kTup_ap, wp_tup, kLst_ap, wp_lst, wp_seqP0, kP3_ap, kP2_ap, kP1_ap, wp_seqP1, wp_noX, kDsp_ap, wp_dsp, kBool_ap, wp_boolOf, kN_ap, kNN_ap, wp_isN, wp_isNN, kC4_ap, kC3_ap, wp_bl, kC2_ap, kC1_ap, wp_chn, kTru_ap, wp_truM, kNot_ap, wp_notM, kIf_ap, wp_andM, wp_orM, wp_ite, wp_if, kAndV2_ap, kAndV_ap, wp_andV, kOrV2_ap, kOrV_ap, wp_orV, kNotV2_ap, kNotV_ap, wp_notV, wp_part0, kPart_ap, wp_part1, kSl2_ap, kSl1_ap, kSl0_ap, wp_sl, kSL3_ap, kSL2_ap, kSL1_ap, kSL0_ap, wp_slL, wp_evA0, kA1_ap, wp_evAv, kA2_ap, wp_evAio, kCall4_ap, kCall3_ap, kCall2_ap, kCall1_ap, wp_call, kK2_ap, kK1_ap, wp_callK, wp_nx, wp_bk, wp_ct, wp_no, kSeq_nx, kSeq_rt, kSeq_ro, kSeq_bk, kSeq_ct, wp_seq, kNx_ap, kExp_ap, kRt_ap, kRo_ap, wp_expr, wp_rt, wp_rtN, wp_ro, kAsg_ap, wp_asg, wp_asgO, kI3_ap, kI2_ap, kI1_ap, kI0b_ap, kI0_ap, wp_setIx, kM2_ap, kM1_ap, kM0_ap, wp_mt, kIt_ap, kIts_ap, wp_walkA, wp_range1, wp_range2, wp_range3, wp_zipM, wp_enumM, kFor_ap, wp_for, kTurn_nx, kTurn_ct, kTurn_bk, kTurn_rt, kTurn_ro, kElt_ap, kCond_t, kCond_f, wp_lc, endF_rt, endF_nx, endO_ro, kBody_ap, addD_i, addD_s, addD_t, addD_l, subD_i, mulD_i, modD_i, ltD_i, ltD_s, leD_i, gtD_i, geD_i, negD_i, isBD_b, isnBD_b, truD_b, truD_i, truD_n, truD_l, truD_t, lenD_l, lenD_t, lenD_s, intD_i, intD_b, absD_i, listD_l, listD_t, tupD_l, tupD_t, max2D_i, min2D_i, isiD_d, revD_l, slD_l, slD_t, itemsA_l, itemsA_t, itemsA_s, ixD_l, ixD_t, zpD_l, zpD_t, setT_t, setTr_t, setNs_0, setNs_1, setN_z, setN_s, setO_z, setO_s, atI_z, atI_1, atI_2, atI_3, atI_4, setIx_0, setIx_1, setIx_2, sumD_map, rg1_i, rg2_i, eqD_i, neD_i, isi_int_n, isi_int_b, isi_int_i, isi_int_s, isi_int_l, isi_int_t, isi_int_d, isi_bool_n, isi_bool_b, isi_bool_i, isi_bool_s, isi_bool_l, isi_bool_t, isi_bool_d, isi_str_n, isi_str_b, isi_str_i, isi_str_s, isi_str_l, isi_str_t, isi_str_d, isi_list_n, isi_list_b, isi_list_i, isi_list_s, isi_list_l, isi_list_t, isi_list_d, isi_tuple_n, isi_tuple_b, isi_tuple_i, isi_tuple_s, isi_tuple_l, isi_tuple_t, isi_tuple_d, isi_dict_n, isi_dict_b, isi_dict_i, isi_dict_s, isi_dict_l, isi_dict_t, isi_dict_d, notD_b, isNone_n, isNone_s, isNone_i, isNone_t, isNone_l, kPure_ap, pickD_1, pickD_2, pickD_3, pickD_4, appD_l, extD_l, List.getElem?_cons_zero, List.getElem?_cons_succ, List.set_cons_zero, List.set_cons_succ, initE, Option.map_some, List.replicate, posT, getO, fillA, putA, Bool.not_true, Bool.not_false, if_true, if_false, Bool.false_eq_true, Option.bind_some, wipeE, restE, reduceIte, List.length_cons, List.length_nil, fwp_mk, fwp_mko, Nat.reduceAdd, Nat.reduceSub, List.append_nil, List.nil_append, List.cons_append, List.reverse_cons, List.reverse_nil, Int.reduceLT, Int.reduceLE, Int.reduceAdd, Int.reduceMul, Int.reduceNeg, decide_true, decide_false, decide_eq_true_eq, Int.reduceEq, Option.map_none, and_self, and_true, true_and, Bool.true_and, Bool.false_and, Bool.or_true, Bool.or_false, List.isEmpty_nil, List.isEmpty_cons, List.getElem?_nil, Option.isSome_some, Int.cast_ofNat_Int, Bool.not_eq_true, Bool.and_true, Bool.and_self, Bool.true_or, Bool.false_or, Bool.and_false, Int.reduceSub, Int.natCast_zero, Int.reduceGT, Int.reduceGE, ne_eq, not_true_eq_false, not_false_eq_true]
  refine (of_ok hp2 (by omega) (by simp) (by simp)).mono ?_
  rintro w _ ⟨p3, hm, rfl, hp3⟩
  obtain ⟨len, rfl, hlen⟩ : ∃ len : Int, w = .int len ∧ 0 ≤ len ∧ len ≤ h := by
    simp only [List.mem_cons, List.not_mem_nil, or_false] at hm
    rcases hm with rfl | rfl | rfl | rfl
    · exact ⟨0, rfl, by omega⟩
    · exact ⟨1, rfl, by omega⟩
    · exact ⟨h, rfl, by omega⟩
    · exact ⟨1 + l, rfl, by omega⟩
  simp -implicitDefEqProofs only [owp_ok, fwp_ok, onS_s, onS_n, gR_f, gQ_f, gQ_o, gL_f, gL_o, gO_o, opL_op, wp_ret, kE_ap, kSet_ap, ifM_t, ifM_f, wp_vr, wp_vq, wp_vl, wp_vo, kBin2_ap, kBin1_ap, wp_bin, kUna_ap, wp_una, kBL2_ap, kBL1_ap, kBL0_ap, wp_binL, wp_seq0, kS2_ap, kS1_ap, wp_seq1, kTup_ap, wp_tup, kLst_ap, wp_lst, wp_seqP0, kP3_ap, kP2_ap, kP1_ap, wp_seqP1, wp_noX, kDsp_ap, wp_dsp, kBool_ap, wp_boolOf, kN_ap, kNN_ap, wp_isN, wp_isNN, kC4_ap, kC3_ap, wp_bl, kC2_ap, kC1_ap, wp_chn, kTru_ap, wp_truM, kNot_ap, wp_notM, kIf_ap, wp_andM, wp_orM, wp_ite, wp_if, kAndV2_ap, kAndV_ap, wp_andV, kOrV2_ap, kOrV_ap, wp_orV, kNotV2_ap, kNotV_ap, wp_notV, wp_part0, kPart_ap, wp_part1, kSl2_ap, kSl1_ap, kSl0_ap, wp_sl, kSL3_ap, kSL2_ap, kSL1_ap, kSL0_ap, wp_slL, wp_evA0, kA1_ap, wp_evAv, kA2_ap, wp_evAio, kCall4_ap, kCall3_ap, kCall2_ap, kCall1_ap, wp_call, kK2_ap, kK1_ap, wp_callK, wp_nx, wp_bk, wp_ct, wp_no, kSeq_nx, kSeq_rt, kSeq_ro, kSeq_bk, kSeq_ct, wp_seq, kNx_ap, kExp_ap, kRt_ap, kRo_ap, wp_expr, wp_rt, wp_rtN, wp_ro, kAsg_ap, wp_asg, wp_asgO, kI3_ap, kI2_ap, kI1_ap, kI0b_ap, kI0_ap, wp_setIx, kM2_ap, kM1_ap, kM0_ap, wp_mt, kIt_ap, kIts_ap, wp_walkA, wp_range1, wp_range2, wp_range3, wp_zipM, wp_enumM, kFor_ap, wp_for, kTurn_nx, kTurn_ct, kTurn_bk, kTurn_rt, kTurn_ro, kElt_ap, kCond_t, kCond_f, wp_lc, endF_rt, endF_nx, endO_ro, kBody_ap, addD_i, addD_s, addD_t, addD_l, subD_i, mulD_i, modD_i, ltD_i, ltD_s, leD_i, gtD_i, geD_i, negD_i, isBD_b, isnBD_b, truD_b, truD_i, truD_n, truD_l, truD_t, lenD_l, lenD_t, lenD_s, intD_i, intD_b, absD_i, listD_l, listD_t, tupD_l, tupD_t, max2D_i, min2D_i, isiD_d, revD_l, slD_l, slD_t, itemsA_l, itemsA_t, itemsA_s, ixD_l, ixD_t, zpD_l, zpD_t, setT_t, setTr_t, setNs_0, setNs_1, setN_z, setN_s, setO_z, setO_s, atI_z, atI_1, atI_2, atI_3, atI_4, setIx_0, setIx_1, setIx_2, sumD_map, rg1_i, rg2_i, eqD_i, neD_i, isi_int_n, isi_int_b, isi_int_i, isi_int_s, isi_int_l, isi_int_t, isi_int_d, isi_bool_n, isi_bool_b, isi_bool_i, isi_bool_s, isi_bool_l, isi_bool_t, isi_bool_d, isi_str_n, isi_str_b, isi_str_i, isi_str_s, isi_str_l, isi_str_t, isi_str_d, isi_list_n, isi_list_b, isi_list_i, isi_list_s, isi_list_l, isi_list_t, isi_list_d, isi_tuple_n, isi_tuple_b, isi_tuple_i, isi_tuple_s, isi_tuple_l, isi_tuple_t, isi_tuple_d, isi_dict_n, isi_dict_b, isi_dict_i, isi_dict_s, isi_dict_l, isi_dict_t, isi_dict_d, notD_b, isNone_n, isNone_s, isNone_i, isNone_t, isNone_l, kPure_ap, pickD_1, pickD_2, pickD_3, pickD_4, appD_l, extD_l, List.getElem?_cons_zero, List.getElem?_cons_succ, List.set_cons_zero, List.set_cons_succ, initE, Option.map_some, List.replicate, posT, getO, fillA, putA, Bool.not_true, Bool.not_false, if_true, if_false, Bool.false_eq_true, Option.bind_some, wipeE, restE, reduceIte, List.length_cons, List.length_nil, fwp_mk, fwp_mko, Nat.reduceAdd, Nat.reduceSub, List.append_nil, List.nil_append, List.cons_append, List.reverse_cons, List.reverse_nil, Int.reduceLT, Int.reduceLE, Int.reduceAdd, Int.reduceMul, Int.reduceNeg, decide_true, decide_false, decide_eq_true_eq, Int.reduceEq, Option.map_none, and_self, and_true, true_and, Bool.true_and, Bool.false_and, Bool.or_true, Bool.or_false, List.isEmpty_nil, List.isEmpty_cons, List.getElem?_nil, Option.isSome_some, Int.cast_ofNat_Int, Bool.not_eq_true, Bool.and_true, Bool.and_self, Bool.true_or, Bool.false_or, Bool.and_false, Int.reduceSub, Int.natCast_zero, Int.reduceGT, Int.reduceGE, ne_eq, not_true_eq_false, not_false_eq_true]
  refine (of_ok hp3 (by omega) (by simp) (by simp)).mono ?_
  rintro dd _ ⟨p4, hd, rfl, hp4⟩
  simp -implicitDefEqProofs only [owp_ok, fwp_ok, onS_s, onS_n, gR_f, gQ_f, gQ_o, gL_f, gL_o, gO_o, opL_op, wp_ret, kE_ap, kSet_ap, ifM_t, ifM_f, wp_vr, wp_vq, wp_vl, wp_vo, kBin2_ap, kBin1_ap, wp_bin, kUna_ap, wp_una, kBL2_ap, kBL1_ap, kBL0_ap, wp_binL, wp_seq0, kS2_ap, kS1_ap, wp_seq1, kTup_ap, wp_tup, kLst_ap, wp_lst, wp_seqP0, kP3_ap, kP2_ap, kP1_ap, wp_seqP1, wp_noX, kDsp_ap, wp_dsp, kBool_ap, wp_boolOf, kN_ap, kNN_ap, wp_isN, wp_isNN, kC4_ap, kC3_ap, wp_bl, kC2_ap, kC1_ap, wp_chn, kTru_ap, wp_truM, kNot_ap, wp_notM, kIf_ap, wp_andM, wp_orM, wp_ite, wp_if, kAndV2_ap, kAndV_ap, wp_andV, kOrV2_ap, kOrV_ap, wp_orV, kNotV2_ap, kNotV_ap, wp_notV, wp_part0, kPart_ap, wp_part1, kSl2_ap, kSl1_ap, kSl0_ap, wp_sl, kSL3_ap, kSL2_ap, kSL1_ap, kSL0_ap, wp_slL, wp_evA0, kA1_ap, wp_evAv, kA2_ap, wp_evAio, kCall4_ap, kCall3_ap, kCall2_ap, kCall1_ap, wp_call, kK2_ap, kK1_ap, wp_callK, wp_nx, wp_bk, wp_ct, wp_no, kSeq_nx, kSeq_rt, kSeq_ro, kSeq_bk, kSeq_ct, wp_seq, kNx_ap, kExp_ap, kRt_ap, kRo_ap, wp_expr, wp_rt, wp_rtN, wp_ro, kAsg_ap, wp_asg, wp_asgO, kI3_ap, kI2_ap, kI1_ap, kI0b_ap, kI0_ap, wp_setIx, kM2_ap, kM1_ap, kM0_ap, wp_mt, kIt_ap, kIts_ap, wp_walkA, wp_range1, wp_range2, wp_range3, wp_zipM, wp_enumM, kFor_ap, wp_for, kTurn_nx, kTurn_ct, kTurn_bk, kTurn_rt, kTurn_ro, kElt_ap, kCond_t, kCond_f, wp_lc, endF_rt, endF_nx, endO_ro, kBody_ap, addD_i, addD_s, addD_t, addD_l, subD_i, mulD_i, modD_i, ltD_i, ltD_s, leD_i, gtD_i, geD_i, negD_i, isBD_b, isnBD_b, truD_b, truD_i, truD_n, truD_l, truD_t, lenD_l, lenD_t, lenD_s, intD_i, intD_b, absD_i, listD_l, listD_t, tupD_l, tupD_t, max2D_i, min2D_i, isiD_d, revD_l, slD_l, slD_t, itemsA_l, itemsA_t, itemsA_s, ixD_l, ixD_t, zpD_l, zpD_t, setT_t, setTr_t, setNs_0, setNs_1, setN_z, setN_s, setO_z, setO_s, atI_z, atI_1, atI_2, atI_3, atI_4, setIx_0, setIx_1, setIx_2, sumD_map, rg1_i, rg2_i, eqD_i, neD_i, isi_int_n, isi_int_b, isi_int_i, isi_int_s, isi_int_l, isi_int_t, isi_int_d, isi_bool_n, isi_bool_b, isi_bool_i, isi_bool_s, isi_bool_l, isi_bool_t, isi_bool_d, isi_str_n, isi_str_b, isi_str_i, isi_str_s, isi_str_l, isi_str_t, isi_str_d, isi_list_n, isi_list_b, isi_list_i, isi_list_s, isi_list_l, isi_list_t, isi_list_d, isi_tuple_n, isi_tuple_b, isi_tuple_i, isi_tuple_s, isi_tuple_l, isi_tuple_t, isi_tuple_d, isi_dict_n, isi_dict_b, isi_dict_i, isi_dict_s, isi_dict_l, isi_dict_t, isi_dict_d, notD_b, isNone_n, isNone_s, isNone_i, isNone_t, isNone_l, kPure_ap, pickD_1, pickD_2, pickD_3, pickD_4, appD_l, extD_l, List.getElem?_cons_zero, List.getElem?_cons_succ, List.set_cons_zero, List.set_cons_succ, initE, Option.map_some, List.replicate, posT, getO, fillA, putA, Bool.not_true, Bool.not_false, if_true, if_false, Bool.false_eq_true, Option.bind_some, wipeE, restE, reduceIte, List.length_cons, List.length_nil, fwp_mk, fwp_mko, Nat.reduceAdd, Nat.reduceSub, List.append_nil, List.nil_append, List.cons_append, List.reverse_cons, List.reverse_nil, Int.reduceLT, Int.reduceLE, Int.reduceAdd, Int.reduceMul, Int.reduceNeg, decide_true, decide_false, decide_eq_true_eq, Int.reduceEq, Option.map_none, and_self, and_true, true_and, Bool.true_and, Bool.false_and, Bool.or_true, Bool.or_false, List.isEmpty_nil, List.isEmpty_cons, List.getElem?_nil, Option.isSome_some, Int.cast_ofNat_Int, Bool.not_eq_true, Bool.and_true, Bool.and_self, Bool.true_or, Bool.false_or, Bool.and_false, Int.reduceSub, Int.natCast_zero, Int.reduceGT, Int.reduceGE, ne_eq, not_true_eq_false, not_false_eq_true]
  refine (of_ok hp4 (by omega) (by simp) (by simp)).mono ?_
  rintro kk _ ⟨p5, hk, rfl, hp5⟩
  have h7 : 0 < 7 * h := by omega
  simp -implicitDefEqProofs only [owp_ok, fwp_ok, onS_s, onS_n, gR_f, gQ_f, gQ_o, gL_f, gL_o, gO_o, opL_op, wp_ret, kE_ap, kSet_ap, ifM_t, ifM_f, wp_vr, wp_vq, wp_vl, wp_vo, kBin2_ap, kBin1_ap, wp_bin, kUna_ap, wp_una, kBL2_ap, kBL1_ap, kBL0_ap, wp_binL, wp_seq0, kS2_ap, kS1_ap, wp_seq1, kTup_ap, wp_tup, kLst_ap, wp_lst, wp_seqP0, kP3_ap, kP2_ap, kP1_ap, wp_seqP1, wp_noX, kDsp_ap, wp_dsp, kBool_ap, wp_boolOf, kN_ap, kNN_ap, wp_isN, wp_isNN, kC4_ap, kC3_ap, wp_bl, kC2_ap, kC1_ap, wp_chn, kTru_ap, wp_truM, kNot_ap, wp_notM, kIf_ap, wp_andM, wp_orM, wp_ite, wp_if, kAndV2_ap, kAndV_ap, wp_andV, kOrV2_ap, kOrV_ap, wp_orV, kNotV2_ap, kNotV_ap, wp_notV, wp_part0, kPart_ap, wp_part1, kSl2_ap, kSl1_ap, kSl0_ap, wp_sl, kSL3_ap, kSL2_ap, kSL1_ap, kSL0_ap, wp_slL, wp_evA0, kA1_ap, wp_evAv, kA2_ap, wp_evAio, kCall4_ap, kCall3_ap, kCall2_ap, kCall1_ap, wp_call, kK2_ap, kK1_ap, wp_callK, wp_nx, wp_bk, wp_ct, wp_no, kSeq_nx, kSeq_rt, kSeq_ro, kSeq_bk, kSeq_ct, wp_seq, kNx_ap, kExp_ap, kRt_ap, kRo_ap, wp_expr, wp_rt, wp_rtN, wp_ro, kAsg_ap, wp_asg, wp_asgO, kI3_ap, kI2_ap, kI1_ap, kI0b_ap, kI0_ap, wp_setIx, kM2_ap, kM1_ap, kM0_ap, wp_mt, kIt_ap, kIts_ap, wp_walkA, wp_range1, wp_range2, wp_range3, wp_zipM, wp_enumM, kFor_ap, wp_for, kTurn_nx, kTurn_ct, kTurn_bk, kTurn_rt, kTurn_ro, kElt_ap, kCond_t, kCond_f, wp_lc, endF_rt, endF_nx, endO_ro, kBody_ap, addD_i, addD_s, addD_t, addD_l, subD_i, mulD_i, modD_i, ltD_i, ltD_s, leD_i, gtD_i, geD_i, negD_i, isBD_b, isnBD_b, truD_b, truD_i, truD_n, truD_l, truD_t, lenD_l, lenD_t, lenD_s, intD_i, intD_b, absD_i, listD_l, listD_t, tupD_l, tupD_t, max2D_i, min2D_i, isiD_d, revD_l, slD_l, slD_t, itemsA_l, itemsA_t, itemsA_s, ixD_l, ixD_t, zpD_l, zpD_t, setT_t, setTr_t, setNs_0, setNs_1, setN_z, setN_s, setO_z, setO_s, atI_z, atI_1, atI_2, atI_3, atI_4, setIx_0, setIx_1, setIx_2, sumD_map, rg1_i, rg2_i, eqD_i, neD_i, isi_int_n, isi_int_b, isi_int_i, isi_int_s, isi_int_l, isi_int_t, isi_int_d, isi_bool_n, isi_bool_b, isi_bool_i, isi_bool_s, isi_bool_l, isi_bool_t, isi_bool_d, isi_str_n, isi_str_b, isi_str_i, isi_str_s, isi_str_l, isi_str_t, isi_str_d, isi_list_n, isi_list_b, isi_list_i, isi_list_s, isi_list_l, isi_list_t, isi_list_d, isi_tuple_n, isi_tuple_b, isi_tuple_i, isi_tuple_s, isi_tuple_l, isi_tuple_t, isi_tuple_d, isi_dict_n, isi_dict_b, isi_dict_i, isi_dict_s, isi_dict_l, isi_dict_t, isi_dict_d, notD_b, isNone_n, isNone_s, isNone_i, isNone_t, isNone_l, kPure_ap, pickD_1, pickD_2, pickD_3, pickD_4, appD_l, extD_l, List.getElem?_cons_zero, List.getElem?_cons_succ, List.set_cons_zero, List.set_cons_succ, initE, Option.map_some, List.replicate, posT, getO, fillA, putA, Bool.not_true, Bool.not_false, if_true, if_false, Bool.false_eq_true, Option.bind_some, wipeE, restE, reduceIte, List.length_cons, List.length_nil, fwp_mk, fwp_mko, Nat.reduceAdd, Nat.reduceSub, List.append_nil, List.nil_append, List.cons_append, List.reverse_cons, List.reverse_nil, Int.reduceLT, Int.reduceLE, Int.reduceAdd, Int.reduceMul, Int.reduceNeg, decide_true, decide_false, decide_eq_true_eq, Int.reduceEq, Option.map_none, and_self, and_true, true_and, Bool.true_and, Bool.false_and, Bool.or_true, Bool.or_false, List.isEmpty_nil, List.isEmpty_cons, List.getElem?_nil, Option.isSome_some, Int.cast_ofNat_Int, Bool.not_eq_true, Bool.and_true, Bool.and_self, Bool.true_or, Bool.false_or, Bool.and_false, Int.reduceSub, Int.natCast_zero, Int.reduceGT, Int.reduceGE, ne_eq, not_true_eq_false, not_false_eq_true, mulOk_l (i := 7) (j := h) (by omega), h7]
  refine (answer_ok hp5 (by omega)).mono ?_
  rintro ww _ ⟨p6, hw, rfl, hp6⟩
  simp -implicitDefEqProofs only [owp_ok, fwp_ok, onS_s, onS_n, gR_f, gQ_f, gQ_o, gL_f, gL_o, gO_o, opL_op, wp_ret, kE_ap, kSet_ap, ifM_t, ifM_f, wp_vr, wp_vq, wp_vl, wp_vo, kBin2_ap, kBin1_ap, wp_bin, kUna_ap, wp_una, kBL2_ap, kBL1_ap, kBL0_ap, wp_binL, wp_seq0, kS2_ap, kS1_ap, wp_seq1, kTup_ap, wp_tup, kLst_ap, wp_lst, wp_seqP0, kP3_ap, kP2_ap, kP1_ap, wp_seqP1, wp_noX, kDsp_ap, wp_dsp, kBool_ap, wp_boolOf, kN_ap, kNN_ap, wp_isN, wp_isNN, kC4_ap, kC3_ap, wp_bl, kC2_ap, kC1_ap, wp_chn, kTru_ap, wp_truM, kNot_ap, wp_notM, kIf_ap, wp_andM, wp_orM, wp_ite, wp_if, kAndV2_ap, kAndV_ap, wp_andV, kOrV2_ap, kOrV_ap, wp_orV, kNotV2_ap, kNotV_ap, wp_notV, wp_part0, kPart_ap, wp_part1, kSl2_ap, kSl1_ap, kSl0_ap, wp_sl, kSL3_ap, kSL2_ap, kSL1_ap, kSL0_ap, wp_slL, wp_evA0, kA1_ap, wp_evAv, kA2_ap, wp_evAio, kCall4_ap, kCall3_ap, kCall2_ap, kCall1_ap, wp_call, kK2_ap, kK1_ap, wp_callK, wp_nx, wp_bk, wp_ct, wp_no, kSeq_nx, kSeq_rt, kSeq_ro, kSeq_bk, kSeq_ct, wp_seq, kNx_ap, kExp_ap, kRt_ap, kRo_ap, wp_expr, wp_rt, wp_rtN, wp_ro, kAsg_ap, wp_asg, wp_asgO, kI3_ap, kI2_ap, kI1_ap, kI0b_ap, kI0_ap, wp_setIx, kM2_ap, kM1_ap, kM0_ap, wp_mt, kIt_ap, kIts_ap, wp_walkA, wp_range1, wp_range2, wp_range3, wp_zipM, wp_enumM, kFor_ap, wp_for, kTurn_nx, kTurn_ct, kTurn_bk, kTurn_rt, kTurn_ro, kElt_ap, kCond_t, kCond_f, wp_lc, endF_rt, endF_nx, endO_ro, kBody_ap, addD_i, addD_s, addD_t, addD_l, subD_i, mulD_i, modD_i, ltD_i, ltD_s, leD_i, gtD_i, geD_i, negD_i, isBD_b, isnBD_b, truD_b, truD_i, truD_n, truD_l, truD_t, lenD_l, lenD_t, lenD_s, intD_i, intD_b, absD_i, listD_l, listD_t, tupD_l, tupD_t, max2D_i, min2D_i, isiD_d, revD_l, slD_l, slD_t, itemsA_l, itemsA_t, itemsA_s, ixD_l, ixD_t, zpD_l, zpD_t, setT_t, setTr_t, setNs_0, setNs_1, setN_z, setN_s, setO_z, setO_s, atI_z, atI_1, atI_2, atI_3, atI_4, setIx_0, setIx_1, setIx_2, sumD_map, rg1_i, rg2_i, eqD_i, neD_i, isi_int_n, isi_int_b, isi_int_i, isi_int_s, isi_int_l, isi_int_t, isi_int_d, isi_bool_n, isi_bool_b, isi_bool_i, isi_bool_s, isi_bool_l, isi_bool_t, isi_bool_d, isi_str_n, isi_str_b, isi_str_i, isi_str_s, isi_str_l, isi_str_t, isi_str_d, isi_list_n, isi_list_b, isi_list_i, isi_list_s, isi_list_l, isi_list_t, isi_list_d, isi_tuple_n, isi_tuple_b, isi_tuple_i, isi_tuple_s, isi_tuple_l, isi_tuple_t, isi_tuple_d, isi_dict_n, isi_dict_b, isi_dict_i, isi_dict_s, isi_dict_l, isi_dict_t, isi_dict_d, notD_b, isNone_n, isNone_s, isNone_i, isNone_t, isNone_l, kPure_ap, pickD_1, pickD_2, pickD_3, pickD_4, appD_l, extD_l, List.getElem?_cons_zero, List.getElem?_cons_succ, List.set_cons_zero, List.set_cons_succ, initE, Option.map_some, List.replicate, posT, getO, fillA, putA, Bool.not_true, Bool.not_false, if_true, if_false, Bool.false_eq_true, Option.bind_some, wipeE, restE, reduceIte, List.length_cons, List.length_nil, fwp_mk, fwp_mko, Nat.reduceAdd, Nat.reduceSub, List.append_nil, List.nil_append, List.cons_append, List.reverse_cons, List.reverse_nil, Int.reduceLT, Int.reduceLE, Int.reduceAdd, Int.reduceMul, Int.reduceNeg, decide_true, decide_false, decide_eq_true_eq, Int.reduceEq, Option.map_none, and_self, and_true, true_and, Bool.true_and, Bool.false_and, Bool.or_true, Bool.or_false, List.isEmpty_nil, List.isEmpty_cons, List.getElem?_nil, Option.isSome_some, Int.cast_ofNat_Int, Bool.not_eq_true, Bool.and_true, Bool.and_self, Bool.true_or, Bool.false_or, Bool.and_false, Int.reduceSub, Int.natCast_zero, Int.reduceGT, Int.reduceGE, ne_eq, not_true_eq_false, not_false_eq_true]
  refine ⟨p6, ⟨b, (b + len) % (7 * h), dd, kk, ww, rfl, hb0, hb1, Int.emod_nonneg _ (by omega), Int.emod_lt_of_pos _ h7, ?_, ?_, ?_, hw⟩, rfl, hp6.mono (by omega)⟩
  · rw [Int.emod_sub_emod, show b + len - b = len by omega]
    rw [Int.emod_eq_of_lt hlen.1 (by omega)]; exact hlen.2
  · simp only [List.mem_cons, List.not_mem_nil, or_false] at hd
    rcases hd with rfl | rfl | rfl | rfl | rfl
    · exact .inl rfl
    · exact .inl rfl
    · exact .inr (.inl rfl)
    · exact .inr (.inr (.inl rfl))
    · exact .inr (.inr (.inr rfl))
  · simp only [List.mem_cons, List.not_mem_nil, or_false] at hk
    rcases hk with rfl | rfl | rfl | rfl
    · exact .inl rfl
    · exact .inl rfl
    · exact .inr (.inl rfl)
    · exact .inr (.inr rfl)
theorem sign_ok {n h : Int} {p : D} (hp : PotOk n p) (hn : n ≤ 100000000000000000) (hh : HoursOk h) : Fwp (F__law_sign [p, .int h, .int 12]) fun d outs => ∃ p', SignOk h d ∧ outs = [p'] ∧ PotOk (n + 1000) p' := by
  unfold F__law_sign
  rw [fwp_mk]
  simp -implicitDefEqProofs only [owp_ok, fwp_ok, onS_s, onS_n, gR_f, gQ_f, gQ_o, gL_f, gL_o, gO_o, opL_op, wp_ret, kE_ap, kSet_ap, ifM_t, ifM_f, wp_vr, wp_vq, wp_vl, wp_vo, kBin2_ap, kBin1_ap, wp_bin, kUna_ap, wp_una, kBL2_ap, kBL1_ap, kBL0_ap, wp_binL, wp_seq0, kS2_ap, kS1_ap, wp_seq1, kTup_ap, wp_tup, kLst_ap, wp_lst, wp_seqP0, kP3_ap, kP2_ap, kP1_ap, wp_seqP1, wp_noX, kDsp_ap, wp_dsp, kBool_ap, wp_boolOf, kN_ap, kNN_ap, wp_isN, wp_isNN, kC4_ap, kC3_ap, wp_bl, kC2_ap, kC1_ap, wp_chn, kTru_ap, wp_truM, kNot_ap, wp_notM, kIf_ap, wp_andM, wp_orM, wp_ite, wp_if, kAndV2_ap, kAndV_ap, wp_andV, kOrV2_ap, kOrV_ap, wp_orV, kNotV2_ap, kNotV_ap, wp_notV, wp_part0, kPart_ap, wp_part1, kSl2_ap, kSl1_ap, kSl0_ap, wp_sl, kSL3_ap, kSL2_ap, kSL1_ap, kSL0_ap, wp_slL, wp_evA0, kA1_ap, wp_evAv, kA2_ap, wp_evAio, kCall4_ap, kCall3_ap, kCall2_ap, kCall1_ap, wp_call, kK2_ap, kK1_ap, wp_callK, wp_nx, wp_bk, wp_ct, wp_no, kSeq_nx, kSeq_rt, kSeq_ro, kSeq_bk, kSeq_ct, wp_seq, kNx_ap, kExp_ap, kRt_ap, kRo_ap, wp_expr, wp_rt, wp_rtN, wp_ro, kAsg_ap, wp_asg, wp_asgO, kI3_ap, kI2_ap, kI1_ap, kI0b_ap, kI0_ap, wp_setIx, kM2_ap, kM1_ap, kM0_ap, wp_mt, kIt_ap, kIts_ap, wp_walkA, wp_range1, wp_range2, wp_range3, wp_zipM, wp_enumM, kFor_ap, wp_for, kTurn_nx, kTurn_ct, kTurn_bk, kTurn_rt, kTurn_ro, kElt_ap, kCond_t, kCond_f, wp_lc, endF_rt, endF_nx, endO_ro, kBody_ap, addD_i, addD_s, addD_t, addD_l, subD_i, mulD_i, modD_i, ltD_i, ltD_s, leD_i, gtD_i, geD_i, negD_i, isBD_b, isnBD_b, truD_b, truD_i, truD_n, truD_l, truD_t, lenD_l, lenD_t, lenD_s, intD_i, intD_b, absD_i, listD_l, listD_t, tupD_l, tupD_t, max2D_i, min2D_i, isiD_d, revD_l, slD_l, slD_t, itemsA_l, itemsA_t, itemsA_s, ixD_l, ixD_t, zpD_l, zpD_t, setT_t, setTr_t, setNs_0, setNs_1, setN_z, setN_s, setO_z, setO_s, atI_z, atI_1, atI_2, atI_3, atI_4, setIx_0, setIx_1, setIx_2, sumD_map, rg1_i, rg2_i, eqD_i, neD_i, isi_int_n, isi_int_b, isi_int_i, isi_int_s, isi_int_l, isi_int_t, isi_int_d, isi_bool_n, isi_bool_b, isi_bool_i, isi_bool_s, isi_bool_l, isi_bool_t, isi_bool_d, isi_str_n, isi_str_b, isi_str_i, isi_str_s, isi_str_l, isi_str_t, isi_str_d, isi_list_n, isi_list_b, isi_list_i, isi_list_s, isi_list_l, isi_list_t, isi_list_d, isi_tuple_n, isi_tuple_b, isi_tuple_i, isi_tuple_s, isi_tuple_l, isi_tuple_t, isi_tuple_d, isi_dict_n, isi_dict_b, isi_dict_i, isi_dict_s, isi_dict_l, isi_dict_t, isi_dict_d, notD_b, isNone_n, isNone_s, isNone_i, isNone_t, isNone_l, kPure_ap, pickD_1, pickD_2, pickD_3, pickD_4, appD_l, extD_l, List.getElem?_cons_zero, List.getElem?_cons_succ, List.set_cons_zero, List.set_cons_succ, initE, Option.map_some, List.replicate, posT, getO, fillA, putA, Bool.not_true, Bool.not_false, if_true, if_false, Bool.false_eq_true, Option.bind_some, wipeE, restE, reduceIte, List.length_cons, List.length_nil, fwp_mk, fwp_mko, Nat.reduceAdd, Nat.reduceSub, List.append_nil, List.nil_append, List.cons_append, List.reverse_cons, List.reverse_nil, Int.reduceLT, Int.reduceLE, Int.reduceAdd, Int.reduceMul, Int.reduceNeg, decide_true, decide_false, decide_eq_true_eq, Int.reduceEq, Option.map_none, and_self, and_true, true_and, Bool.true_and, Bool.false_and, Bool.or_true, Bool.or_false, List.isEmpty_nil, List.isEmpty_cons, List.getElem?_nil, Option.isSome_some, Int.cast_ofNat_Int, Bool.not_eq_true, Bool.and_true, Bool.and_self, Bool.true_or, Bool.false_or, Bool.and_false, Int.reduceSub, Int.natCast_zero, Int.reduceGT, Int.reduceGE, ne_eq, not_true_eq_false, not_false_eq_true, B__law_sign]
  refine (take_ok (u := 13) hp (by omega) (by omega) (by omega)).mono ?_
  rintro _ _ ⟨m, p1, rfl, rfl, hm0, hm1, hp1⟩
  simp -implicitDefEqProofs only [owp_ok, fwp_ok, onS_s, onS_n, gR_f, gQ_f, gQ_o, gL_f, gL_o, gO_o, opL_op, wp_ret, kE_ap, kSet_ap, ifM_t, ifM_f, wp_vr, wp_vq, wp_vl, wp_vo, kBin2_ap, kBin1_ap, wp_bin, kUna_ap, wp_una, kBL2_ap, kBL1_ap, kBL0_ap, wp_binL, wp_seq0, kS2_ap, kS1_ap, wp_seq1, kTup_ap, wp_tup, kLst_ap, wp_lst, wp_seqP0, kP3_ap, kP2_ap, kP1_ap, wp_seqP1, wp_noX, kDsp_ap, wp_dsp, kBool_ap, wp_boolOf, kN_ap, kNN_ap, wp_isN, wp_isNN, kC4_ap, kC3_ap, wp_bl, kC2_ap, kC1_ap, wp_chn, kTru_ap, wp_truM, kNot_ap, wp_notM, kIf_ap, wp_andM, wp_orM, wp_ite, wp_if, kAndV2_ap, kAndV_ap, wp_andV, kOrV2_ap, kOrV_ap, wp_orV, kNotV2_ap, kNotV_ap, wp_notV, wp_part0, kPart_ap, wp_part1, kSl2_ap, kSl1_ap, kSl0_ap, wp_sl, kSL3_ap, kSL2_ap, kSL1_ap, kSL0_ap, wp_slL, wp_evA0, kA1_ap, wp_evAv, kA2_ap, wp_evAio, kCall4_ap, kCall3_ap, kCall2_ap, kCall1_ap, wp_call, kK2_ap, kK1_ap, wp_callK, wp_nx, wp_bk, wp_ct, wp_no, kSeq_nx, kSeq_rt, kSeq_ro, kSeq_bk, kSeq_ct, wp_seq, kNx_ap, kExp_ap, kRt_ap, kRo_ap, wp_expr, wp_rt, wp_rtN, wp_ro, kAsg_ap, wp_asg, wp_asgO, kI3_ap, kI2_ap, kI1_ap, kI0b_ap, kI0_ap, wp_setIx, kM2_ap, kM1_ap, kM0_ap, wp_mt, kIt_ap, kIts_ap, wp_walkA, wp_range1, wp_range2, wp_range3, wp_zipM, wp_enumM, kFor_ap, wp_for, kTurn_nx, kTurn_ct, kTurn_bk, kTurn_rt, kTurn_ro, kElt_ap, kCond_t, kCond_f, wp_lc, endF_rt, endF_nx, endO_ro, kBody_ap, addD_i, addD_s, addD_t, addD_l, subD_i, mulD_i, modD_i, ltD_i, ltD_s, leD_i, gtD_i, geD_i, negD_i, isBD_b, isnBD_b, truD_b, truD_i, truD_n, truD_l, truD_t, lenD_l, lenD_t, lenD_s, intD_i, intD_b, absD_i, listD_l, listD_t, tupD_l, tupD_t, max2D_i, min2D_i, isiD_d, revD_l, slD_l, slD_t, itemsA_l, itemsA_t, itemsA_s, ixD_l, ixD_t, zpD_l, zpD_t, setT_t, setTr_t, setNs_0, setNs_1, setN_z, setN_s, setO_z, setO_s, atI_z, atI_1, atI_2, atI_3, atI_4, setIx_0, setIx_1, setIx_2, sumD_map, rg1_i, rg2_i, eqD_i, neD_i, isi_int_n, isi_int_b, isi_int_i, isi_int_s, isi_int_l, isi_int_t, isi_int_d, isi_bool_n, isi_bool_b, isi_bool_i, isi_bool_s, isi_bool_l, isi_bool_t, isi_bool_d, isi_str_n, isi_str_b, isi_str_i, isi_str_s, isi_str_l, isi_str_t, isi_str_d, isi_list_n, isi_list_b, isi_list_i, isi_list_s, isi_list_l, isi_list_t, isi_list_d, isi_tuple_n, isi_tuple_b, isi_tuple_i, isi_tuple_s, isi_tuple_l, isi_tuple_t, isi_tuple_d, isi_dict_n, isi_dict_b, isi_dict_i, isi_dict_s, isi_dict_l, isi_dict_t, isi_dict_d, notD_b, isNone_n, isNone_s, isNone_i, isNone_t, isNone_l, kPure_ap, pickD_1, pickD_2, pickD_3, pickD_4, appD_l, extD_l, List.getElem?_cons_zero, List.getElem?_cons_succ, List.set_cons_zero, List.set_cons_succ, initE, Option.map_some, List.replicate, posT, getO, fillA, putA, Bool.not_true, Bool.not_false, if_true, if_false, Bool.false_eq_true, Option.bind_some, wipeE, restE, reduceIte, List.length_cons, List.length_nil, fwp_mk, fwp_mko, Nat.reduceAdd, Nat.reduceSub, List.append_nil, List.nil_append, List.cons_append, List.reverse_cons, List.reverse_nil, Int.reduceLT, Int.reduceLE, Int.reduceAdd, Int.reduceMul, Int.reduceNeg, decide_true, decide_false, decide_eq_true_eq, Int.reduceEq, Option.map_none, and_self, and_true, true_and, Bool.true_and, Bool.false_and, Bool.or_true, Bool.or_false, List.isEmpty_nil, List.isEmpty_cons, List.getElem?_nil, Option.isSome_some, Int.cast_ofNat_Int, Bool.not_eq_true, Bool.and_true, Bool.and_self, Bool.true_or, Bool.false_or, Bool.and_false, Int.reduceSub, Int.natCast_zero, Int.reduceGT, Int.reduceGE, ne_eq, not_true_eq_false, not_false_eq_true, rOk_s (a := m) (by omega)]
  refine kLc_of (fun rest acc e => ∃ p', e = [.op p', .fz (.int h), .fz (.int 12), .un] ∧ PotOk (n + 1 + 8 * acc.length) p' ∧ acc.length + rest.length = m.toNat ∧ ∀ r ∈ acc, RowOk h r) ?_ ?_ ?_
  · simp -implicitDefEqProofs only [owp_ok, fwp_ok, onS_s, onS_n, gR_f, gQ_f, gQ_o, gL_f, gL_o, gO_o, opL_op, wp_ret, kE_ap, kSet_ap, ifM_t, ifM_f, wp_vr, wp_vq, wp_vl, wp_vo, kBin2_ap, kBin1_ap, wp_bin, kUna_ap, wp_una, kBL2_ap, kBL1_ap, kBL0_ap, wp_binL, wp_seq0, kS2_ap, kS1_ap, wp_seq1, kTup_ap, wp_tup, kLst_ap, wp_lst, wp_seqP0, kP3_ap, kP2_ap, kP1_ap, wp_seqP1, wp_noX, kDsp_ap, wp_dsp, kBool_ap, wp_boolOf, kN_ap, kNN_ap, wp_isN, wp_isNN, kC4_ap, kC3_ap, wp_bl, kC2_ap, kC1_ap, wp_chn, kTru_ap, wp_truM, kNot_ap, wp_notM, kIf_ap, wp_andM, wp_orM, wp_ite, wp_if, kAndV2_ap, kAndV_ap, wp_andV, kOrV2_ap, kOrV_ap, wp_orV, kNotV2_ap, kNotV_ap, wp_notV, wp_part0, kPart_ap, wp_part1, kSl2_ap, kSl1_ap, kSl0_ap, wp_sl, kSL3_ap, kSL2_ap, kSL1_ap, kSL0_ap, wp_slL, wp_evA0, kA1_ap, wp_evAv, kA2_ap, wp_evAio, kCall4_ap, kCall3_ap, kCall2_ap, kCall1_ap, wp_call, kK2_ap, kK1_ap, wp_callK, wp_nx, wp_bk, wp_ct, wp_no, kSeq_nx, kSeq_rt, kSeq_ro, kSeq_bk, kSeq_ct, wp_seq, kNx_ap, kExp_ap, kRt_ap, kRo_ap, wp_expr, wp_rt, wp_rtN, wp_ro, kAsg_ap, wp_asg, wp_asgO, kI3_ap, kI2_ap, kI1_ap, kI0b_ap, kI0_ap, wp_setIx, kM2_ap, kM1_ap, kM0_ap, wp_mt, kIt_ap, kIts_ap, wp_walkA, wp_range1, wp_range2, wp_range3, wp_zipM, wp_enumM, kFor_ap, wp_for, kTurn_nx, kTurn_ct, kTurn_bk, kTurn_rt, kTurn_ro, kElt_ap, kCond_t, kCond_f, wp_lc, endF_rt, endF_nx, endO_ro, kBody_ap, addD_i, addD_s, addD_t, addD_l, subD_i, mulD_i, modD_i, ltD_i, ltD_s, leD_i, gtD_i, geD_i, negD_i, isBD_b, isnBD_b, truD_b, truD_i, truD_n, truD_l, truD_t, lenD_l, lenD_t, lenD_s, intD_i, intD_b, absD_i, listD_l, listD_t, tupD_l, tupD_t, max2D_i, min2D_i, isiD_d, revD_l, slD_l, slD_t, itemsA_l, itemsA_t, itemsA_s, ixD_l, ixD_t, zpD_l, zpD_t, setT_t, setTr_t, setNs_0, setNs_1, setN_z, setN_s, setO_z, setO_s, atI_z, atI_1, atI_2, atI_3, atI_4, setIx_0, setIx_1, setIx_2, sumD_map, rg1_i, rg2_i, eqD_i, neD_i, isi_int_n, isi_int_b, isi_int_i, isi_int_s, isi_int_l, isi_int_t, isi_int_d, isi_bool_n, isi_bool_b, isi_bool_i, isi_bool_s, isi_bool_l, isi_bool_t, isi_bool_d, isi_str_n, isi_str_b, isi_str_i, isi_str_s, isi_str_l, isi_str_t, isi_str_d, isi_list_n, isi_list_b, isi_list_i, isi_list_s, isi_list_l, isi_list_t, isi_list_d, isi_tuple_n, isi_tuple_b, isi_tuple_i, isi_tuple_s, isi_tuple_l, isi_tuple_t, isi_tuple_d, isi_dict_n, isi_dict_b, isi_dict_i, isi_dict_s, isi_dict_l, isi_dict_t, isi_dict_d, notD_b, isNone_n, isNone_s, isNone_i, isNone_t, isNone_l, kPure_ap, pickD_1, pickD_2, pickD_3, pickD_4, appD_l, extD_l, List.getElem?_cons_zero, List.getElem?_cons_succ, List.set_cons_zero, List.set_cons_succ, initE, Option.map_some, List.replicate, posT, getO, fillA, putA, Bool.not_true, Bool.not_false, if_true, if_false, Bool.false_eq_true, Option.bind_some, wipeE, restE, reduceIte, List.length_cons, List.length_nil, fwp_mk, fwp_mko, Nat.reduceAdd, Nat.reduceSub, List.append_nil, List.nil_append, List.cons_append, List.reverse_cons, List.reverse_nil, Int.reduceLT, Int.reduceLE, Int.reduceAdd, Int.reduceMul, Int.reduceNeg, decide_true, decide_false, decide_eq_true_eq, Int.reduceEq, Option.map_none, and_self, and_true, true_and, Bool.true_and, Bool.false_and, Bool.or_true, Bool.or_false, List.isEmpty_nil, List.isEmpty_cons, List.getElem?_nil, Option.isSome_some, Int.cast_ofNat_Int, Bool.not_eq_true, Bool.and_true, Bool.and_self, Bool.true_or, Bool.false_or, Bool.and_false, Int.reduceSub, Int.natCast_zero, Int.reduceGT, Int.reduceGE, ne_eq, not_true_eq_false, not_false_eq_true]
    exact ⟨p1, rfl, by simpa using hp1, by rw [rng_len]; simp, fun r hr => by simp at hr⟩
  · rintro d rest acc _ ⟨p', rfl, hp', hl, hr⟩
    rw [List.length_cons] at hl
    simp -implicitDefEqProofs only [owp_ok, fwp_ok, onS_s, onS_n, gR_f, gQ_f, gQ_o, gL_f, gL_o, gO_o, opL_op, wp_ret, kE_ap, kSet_ap, ifM_t, ifM_f, wp_vr, wp_vq, wp_vl, wp_vo, kBin2_ap, kBin1_ap, wp_bin, kUna_ap, wp_una, kBL2_ap, kBL1_ap, kBL0_ap, wp_binL, wp_seq0, kS2_ap, kS1_ap, wp_seq1, kTup_ap, wp_tup, kLst_ap, wp_lst, wp_seqP0, kP3_ap, kP2_ap, kP1_ap, wp_seqP1, wp_noX, kDsp_ap, wp_dsp, kBool_ap, wp_boolOf, kN_ap, kNN_ap, wp_isN, wp_isNN, kC4_ap, kC3_ap, wp_bl, kC2_ap, kC1_ap, wp_chn, kTru_ap, wp_truM, kNot_ap, wp_notM, kIf_ap, wp_andM, wp_orM, wp_ite, wp_if, kAndV2_ap, kAndV_ap, wp_andV, kOrV2_ap, kOrV_ap, wp_orV, kNotV2_ap, kNotV_ap, wp_notV, wp_part0, kPart_ap, wp_part1, kSl2_ap, kSl1_ap, kSl0_ap, wp_sl, kSL3_ap, kSL2_ap, kSL1_ap, kSL0_ap, wp_slL, wp_evA0, kA1_ap, wp_evAv, kA2_ap, wp_evAio, kCall4_ap, kCall3_ap, kCall2_ap, kCall1_ap, wp_call, kK2_ap, kK1_ap, wp_callK, wp_nx, wp_bk, wp_ct, wp_no, kSeq_nx, kSeq_rt, kSeq_ro, kSeq_bk, kSeq_ct, wp_seq, kNx_ap, kExp_ap, kRt_ap, kRo_ap, wp_expr, wp_rt, wp_rtN, wp_ro, kAsg_ap, wp_asg, wp_asgO, kI3_ap, kI2_ap, kI1_ap, kI0b_ap, kI0_ap, wp_setIx, kM2_ap, kM1_ap, kM0_ap, wp_mt, kIt_ap, kIts_ap, wp_walkA, wp_range1, wp_range2, wp_range3, wp_zipM, wp_enumM, kFor_ap, wp_for, kTurn_nx, kTurn_ct, kTurn_bk, kTurn_rt, kTurn_ro, kElt_ap, kCond_t, kCond_f, wp_lc, endF_rt, endF_nx, endO_ro, kBody_ap, addD_i, addD_s, addD_t, addD_l, subD_i, mulD_i, modD_i, ltD_i, ltD_s, leD_i, gtD_i, geD_i, negD_i, isBD_b, isnBD_b, truD_b, truD_i, truD_n, truD_l, truD_t, lenD_l, lenD_t, lenD_s, intD_i, intD_b, absD_i, listD_l, listD_t, tupD_l, tupD_t, max2D_i, min2D_i, isiD_d, revD_l, slD_l, slD_t, itemsA_l, itemsA_t, itemsA_s, ixD_l, ixD_t, zpD_l, zpD_t, setT_t, setTr_t, setNs_0, setNs_1, setN_z, setN_s, setO_z, setO_s, atI_z, atI_1, atI_2, atI_3, atI_4, setIx_0, setIx_1, setIx_2, sumD_map, rg1_i, rg2_i, eqD_i, neD_i, isi_int_n, isi_int_b, isi_int_i, isi_int_s, isi_int_l, isi_int_t, isi_int_d, isi_bool_n, isi_bool_b, isi_bool_i, isi_bool_s, isi_bool_l, isi_bool_t, isi_bool_d, isi_str_n, isi_str_b, isi_str_i, isi_str_s, isi_str_l, isi_str_t, isi_str_d, isi_list_n, isi_list_b, isi_list_i, isi_list_s, isi_list_l, isi_list_t, isi_list_d, isi_tuple_n, isi_tuple_b, isi_tuple_i, isi_tuple_s, isi_tuple_l, isi_tuple_t, isi_tuple_d, isi_dict_n, isi_dict_b, isi_dict_i, isi_dict_s, isi_dict_l, isi_dict_t, isi_dict_d, notD_b, isNone_n, isNone_s, isNone_i, isNone_t, isNone_l, kPure_ap, pickD_1, pickD_2, pickD_3, pickD_4, appD_l, extD_l, List.getElem?_cons_zero, List.getElem?_cons_succ, List.set_cons_zero, List.set_cons_succ, initE, Option.map_some, List.replicate, posT, getO, fillA, putA, Bool.not_true, Bool.not_false, if_true, if_false, Bool.false_eq_true, Option.bind_some, wipeE, restE, reduceIte, List.length_cons, List.length_nil, fwp_mk, fwp_mko, Nat.reduceAdd, Nat.reduceSub, List.append_nil, List.nil_append, List.cons_append, List.reverse_cons, List.reverse_nil, Int.reduceLT, Int.reduceLE, Int.reduceAdd, Int.reduceMul, Int.reduceNeg, decide_true, decide_false, decide_eq_true_eq, Int.reduceEq, Option.map_none, and_self, and_true, true_and, Bool.true_and, Bool.false_and, Bool.or_true, Bool.or_false, List.isEmpty_nil, List.isEmpty_cons, List.getElem?_nil, Option.isSome_some, Int.cast_ofNat_Int, Bool.not_eq_true, Bool.and_true, Bool.and_self, Bool.true_or, Bool.false_or, Bool.and_false, Int.reduceSub, Int.natCast_zero, Int.reduceGT, Int.reduceGE, ne_eq, not_true_eq_false, not_false_eq_true]
    refine (row_ok hp' (by omega) hh).mono ?_
    rintro r _ ⟨p2, hrow, rfl, hp2⟩
    simp -implicitDefEqProofs only [owp_ok, fwp_ok, onS_s, onS_n, gR_f, gQ_f, gQ_o, gL_f, gL_o, gO_o, opL_op, wp_ret, kE_ap, kSet_ap, ifM_t, ifM_f, wp_vr, wp_vq, wp_vl, wp_vo, kBin2_ap, kBin1_ap, wp_bin, kUna_ap, wp_una, kBL2_ap, kBL1_ap, kBL0_ap, wp_binL, wp_seq0, kS2_ap, kS1_ap, wp_seq1, kTup_ap, wp_tup, kLst_ap, wp_lst, wp_seqP0, kP3_ap, kP2_ap, kP1_ap, wp_seqP1, wp_noX, kDsp_ap, wp_dsp, kBool_ap, wp_boolOf, kN_ap, kNN_ap, wp_isN, wp_isNN, kC4_ap, kC3_ap, wp_bl, kC2_ap, kC1_ap, wp_chn, kTru_ap, wp_truM, kNot_ap, wp_notM, kIf_ap, wp_andM, wp_orM, wp_ite, wp_if, kAndV2_ap, kAndV_ap, wp_andV, kOrV2_ap, kOrV_ap, wp_orV, kNotV2_ap, kNotV_ap, wp_notV, wp_part0, kPart_ap, wp_part1, kSl2_ap, kSl1_ap, kSl0_ap, wp_sl, kSL3_ap, kSL2_ap, kSL1_ap, kSL0_ap, wp_slL, wp_evA0, kA1_ap, wp_evAv, kA2_ap, wp_evAio, kCall4_ap, kCall3_ap, kCall2_ap, kCall1_ap, wp_call, kK2_ap, kK1_ap, wp_callK, wp_nx, wp_bk, wp_ct, wp_no, kSeq_nx, kSeq_rt, kSeq_ro, kSeq_bk, kSeq_ct, wp_seq, kNx_ap, kExp_ap, kRt_ap, kRo_ap, wp_expr, wp_rt, wp_rtN, wp_ro, kAsg_ap, wp_asg, wp_asgO, kI3_ap, kI2_ap, kI1_ap, kI0b_ap, kI0_ap, wp_setIx, kM2_ap, kM1_ap, kM0_ap, wp_mt, kIt_ap, kIts_ap, wp_walkA, wp_range1, wp_range2, wp_range3, wp_zipM, wp_enumM, kFor_ap, wp_for, kTurn_nx, kTurn_ct, kTurn_bk, kTurn_rt, kTurn_ro, kElt_ap, kCond_t, kCond_f, wp_lc, endF_rt, endF_nx, endO_ro, kBody_ap, addD_i, addD_s, addD_t, addD_l, subD_i, mulD_i, modD_i, ltD_i, ltD_s, leD_i, gtD_i, geD_i, negD_i, isBD_b, isnBD_b, truD_b, truD_i, truD_n, truD_l, truD_t, lenD_l, lenD_t, lenD_s, intD_i, intD_b, absD_i, listD_l, listD_t, tupD_l, tupD_t, max2D_i, min2D_i, isiD_d, revD_l, slD_l, slD_t, itemsA_l, itemsA_t, itemsA_s, ixD_l, ixD_t, zpD_l, zpD_t, setT_t, setTr_t, setNs_0, setNs_1, setN_z, setN_s, setO_z, setO_s, atI_z, atI_1, atI_2, atI_3, atI_4, setIx_0, setIx_1, setIx_2, sumD_map, rg1_i, rg2_i, eqD_i, neD_i, isi_int_n, isi_int_b, isi_int_i, isi_int_s, isi_int_l, isi_int_t, isi_int_d, isi_bool_n, isi_bool_b, isi_bool_i, isi_bool_s, isi_bool_l, isi_bool_t, isi_bool_d, isi_str_n, isi_str_b, isi_str_i, isi_str_s, isi_str_l, isi_str_t, isi_str_d, isi_list_n, isi_list_b, isi_list_i, isi_list_s, isi_list_l, isi_list_t, isi_list_d, isi_tuple_n, isi_tuple_b, isi_tuple_i, isi_tuple_s, isi_tuple_l, isi_tuple_t, isi_tuple_d, isi_dict_n, isi_dict_b, isi_dict_i, isi_dict_s, isi_dict_l, isi_dict_t, isi_dict_d, notD_b, isNone_n, isNone_s, isNone_i, isNone_t, isNone_l, kPure_ap, pickD_1, pickD_2, pickD_3, pickD_4, appD_l, extD_l, List.getElem?_cons_zero, List.getElem?_cons_succ, List.set_cons_zero, List.set_cons_succ, initE, Option.map_some, List.replicate, posT, getO, fillA, putA, Bool.not_true, Bool.not_false, if_true, if_false, Bool.false_eq_true, Option.bind_some, wipeE, restE, reduceIte, List.length_cons, List.length_nil, fwp_mk, fwp_mko, Nat.reduceAdd, Nat.reduceSub, List.append_nil, List.nil_append, List.cons_append, List.reverse_cons, List.reverse_nil, Int.reduceLT, Int.reduceLE, Int.reduceAdd, Int.reduceMul, Int.reduceNeg, decide_true, decide_false, decide_eq_true_eq, Int.reduceEq, Option.map_none, and_self, and_true, true_and, Bool.true_and, Bool.false_and, Bool.or_true, Bool.or_false, List.isEmpty_nil, List.isEmpty_cons, List.getElem?_nil, Option.isSome_some, Int.cast_ofNat_Int, Bool.not_eq_true, Bool.and_true, Bool.and_self, Bool.true_or, Bool.false_or, Bool.and_false, Int.reduceSub, Int.natCast_zero, Int.reduceGT, Int.reduceGE, ne_eq, not_true_eq_false, not_false_eq_true, kCond_t, kElt_ap]
    refine ⟨p2, rfl, hp2.mono (by rw [List.length_append, List.length_cons, List.length_nil]; omega), by rw [List.length_append, List.length_cons, List.length_nil]; omega, fun x hx => ?_⟩
    rcases List.mem_append.mp hx with hx | hx
    · exact hr x hx
    · simp only [List.mem_cons, List.not_mem_nil, or_false] at hx
      rw [hx]; exact hrow
  · rintro acc _ ⟨p', rfl, hp', hl, hr⟩
    rw [List.length_nil] at hl
    refine ⟨by rw [sizeLine_eq]; omega, ?_⟩
    simp -implicitDefEqProofs only [owp_ok, fwp_ok, onS_s, onS_n, gR_f, gQ_f, gQ_o, gL_f, gL_o, gO_o, opL_op, wp_ret, kE_ap, kSet_ap, ifM_t, ifM_f, wp_vr, wp_vq, wp_vl, wp_vo, kBin2_ap, kBin1_ap, wp_bin, kUna_ap, wp_una, kBL2_ap, kBL1_ap, kBL0_ap, wp_binL, wp_seq0, kS2_ap, kS1_ap, wp_seq1, kTup_ap, wp_tup, kLst_ap, wp_lst, wp_seqP0, kP3_ap, kP2_ap, kP1_ap, wp_seqP1, wp_noX, kDsp_ap, wp_dsp, kBool_ap, wp_boolOf, kN_ap, kNN_ap, wp_isN, wp_isNN, kC4_ap, kC3_ap, wp_bl, kC2_ap, kC1_ap, wp_chn, kTru_ap, wp_truM, kNot_ap, wp_notM, kIf_ap, wp_andM, wp_orM, wp_ite, wp_if, kAndV2_ap, kAndV_ap, wp_andV, kOrV2_ap, kOrV_ap, wp_orV, kNotV2_ap, kNotV_ap, wp_notV, wp_part0, kPart_ap, wp_part1, kSl2_ap, kSl1_ap, kSl0_ap, wp_sl, kSL3_ap, kSL2_ap, kSL1_ap, kSL0_ap, wp_slL, wp_evA0, kA1_ap, wp_evAv, kA2_ap, wp_evAio, kCall4_ap, kCall3_ap, kCall2_ap, kCall1_ap, wp_call, kK2_ap, kK1_ap, wp_callK, wp_nx, wp_bk, wp_ct, wp_no, kSeq_nx, kSeq_rt, kSeq_ro, kSeq_bk, kSeq_ct, wp_seq, kNx_ap, kExp_ap, kRt_ap, kRo_ap, wp_expr, wp_rt, wp_rtN, wp_ro, kAsg_ap, wp_asg, wp_asgO, kI3_ap, kI2_ap, kI1_ap, kI0b_ap, kI0_ap, wp_setIx, kM2_ap, kM1_ap, kM0_ap, wp_mt, kIt_ap, kIts_ap, wp_walkA, wp_range1, wp_range2, wp_range3, wp_zipM, wp_enumM, kFor_ap, wp_for, kTurn_nx, kTurn_ct, kTurn_bk, kTurn_rt, kTurn_ro, kElt_ap, kCond_t, kCond_f, wp_lc, endF_rt, endF_nx, endO_ro, kBody_ap, addD_i, addD_s, addD_t, addD_l, subD_i, mulD_i, modD_i, ltD_i, ltD_s, leD_i, gtD_i, geD_i, negD_i, isBD_b, isnBD_b, truD_b, truD_i, truD_n, truD_l, truD_t, lenD_l, lenD_t, lenD_s, intD_i, intD_b, absD_i, listD_l, listD_t, tupD_l, tupD_t, max2D_i, min2D_i, isiD_d, revD_l, slD_l, slD_t, itemsA_l, itemsA_t, itemsA_s, ixD_l, ixD_t, zpD_l, zpD_t, setT_t, setTr_t, setNs_0, setNs_1, setN_z, setN_s, setO_z, setO_s, atI_z, atI_1, atI_2, atI_3, atI_4, setIx_0, setIx_1, setIx_2, sumD_map, rg1_i, rg2_i, eqD_i, neD_i, isi_int_n, isi_int_b, isi_int_i, isi_int_s, isi_int_l, isi_int_t, isi_int_d, isi_bool_n, isi_bool_b, isi_bool_i, isi_bool_s, isi_bool_l, isi_bool_t, isi_bool_d, isi_str_n, isi_str_b, isi_str_i, isi_str_s, isi_str_l, isi_str_t, isi_str_d, isi_list_n, isi_list_b, isi_list_i, isi_list_s, isi_list_l, isi_list_t, isi_list_d, isi_tuple_n, isi_tuple_b, isi_tuple_i, isi_tuple_s, isi_tuple_l, isi_tuple_t, isi_tuple_d, isi_dict_n, isi_dict_b, isi_dict_i, isi_dict_s, isi_dict_l, isi_dict_t, isi_dict_d, notD_b, isNone_n, isNone_s, isNone_i, isNone_t, isNone_l, kPure_ap, pickD_1, pickD_2, pickD_3, pickD_4, appD_l, extD_l, List.getElem?_cons_zero, List.getElem?_cons_succ, List.set_cons_zero, List.set_cons_succ, initE, Option.map_some, List.replicate, posT, getO, fillA, putA, Bool.not_true, Bool.not_false, if_true, if_false, Bool.false_eq_true, Option.bind_some, wipeE, restE, reduceIte, List.length_cons, List.length_nil, fwp_mk, fwp_mko, Nat.reduceAdd, Nat.reduceSub, List.append_nil, List.nil_append, List.cons_append, List.reverse_cons, List.reverse_nil, Int.reduceLT, Int.reduceLE, Int.reduceAdd, Int.reduceMul, Int.reduceNeg, decide_true, decide_false, decide_eq_true_eq, Int.reduceEq, Option.map_none, and_self, and_true, true_and, Bool.true_and, Bool.false_and, Bool.or_true, Bool.or_false, List.isEmpty_nil, List.isEmpty_cons, List.getElem?_nil, Option.isSome_some, Int.cast_ofNat_Int, Bool.not_eq_true, Bool.and_true, Bool.and_self, Bool.true_or, Bool.false_or, Bool.and_false, Int.reduceSub, Int.natCast_zero, Int.reduceGT, Int.reduceGE, ne_eq, not_true_eq_false, not_false_eq_true]
    exact ⟨p', ⟨acc, rfl, by omega, hr⟩, rfl, hp'.mono (by omega)⟩
theorem feasts_ok {n : Int} {p : D} (hp : PotOk n p) (hn : n ≤ 100000000000000000) : Fwp (F__law_feasts [p, .int 18]) fun d outs => ∃ (p' : D) (fs : List Int), d = .tuple (fs.map PyData.int) ∧ fs.length ≤ 18 ∧ fs.Pairwise (· < ·) ∧ (∀ x ∈ fs, 0 ≤ x ∧ x < 18) ∧ outs = [p'] ∧ PotOk (n + 18) p' := by
  unfold F__law_feasts
  rw [fwp_mk]
  simp -implicitDefEqProofs only [owp_ok, fwp_ok, onS_s, onS_n, gR_f, gQ_f, gQ_o, gL_f, gL_o, gO_o, opL_op, wp_ret, kE_ap, kSet_ap, ifM_t, ifM_f, wp_vr, wp_vq, wp_vl, wp_vo, kBin2_ap, kBin1_ap, wp_bin, kUna_ap, wp_una, kBL2_ap, kBL1_ap, kBL0_ap, wp_binL, wp_seq0, kS2_ap, kS1_ap, wp_seq1, kTup_ap, wp_tup, kLst_ap, wp_lst, wp_seqP0, kP3_ap, kP2_ap, kP1_ap, wp_seqP1, wp_noX, kDsp_ap, wp_dsp, kBool_ap, wp_boolOf, kN_ap, kNN_ap, wp_isN, wp_isNN, kC4_ap, kC3_ap, wp_bl, kC2_ap, kC1_ap, wp_chn, kTru_ap, wp_truM, kNot_ap, wp_notM, kIf_ap, wp_andM, wp_orM, wp_ite, wp_if, kAndV2_ap, kAndV_ap, wp_andV, kOrV2_ap, kOrV_ap, wp_orV, kNotV2_ap, kNotV_ap, wp_notV, wp_part0, kPart_ap, wp_part1, kSl2_ap, kSl1_ap, kSl0_ap, wp_sl, kSL3_ap, kSL2_ap, kSL1_ap, kSL0_ap, wp_slL, wp_evA0, kA1_ap, wp_evAv, kA2_ap, wp_evAio, kCall4_ap, kCall3_ap, kCall2_ap, kCall1_ap, wp_call, kK2_ap, kK1_ap, wp_callK, wp_nx, wp_bk, wp_ct, wp_no, kSeq_nx, kSeq_rt, kSeq_ro, kSeq_bk, kSeq_ct, wp_seq, kNx_ap, kExp_ap, kRt_ap, kRo_ap, wp_expr, wp_rt, wp_rtN, wp_ro, kAsg_ap, wp_asg, wp_asgO, kI3_ap, kI2_ap, kI1_ap, kI0b_ap, kI0_ap, wp_setIx, kM2_ap, kM1_ap, kM0_ap, wp_mt, kIt_ap, kIts_ap, wp_walkA, wp_range1, wp_range2, wp_range3, wp_zipM, wp_enumM, kFor_ap, wp_for, kTurn_nx, kTurn_ct, kTurn_bk, kTurn_rt, kTurn_ro, kElt_ap, kCond_t, kCond_f, wp_lc, endF_rt, endF_nx, endO_ro, kBody_ap, addD_i, addD_s, addD_t, addD_l, subD_i, mulD_i, modD_i, ltD_i, ltD_s, leD_i, gtD_i, geD_i, negD_i, isBD_b, isnBD_b, truD_b, truD_i, truD_n, truD_l, truD_t, lenD_l, lenD_t, lenD_s, intD_i, intD_b, absD_i, listD_l, listD_t, tupD_l, tupD_t, max2D_i, min2D_i, isiD_d, revD_l, slD_l, slD_t, itemsA_l, itemsA_t, itemsA_s, ixD_l, ixD_t, zpD_l, zpD_t, setT_t, setTr_t, setNs_0, setNs_1, setN_z, setN_s, setO_z, setO_s, atI_z, atI_1, atI_2, atI_3, atI_4, setIx_0, setIx_1, setIx_2, sumD_map, rg1_i, rg2_i, eqD_i, neD_i, isi_int_n, isi_int_b, isi_int_i, isi_int_s, isi_int_l, isi_int_t, isi_int_d, isi_bool_n, isi_bool_b, isi_bool_i, isi_bool_s, isi_bool_l, isi_bool_t, isi_bool_d, isi_str_n, isi_str_b, isi_str_i, isi_str_s, isi_str_l, isi_str_t, isi_str_d, isi_list_n, isi_list_b, isi_list_i, isi_list_s, isi_list_l, isi_list_t, isi_list_d, isi_tuple_n, isi_tuple_b, isi_tuple_i, isi_tuple_s, isi_tuple_l, isi_tuple_t, isi_tuple_d, isi_dict_n, isi_dict_b, isi_dict_i, isi_dict_s, isi_dict_l, isi_dict_t, isi_dict_d, notD_b, isNone_n, isNone_s, isNone_i, isNone_t, isNone_l, kPure_ap, pickD_1, pickD_2, pickD_3, pickD_4, appD_l, extD_l, List.getElem?_cons_zero, List.getElem?_cons_succ, List.set_cons_zero, List.set_cons_succ, initE, Option.map_some, List.replicate, posT, getO, fillA, putA, Bool.not_true, Bool.not_false, if_true, if_false, Bool.false_eq_true, Option.bind_some, wipeE, restE, reduceIte, List.length_cons, List.length_nil, fwp_mk, fwp_mko, Nat.reduceAdd, Nat.reduceSub, List.append_nil, List.nil_append, List.cons_append, List.reverse_cons, List.reverse_nil, Int.reduceLT, Int.reduceLE, Int.reduceAdd, Int.reduceMul, Int.reduceNeg, decide_true, decide_false, decide_eq_true_eq, Int.reduceEq, Option.map_none, and_self, and_true, true_and, Bool.true_and, Bool.false_and, Bool.or_true, Bool.or_false, List.isEmpty_nil, List.isEmpty_cons, List.getElem?_nil, Option.isSome_some, Int.cast_ofNat_Int, Bool.not_eq_true, Bool.and_true, Bool.and_self, Bool.true_or, Bool.false_or, Bool.and_false, Int.reduceSub, Int.natCast_zero, Int.reduceGT, Int.reduceGE, ne_eq, not_true_eq_false, not_false_eq_true, B__law_feasts, rOk_s (a := 18) (by omega)]
  refine kLc_of (fun rest acc e => ∃ (p' : D) (k : Nat) (fs : List Int), e = [.op p', .fz (.int 18), .un] ∧ k ≤ 18 ∧ rest = (rng 0 18).drop k ∧ acc = fs.map PyData.int ∧ fs.length ≤ k ∧ fs.Pairwise (· < ·) ∧ (∀ x ∈ fs, 0 ≤ x ∧ x < k) ∧ PotOk (n + k) p') ?_ ?_ ?_
  · simp -implicitDefEqProofs only [owp_ok, fwp_ok, onS_s, onS_n, gR_f, gQ_f, gQ_o, gL_f, gL_o, gO_o, opL_op, wp_ret, kE_ap, kSet_ap, ifM_t, ifM_f, wp_vr, wp_vq, wp_vl, wp_vo, kBin2_ap, kBin1_ap, wp_bin, kUna_ap, wp_una, kBL2_ap, kBL1_ap, kBL0_ap, wp_binL, wp_seq0, kS2_ap, kS1_ap, wp_seq1, kTup_ap, wp_tup, kLst_ap, wp_lst, wp_seqP0, kP3_ap, kP2_ap, kP1_ap, wp_seqP1, wp_noX, kDsp_ap, wp_dsp, kBool_ap, wp_boolOf, kN_ap, kNN_ap, wp_isN, wp_isNN, kC4_ap, kC3_ap, wp_bl, kC2_ap, kC1_ap, wp_chn, kTru_ap, wp_truM, kNot_ap, wp_notM, kIf_ap, wp_andM, wp_orM, wp_ite, wp_if, kAndV2_ap, kAndV_ap, wp_andV, kOrV2_ap, kOrV_ap, wp_orV, kNotV2_ap, kNotV_ap, wp_notV, wp_part0, kPart_ap, wp_part1, kSl2_ap, kSl1_ap, kSl0_ap, wp_sl, kSL3_ap, kSL2_ap, kSL1_ap, kSL0_ap, wp_slL, wp_evA0, kA1_ap, wp_evAv, kA2_ap, wp_evAio, kCall4_ap, kCall3_ap, kCall2_ap, kCall1_ap, wp_call, kK2_ap, kK1_ap, wp_callK, wp_nx, wp_bk, wp_ct, wp_no, kSeq_nx, kSeq_rt, kSeq_ro, kSeq_bk, kSeq_ct, wp_seq, kNx_ap, kExp_ap, kRt_ap, kRo_ap, wp_expr, wp_rt, wp_rtN, wp_ro, kAsg_ap, wp_asg, wp_asgO, kI3_ap, kI2_ap, kI1_ap, kI0b_ap, kI0_ap, wp_setIx, kM2_ap, kM1_ap, kM0_ap, wp_mt, kIt_ap, kIts_ap, wp_walkA, wp_range1, wp_range2, wp_range3, wp_zipM, wp_enumM, kFor_ap, wp_for, kTurn_nx, kTurn_ct, kTurn_bk, kTurn_rt, kTurn_ro, kElt_ap, kCond_t, kCond_f, wp_lc, endF_rt, endF_nx, endO_ro, kBody_ap, addD_i, addD_s, addD_t, addD_l, subD_i, mulD_i, modD_i, ltD_i, ltD_s, leD_i, gtD_i, geD_i, negD_i, isBD_b, isnBD_b, truD_b, truD_i, truD_n, truD_l, truD_t, lenD_l, lenD_t, lenD_s, intD_i, intD_b, absD_i, listD_l, listD_t, tupD_l, tupD_t, max2D_i, min2D_i, isiD_d, revD_l, slD_l, slD_t, itemsA_l, itemsA_t, itemsA_s, ixD_l, ixD_t, zpD_l, zpD_t, setT_t, setTr_t, setNs_0, setNs_1, setN_z, setN_s, setO_z, setO_s, atI_z, atI_1, atI_2, atI_3, atI_4, setIx_0, setIx_1, setIx_2, sumD_map, rg1_i, rg2_i, eqD_i, neD_i, isi_int_n, isi_int_b, isi_int_i, isi_int_s, isi_int_l, isi_int_t, isi_int_d, isi_bool_n, isi_bool_b, isi_bool_i, isi_bool_s, isi_bool_l, isi_bool_t, isi_bool_d, isi_str_n, isi_str_b, isi_str_i, isi_str_s, isi_str_l, isi_str_t, isi_str_d, isi_list_n, isi_list_b, isi_list_i, isi_list_s, isi_list_l, isi_list_t, isi_list_d, isi_tuple_n, isi_tuple_b, isi_tuple_i, isi_tuple_s, isi_tuple_l, isi_tuple_t, isi_tuple_d, isi_dict_n, isi_dict_b, isi_dict_i, isi_dict_s, isi_dict_l, isi_dict_t, isi_dict_d, notD_b, isNone_n, isNone_s, isNone_i, isNone_t, isNone_l, kPure_ap, pickD_1, pickD_2, pickD_3, pickD_4, appD_l, extD_l, List.getElem?_cons_zero, List.getElem?_cons_succ, List.set_cons_zero, List.set_cons_succ, initE, Option.map_some, List.replicate, posT, getO, fillA, putA, Bool.not_true, Bool.not_false, if_true, if_false, Bool.false_eq_true, Option.bind_some, wipeE, restE, reduceIte, List.length_cons, List.length_nil, fwp_mk, fwp_mko, Nat.reduceAdd, Nat.reduceSub, List.append_nil, List.nil_append, List.cons_append, List.reverse_cons, List.reverse_nil, Int.reduceLT, Int.reduceLE, Int.reduceAdd, Int.reduceMul, Int.reduceNeg, decide_true, decide_false, decide_eq_true_eq, Int.reduceEq, Option.map_none, and_self, and_true, true_and, Bool.true_and, Bool.false_and, Bool.or_true, Bool.or_false, List.isEmpty_nil, List.isEmpty_cons, List.getElem?_nil, Option.isSome_some, Int.cast_ofNat_Int, Bool.not_eq_true, Bool.and_true, Bool.and_self, Bool.true_or, Bool.false_or, Bool.and_false, Int.reduceSub, Int.natCast_zero, Int.reduceGT, Int.reduceGE, ne_eq, not_true_eq_false, not_false_eq_true]
    exact ⟨p, 0, [], rfl, by omega, rfl, rfl, by simp, .nil, by simp, by simpa using hp⟩
  · rintro d rest acc _ ⟨p', k, fs, rfl, hk, hrest, rfl, hlen, hpw, hall, hp'⟩
    obtain ⟨rfl, rfl, hk2⟩ := rng_drop_cons hrest.symm
    simp -implicitDefEqProofs only [owp_ok, fwp_ok, onS_s, onS_n, gR_f, gQ_f, gQ_o, gL_f, gL_o, gO_o, opL_op, wp_ret, kE_ap, kSet_ap, ifM_t, ifM_f, wp_vr, wp_vq, wp_vl, wp_vo, kBin2_ap, kBin1_ap, wp_bin, kUna_ap, wp_una, kBL2_ap, kBL1_ap, kBL0_ap, wp_binL, wp_seq0, kS2_ap, kS1_ap, wp_seq1, kTup_ap, wp_tup, kLst_ap, wp_lst, wp_seqP0, kP3_ap, kP2_ap, kP1_ap, wp_seqP1, wp_noX, kDsp_ap, wp_dsp, kBool_ap, wp_boolOf, kN_ap, kNN_ap, wp_isN, wp_isNN, kC4_ap, kC3_ap, wp_bl, kC2_ap, kC1_ap, wp_chn, kTru_ap, wp_truM, kNot_ap, wp_notM, kIf_ap, wp_andM, wp_orM, wp_ite, wp_if, kAndV2_ap, kAndV_ap, wp_andV, kOrV2_ap, kOrV_ap, wp_orV, kNotV2_ap, kNotV_ap, wp_notV, wp_part0, kPart_ap, wp_part1, kSl2_ap, kSl1_ap, kSl0_ap, wp_sl, kSL3_ap, kSL2_ap, kSL1_ap, kSL0_ap, wp_slL, wp_evA0, kA1_ap, wp_evAv, kA2_ap, wp_evAio, kCall4_ap, kCall3_ap, kCall2_ap, kCall1_ap, wp_call, kK2_ap, kK1_ap, wp_callK, wp_nx, wp_bk, wp_ct, wp_no, kSeq_nx, kSeq_rt, kSeq_ro, kSeq_bk, kSeq_ct, wp_seq, kNx_ap, kExp_ap, kRt_ap, kRo_ap, wp_expr, wp_rt, wp_rtN, wp_ro, kAsg_ap, wp_asg, wp_asgO, kI3_ap, kI2_ap, kI1_ap, kI0b_ap, kI0_ap, wp_setIx, kM2_ap, kM1_ap, kM0_ap, wp_mt, kIt_ap, kIts_ap, wp_walkA, wp_range1, wp_range2, wp_range3, wp_zipM, wp_enumM, kFor_ap, wp_for, kTurn_nx, kTurn_ct, kTurn_bk, kTurn_rt, kTurn_ro, kElt_ap, kCond_t, kCond_f, wp_lc, endF_rt, endF_nx, endO_ro, kBody_ap, addD_i, addD_s, addD_t, addD_l, subD_i, mulD_i, modD_i, ltD_i, ltD_s, leD_i, gtD_i, geD_i, negD_i, isBD_b, isnBD_b, truD_b, truD_i, truD_n, truD_l, truD_t, lenD_l, lenD_t, lenD_s, intD_i, intD_b, absD_i, listD_l, listD_t, tupD_l, tupD_t, max2D_i, min2D_i, isiD_d, revD_l, slD_l, slD_t, itemsA_l, itemsA_t, itemsA_s, ixD_l, ixD_t, zpD_l, zpD_t, setT_t, setTr_t, setNs_0, setNs_1, setN_z, setN_s, setO_z, setO_s, atI_z, atI_1, atI_2, atI_3, atI_4, setIx_0, setIx_1, setIx_2, sumD_map, rg1_i, rg2_i, eqD_i, neD_i, isi_int_n, isi_int_b, isi_int_i, isi_int_s, isi_int_l, isi_int_t, isi_int_d, isi_bool_n, isi_bool_b, isi_bool_i, isi_bool_s, isi_bool_l, isi_bool_t, isi_bool_d, isi_str_n, isi_str_b, isi_str_i, isi_str_s, isi_str_l, isi_str_t, isi_str_d, isi_list_n, isi_list_b, isi_list_i, isi_list_s, isi_list_l, isi_list_t, isi_list_d, isi_tuple_n, isi_tuple_b, isi_tuple_i, isi_tuple_s, isi_tuple_l, isi_tuple_t, isi_tuple_d, isi_dict_n, isi_dict_b, isi_dict_i, isi_dict_s, isi_dict_l, isi_dict_t, isi_dict_d, notD_b, isNone_n, isNone_s, isNone_i, isNone_t, isNone_l, kPure_ap, pickD_1, pickD_2, pickD_3, pickD_4, appD_l, extD_l, List.getElem?_cons_zero, List.getElem?_cons_succ, List.set_cons_zero, List.set_cons_succ, initE, Option.map_some, List.replicate, posT, getO, fillA, putA, Bool.not_true, Bool.not_false, if_true, if_false, Bool.false_eq_true, Option.bind_some, wipeE, restE, reduceIte, List.length_cons, List.length_nil, fwp_mk, fwp_mko, Nat.reduceAdd, Nat.reduceSub, List.append_nil, List.nil_append, List.cons_append, List.reverse_cons, List.reverse_nil, Int.reduceLT, Int.reduceLE, Int.reduceAdd, Int.reduceMul, Int.reduceNeg, decide_true, decide_false, decide_eq_true_eq, Int.reduceEq, Option.map_none, and_self, and_true, true_and, Bool.true_and, Bool.false_and, Bool.or_true, Bool.or_false, List.isEmpty_nil, List.isEmpty_cons, List.getElem?_nil, Option.isSome_some, Int.cast_ofNat_Int, Bool.not_eq_true, Bool.and_true, Bool.and_self, Bool.true_or, Bool.false_or, Bool.and_false, Int.reduceSub, Int.natCast_zero, Int.reduceGT, Int.reduceGE, ne_eq, not_true_eq_false, not_false_eq_true]
    refine (take_ok (u := 4) hp' (by omega) (by omega) (by omega)).mono ?_
    rintro _ _ ⟨t, p2, rfl, rfl, ht0, ht1, hp2⟩
    simp -implicitDefEqProofs only [owp_ok, fwp_ok, onS_s, onS_n, gR_f, gQ_f, gQ_o, gL_f, gL_o, gO_o, opL_op, wp_ret, kE_ap, kSet_ap, ifM_t, ifM_f, wp_vr, wp_vq, wp_vl, wp_vo, kBin2_ap, kBin1_ap, wp_bin, kUna_ap, wp_una, kBL2_ap, kBL1_ap, kBL0_ap, wp_binL, wp_seq0, kS2_ap, kS1_ap, wp_seq1, kTup_ap, wp_tup, kLst_ap, wp_lst, wp_seqP0, kP3_ap, kP2_ap, kP1_ap, wp_seqP1, wp_noX, kDsp_ap, wp_dsp, kBool_ap, wp_boolOf, kN_ap, kNN_ap, wp_isN, wp_isNN, kC4_ap, kC3_ap, wp_bl, kC2_ap, kC1_ap, wp_chn, kTru_ap, wp_truM, kNot_ap, wp_notM, kIf_ap, wp_andM, wp_orM, wp_ite, wp_if, kAndV2_ap, kAndV_ap, wp_andV, kOrV2_ap, kOrV_ap, wp_orV, kNotV2_ap, kNotV_ap, wp_notV, wp_part0, kPart_ap, wp_part1, kSl2_ap, kSl1_ap, kSl0_ap, wp_sl, kSL3_ap, kSL2_ap, kSL1_ap, kSL0_ap, wp_slL, wp_evA0, kA1_ap, wp_evAv, kA2_ap, wp_evAio, kCall4_ap, kCall3_ap, kCall2_ap, kCall1_ap, wp_call, kK2_ap, kK1_ap, wp_callK, wp_nx, wp_bk, wp_ct, wp_no, kSeq_nx, kSeq_rt, kSeq_ro, kSeq_bk, kSeq_ct, wp_seq, kNx_ap, kExp_ap, kRt_ap, kRo_ap, wp_expr, wp_rt, wp_rtN, wp_ro, kAsg_ap, wp_asg, wp_asgO, kI3_ap, kI2_ap, kI1_ap, kI0b_ap, kI0_ap, wp_setIx, kM2_ap, kM1_ap, kM0_ap, wp_mt, kIt_ap, kIts_ap, wp_walkA, wp_range1, wp_range2, wp_range3, wp_zipM, wp_enumM, kFor_ap, wp_for, kTurn_nx, kTurn_ct, kTurn_bk, kTurn_rt, kTurn_ro, kElt_ap, kCond_t, kCond_f, wp_lc, endF_rt, endF_nx, endO_ro, kBody_ap, addD_i, addD_s, addD_t, addD_l, subD_i, mulD_i, modD_i, ltD_i, ltD_s, leD_i, gtD_i, geD_i, negD_i, isBD_b, isnBD_b, truD_b, truD_i, truD_n, truD_l, truD_t, lenD_l, lenD_t, lenD_s, intD_i, intD_b, absD_i, listD_l, listD_t, tupD_l, tupD_t, max2D_i, min2D_i, isiD_d, revD_l, slD_l, slD_t, itemsA_l, itemsA_t, itemsA_s, ixD_l, ixD_t, zpD_l, zpD_t, setT_t, setTr_t, setNs_0, setNs_1, setN_z, setN_s, setO_z, setO_s, atI_z, atI_1, atI_2, atI_3, atI_4, setIx_0, setIx_1, setIx_2, sumD_map, rg1_i, rg2_i, eqD_i, neD_i, isi_int_n, isi_int_b, isi_int_i, isi_int_s, isi_int_l, isi_int_t, isi_int_d, isi_bool_n, isi_bool_b, isi_bool_i, isi_bool_s, isi_bool_l, isi_bool_t, isi_bool_d, isi_str_n, isi_str_b, isi_str_i, isi_str_s, isi_str_l, isi_str_t, isi_str_d, isi_list_n, isi_list_b, isi_list_i, isi_list_s, isi_list_l, isi_list_t, isi_list_d, isi_tuple_n, isi_tuple_b, isi_tuple_i, isi_tuple_s, isi_tuple_l, isi_tuple_t, isi_tuple_d, isi_dict_n, isi_dict_b, isi_dict_i, isi_dict_s, isi_dict_l, isi_dict_t, isi_dict_d, notD_b, isNone_n, isNone_s, isNone_i, isNone_t, isNone_l, kPure_ap, pickD_1, pickD_2, pickD_3, pickD_4, appD_l, extD_l, List.getElem?_cons_zero, List.getElem?_cons_succ, List.set_cons_zero, List.set_cons_succ, initE, Option.map_some, List.replicate, posT, getO, fillA, putA, Bool.not_true, Bool.not_false, if_true, if_false, Bool.false_eq_true, Option.bind_some, wipeE, restE, reduceIte, List.length_cons, List.length_nil, fwp_mk, fwp_mko, Nat.reduceAdd, Nat.reduceSub, List.append_nil, List.nil_append, List.cons_append, List.reverse_cons, List.reverse_nil, Int.reduceLT, Int.reduceLE, Int.reduceAdd, Int.reduceMul, Int.reduceNeg, decide_true, decide_false, decide_eq_true_eq, Int.reduceEq, Option.map_none, and_self, and_true, true_and, Bool.true_and, Bool.false_and, Bool.or_true, Bool.or_false, List.isEmpty_nil, List.isEmpty_cons, List.getElem?_nil, Option.isSome_some, Int.cast_ofNat_Int, Bool.not_eq_true, Bool.and_true, Bool.and_self, Bool.true_or, Bool.false_or, Bool.and_false, Int.reduceSub, Int.natCast_zero, Int.reduceGT, Int.reduceGE, ne_eq, not_true_eq_false, not_false_eq_true]
    by_cases h0 : t = 0
    · rw [decide_eq_true h0]
      simp -implicitDefEqProofs only [owp_ok, fwp_ok, onS_s, onS_n, gR_f, gQ_f, gQ_o, gL_f, gL_o, gO_o, opL_op, wp_ret, kE_ap, kSet_ap, ifM_t, ifM_f, wp_vr, wp_vq, wp_vl, wp_vo, kBin2_ap, kBin1_ap, wp_bin, kUna_ap, wp_una, kBL2_ap, kBL1_ap, kBL0_ap, wp_binL, wp_seq0, kS2_ap, kS1_ap, wp_seq1, kTup_ap, wp_tup, kLst_ap, wp_lst, wp_seqP0, kP3_ap, kP2_ap, kP1_ap, wp_seqP1, wp_noX, kDsp_ap, wp_dsp, kBool_ap, wp_boolOf, kN_ap, kNN_ap, wp_isN, wp_isNN, kC4_ap, kC3_ap, wp_bl, kC2_ap, kC1_ap, wp_chn, kTru_ap, wp_truM, kNot_ap, wp_notM, kIf_ap, wp_andM, wp_orM, wp_ite, wp_if, kAndV2_ap, kAndV_ap, wp_andV, kOrV2_ap, kOrV_ap, wp_orV, kNotV2_ap, kNotV_ap, wp_notV, wp_part0, kPart_ap, wp_part1, kSl2_ap, kSl1_ap, kSl0_ap, wp_sl, kSL3_ap, kSL2_ap, kSL1_ap, kSL0_ap, wp_slL, wp_evA0, kA1_ap, wp_evAv, kA2_ap, wp_evAio, kCall4_ap, kCall3_ap, kCall2_ap, kCall1_ap, wp_call, kK2_ap, kK1_ap, wp_callK, wp_nx, wp_bk, wp_ct, wp_no, kSeq_nx, kSeq_rt, kSeq_ro, kSeq_bk, kSeq_ct, wp_seq, kNx_ap, kExp_ap, kRt_ap, kRo_ap, wp_expr, wp_rt, wp_rtN, wp_ro, kAsg_ap, wp_asg, wp_asgO, kI3_ap, kI2_ap, kI1_ap, kI0b_ap, kI0_ap, wp_setIx, kM2_ap, kM1_ap, kM0_ap, wp_mt, kIt_ap, kIts_ap, wp_walkA, wp_range1, wp_range2, wp_range3, wp_zipM, wp_enumM, kFor_ap, wp_for, kTurn_nx, kTurn_ct, kTurn_bk, kTurn_rt, kTurn_ro, kElt_ap, kCond_t, kCond_f, wp_lc, endF_rt, endF_nx, endO_ro, kBody_ap, addD_i, addD_s, addD_t, addD_l, subD_i, mulD_i, modD_i, ltD_i, ltD_s, leD_i, gtD_i, geD_i, negD_i, isBD_b, isnBD_b, truD_b, truD_i, truD_n, truD_l, truD_t, lenD_l, lenD_t, lenD_s, intD_i, intD_b, absD_i, listD_l, listD_t, tupD_l, tupD_t, max2D_i, min2D_i, isiD_d, revD_l, slD_l, slD_t, itemsA_l, itemsA_t, itemsA_s, ixD_l, ixD_t, zpD_l, zpD_t, setT_t, setTr_t, setNs_0, setNs_1, setN_z, setN_s, setO_z, setO_s, atI_z, atI_1, atI_2, atI_3, atI_4, setIx_0, setIx_1, setIx_2, sumD_map, rg1_i, rg2_i, eqD_i, neD_i, isi_int_n, isi_int_b, isi_int_i, isi_int_s, isi_int_l, isi_int_t, isi_int_d, isi_bool_n, isi_bool_b, isi_bool_i, isi_bool_s, isi_bool_l, isi_bool_t, isi_bool_d, isi_str_n, isi_str_b, isi_str_i, isi_str_s, isi_str_l, isi_str_t, isi_str_d, isi_list_n, isi_list_b, isi_list_i, isi_list_s, isi_list_l, isi_list_t, isi_list_d, isi_tuple_n, isi_tuple_b, isi_tuple_i, isi_tuple_s, isi_tuple_l, isi_tuple_t, isi_tuple_d, isi_dict_n, isi_dict_b, isi_dict_i, isi_dict_s, isi_dict_l, isi_dict_t, isi_dict_d, notD_b, isNone_n, isNone_s, isNone_i, isNone_t, isNone_l, kPure_ap, pickD_1, pickD_2, pickD_3, pickD_4, appD_l, extD_l, List.getElem?_cons_zero, List.getElem?_cons_succ, List.set_cons_zero, List.set_cons_succ, initE, Option.map_some, List.replicate, posT, getO, fillA, putA, Bool.not_true, Bool.not_false, if_true, if_false, Bool.false_eq_true, Option.bind_some, wipeE, restE, reduceIte, List.length_cons, List.length_nil, fwp_mk, fwp_mko, Nat.reduceAdd, Nat.reduceSub, List.append_nil, List.nil_append, List.cons_append, List.reverse_cons, List.reverse_nil, Int.reduceLT, Int.reduceLE, Int.reduceAdd, Int.reduceMul, Int.reduceNeg, decide_true, decide_false, decide_eq_true_eq, Int.reduceEq, Option.map_none, and_self, and_true, true_and, Bool.true_and, Bool.false_and, Bool.or_true, Bool.or_false, List.isEmpty_nil, List.isEmpty_cons, List.getElem?_nil, Option.isSome_some, Int.cast_ofNat_Int, Bool.not_eq_true, Bool.and_true, Bool.and_self, Bool.true_or, Bool.false_or, Bool.and_false, Int.reduceSub, Int.natCast_zero, Int.reduceGT, Int.reduceGE, ne_eq, not_true_eq_false, not_false_eq_true, kCond_t, kElt_ap]
      refine ⟨p2, k + 1, fs ++ [(0 : Int) + k], rfl, by omega, rfl, by rw [List.map_append]; rfl, by rw [List.length_append, List.length_cons, List.length_nil]; omega, ?_, fun x hx => ?_, hp2.mono (by omega)⟩
      · rw [List.pairwise_append]
        refine ⟨hpw, List.pairwise_singleton _ _, fun x hx y hy => ?_⟩
        simp only [List.mem_cons, List.not_mem_nil, or_false] at hy
        have := hall x hx
        omega
      · rcases List.mem_append.mp hx with hx | hx
        · have := hall x hx; omega
        · simp only [List.mem_cons, List.not_mem_nil, or_false] at hx
          omega
    · rw [decide_eq_false h0]
      simp -implicitDefEqProofs only [owp_ok, fwp_ok, onS_s, onS_n, gR_f, gQ_f, gQ_o, gL_f, gL_o, gO_o, opL_op, wp_ret, kE_ap, kSet_ap, ifM_t, ifM_f, wp_vr, wp_vq, wp_vl, wp_vo, kBin2_ap, kBin1_ap, wp_bin, kUna_ap, wp_una, kBL2_ap, kBL1_ap, kBL0_ap, wp_binL, wp_seq0, kS2_ap, kS1_ap, wp_seq1, kTup_ap, wp_tup, kLst_ap, wp_lst, wp_seqP0, kP3_ap, kP2_ap, kP1_ap, wp_seqP1, wp_noX, kDsp_ap, wp_dsp, kBool_ap, wp_boolOf, kN_ap, kNN_ap, wp_isN, wp_isNN, kC4_ap, kC3_ap, wp_bl, kC2_ap, kC1_ap, wp_chn, kTru_ap, wp_truM, kNot_ap, wp_notM, kIf_ap, wp_andM, wp_orM, wp_ite, wp_if, kAndV2_ap, kAndV_ap, wp_andV, kOrV2_ap, kOrV_ap, wp_orV, kNotV2_ap, kNotV_ap, wp_notV, wp_part0, kPart_ap, wp_part1, kSl2_ap, kSl1_ap, kSl0_ap, wp_sl, kSL3_ap, kSL2_ap, kSL1_ap, kSL0_ap, wp_slL, wp_evA0, kA1_ap, wp_evAv, kA2_ap, wp_evAio, kCall4_ap, kCall3_ap, kCall2_ap, kCall1_ap, wp_call, kK2_ap, kK1_ap, wp_callK, wp_nx, wp_bk, wp_ct, wp_no, kSeq_nx, kSeq_rt, kSeq_ro, kSeq_bk, kSeq_ct, wp_seq, kNx_ap, kExp_ap, kRt_ap, kRo_ap, wp_expr, wp_rt, wp_rtN, wp_ro, kAsg_ap, wp_asg, wp_asgO, kI3_ap, kI2_ap, kI1_ap, kI0b_ap, kI0_ap, wp_setIx, kM2_ap, kM1_ap, kM0_ap, wp_mt, kIt_ap, kIts_ap, wp_walkA, wp_range1, wp_range2, wp_range3, wp_zipM, wp_enumM, kFor_ap, wp_for, kTurn_nx, kTurn_ct, kTurn_bk, kTurn_rt, kTurn_ro, kElt_ap, kCond_t, kCond_f, wp_lc, endF_rt, endF_nx, endO_ro, kBody_ap, addD_i, addD_s, addD_t, addD_l, subD_i, mulD_i, modD_i, ltD_i, ltD_s, leD_i, gtD_i, geD_i, negD_i, isBD_b, isnBD_b, truD_b, truD_i, truD_n, truD_l, truD_t, lenD_l, lenD_t, lenD_s, intD_i, intD_b, absD_i, listD_l, listD_t, tupD_l, tupD_t, max2D_i, min2D_i, isiD_d, revD_l, slD_l, slD_t, itemsA_l, itemsA_t, itemsA_s, ixD_l, ixD_t, zpD_l, zpD_t, setT_t, setTr_t, setNs_0, setNs_1, setN_z, setN_s, setO_z, setO_s, atI_z, atI_1, atI_2, atI_3, atI_4, setIx_0, setIx_1, setIx_2, sumD_map, rg1_i, rg2_i, eqD_i, neD_i, isi_int_n, isi_int_b, isi_int_i, isi_int_s, isi_int_l, isi_int_t, isi_int_d, isi_bool_n, isi_bool_b, isi_bool_i, isi_bool_s, isi_bool_l, isi_bool_t, isi_bool_d, isi_str_n, isi_str_b, isi_str_i, isi_str_s, isi_str_l, isi_str_t, isi_str_d, isi_list_n, isi_list_b, isi_list_i, isi_list_s, isi_list_l, isi_list_t, isi_list_d, isi_tuple_n, isi_tuple_b, isi_tuple_i, isi_tuple_s, isi_tuple_l, isi_tuple_t, isi_tuple_d, isi_dict_n, isi_dict_b, isi_dict_i, isi_dict_s, isi_dict_l, isi_dict_t, isi_dict_d, notD_b, isNone_n, isNone_s, isNone_i, isNone_t, isNone_l, kPure_ap, pickD_1, pickD_2, pickD_3, pickD_4, appD_l, extD_l, List.getElem?_cons_zero, List.getElem?_cons_succ, List.set_cons_zero, List.set_cons_succ, initE, Option.map_some, List.replicate, posT, getO, fillA, putA, Bool.not_true, Bool.not_false, if_true, if_false, Bool.false_eq_true, Option.bind_some, wipeE, restE, reduceIte, List.length_cons, List.length_nil, fwp_mk, fwp_mko, Nat.reduceAdd, Nat.reduceSub, List.append_nil, List.nil_append, List.cons_append, List.reverse_cons, List.reverse_nil, Int.reduceLT, Int.reduceLE, Int.reduceAdd, Int.reduceMul, Int.reduceNeg, decide_true, decide_false, decide_eq_true_eq, Int.reduceEq, Option.map_none, and_self, and_true, true_and, Bool.true_and, Bool.false_and, Bool.or_true, Bool.or_false, List.isEmpty_nil, List.isEmpty_cons, List.getElem?_nil, Option.isSome_some, Int.cast_ofNat_Int, Bool.not_eq_true, Bool.and_true, Bool.and_self, Bool.true_or, Bool.false_or, Bool.and_false, Int.reduceSub, Int.natCast_zero, Int.reduceGT, Int.reduceGE, ne_eq, not_true_eq_false, not_false_eq_true, kCond_f]
      exact ⟨p2, k + 1, fs, rfl, by omega, rfl, rfl, by omega, hpw, fun x hx => by have := hall x hx; omega, hp2.mono (by omega)⟩
  · rintro acc _ ⟨p', k, fs, rfl, hk, hrest, rfl, hlen, hpw, hall, hp'⟩
    have := rng_drop_nil hrest.symm
    have hk18 : k = 18 := by omega
    subst hk18
    refine ⟨by rw [sizeLine_eq, List.length_map]; omega, ?_⟩
    simp -implicitDefEqProofs only [owp_ok, fwp_ok, onS_s, onS_n, gR_f, gQ_f, gQ_o, gL_f, gL_o, gO_o, opL_op, wp_ret, kE_ap, kSet_ap, ifM_t, ifM_f, wp_vr, wp_vq, wp_vl, wp_vo, kBin2_ap, kBin1_ap, wp_bin, kUna_ap, wp_una, kBL2_ap, kBL1_ap, kBL0_ap, wp_binL, wp_seq0, kS2_ap, kS1_ap, wp_seq1, kTup_ap, wp_tup, kLst_ap, wp_lst, wp_seqP0, kP3_ap, kP2_ap, kP1_ap, wp_seqP1, wp_noX, kDsp_ap, wp_dsp, kBool_ap, wp_boolOf, kN_ap, kNN_ap, wp_isN, wp_isNN, kC4_ap, kC3_ap, wp_bl, kC2_ap, kC1_ap, wp_chn, kTru_ap, wp_truM, kNot_ap, wp_notM, kIf_ap, wp_andM, wp_orM, wp_ite, wp_if, kAndV2_ap, kAndV_ap, wp_andV, kOrV2_ap, kOrV_ap, wp_orV, kNotV2_ap, kNotV_ap, wp_notV, wp_part0, kPart_ap, wp_part1, kSl2_ap, kSl1_ap, kSl0_ap, wp_sl, kSL3_ap, kSL2_ap, kSL1_ap, kSL0_ap, wp_slL, wp_evA0, kA1_ap, wp_evAv, kA2_ap, wp_evAio, kCall4_ap, kCall3_ap, kCall2_ap, kCall1_ap, wp_call, kK2_ap, kK1_ap, wp_callK, wp_nx, wp_bk, wp_ct, wp_no, kSeq_nx, kSeq_rt, kSeq_ro, kSeq_bk, kSeq_ct, wp_seq, kNx_ap, kExp_ap, kRt_ap, kRo_ap, wp_expr, wp_rt, wp_rtN, wp_ro, kAsg_ap, wp_asg, wp_asgO, kI3_ap, kI2_ap, kI1_ap, kI0b_ap, kI0_ap, wp_setIx, kM2_ap, kM1_ap, kM0_ap, wp_mt, kIt_ap, kIts_ap, wp_walkA, wp_range1, wp_range2, wp_range3, wp_zipM, wp_enumM, kFor_ap, wp_for, kTurn_nx, kTurn_ct, kTurn_bk, kTurn_rt, kTurn_ro, kElt_ap, kCond_t, kCond_f, wp_lc, endF_rt, endF_nx, endO_ro, kBody_ap, addD_i, addD_s, addD_t, addD_l, subD_i, mulD_i, modD_i, ltD_i, ltD_s, leD_i, gtD_i, geD_i, negD_i, isBD_b, isnBD_b, truD_b, truD_i, truD_n, truD_l, truD_t, lenD_l, lenD_t, lenD_s, intD_i, intD_b, absD_i, listD_l, listD_t, tupD_l, tupD_t, max2D_i, min2D_i, isiD_d, revD_l, slD_l, slD_t, itemsA_l, itemsA_t, itemsA_s, ixD_l, ixD_t, zpD_l, zpD_t, setT_t, setTr_t, setNs_0, setNs_1, setN_z, setN_s, setO_z, setO_s, atI_z, atI_1, atI_2, atI_3, atI_4, setIx_0, setIx_1, setIx_2, sumD_map, rg1_i, rg2_i, eqD_i, neD_i, isi_int_n, isi_int_b, isi_int_i, isi_int_s, isi_int_l, isi_int_t, isi_int_d, isi_bool_n, isi_bool_b, isi_bool_i, isi_bool_s, isi_bool_l, isi_bool_t, isi_bool_d, isi_str_n, isi_str_b, isi_str_i, isi_str_s, isi_str_l, isi_str_t, isi_str_d, isi_list_n, isi_list_b, isi_list_i, isi_list_s, isi_list_l, isi_list_t, isi_list_d, isi_tuple_n, isi_tuple_b, isi_tuple_i, isi_tuple_s, isi_tuple_l, isi_tuple_t, isi_tuple_d, isi_dict_n, isi_dict_b, isi_dict_i, isi_dict_s, isi_dict_l, isi_dict_t, isi_dict_d, notD_b, isNone_n, isNone_s, isNone_i, isNone_t, isNone_l, kPure_ap, pickD_1, pickD_2, pickD_3, pickD_4, appD_l, extD_l, List.getElem?_cons_zero, List.getElem?_cons_succ, List.set_cons_zero, List.set_cons_succ, initE, Option.map_some, List.replicate, posT, getO, fillA, putA, Bool.not_true, Bool.not_false, if_true, if_false, Bool.false_eq_true, Option.bind_some, wipeE, restE, reduceIte, List.length_cons, List.length_nil, fwp_mk, fwp_mko, Nat.reduceAdd, Nat.reduceSub, List.append_nil, List.nil_append, List.cons_append, List.reverse_cons, List.reverse_nil, Int.reduceLT, Int.reduceLE, Int.reduceAdd, Int.reduceMul, Int.reduceNeg, decide_true, decide_false, decide_eq_true_eq, Int.reduceEq, Option.map_none, and_self, and_true, true_and, Bool.true_and, Bool.false_and, Bool.or_true, Bool.or_false, List.isEmpty_nil, List.isEmpty_cons, List.getElem?_nil, Option.isSome_some, Int.cast_ofNat_Int, Bool.not_eq_true, Bool.and_true, Bool.and_self, Bool.true_or, Bool.false_or, Bool.and_false, Int.reduceSub, Int.natCast_zero, Int.reduceGT, Int.reduceGE, ne_eq, not_true_eq_false, not_false_eq_true]
    exact ⟨p', fs, rfl, hlen, hpw, hall, rfl, hp'⟩
end Vk10

namespace Vk10
open PySem PySem.Spec PyProof.Rows L2 ZZ
theorem is_integer_eq (d : D) : F_is_integer [d] = .ok (.bool (intB d)) [] := by cases d <;> rfl
theorem is_between_i (v lo hi : Int) : F_is_between [.int v, .int lo, .int hi] = .ok (.bool (decide (lo ≤ v) && decide (v ≤ hi))) [] := by
  refine fo_eq ?_
  unfold F_is_between
  rw [fwp_mk]
  simp -implicitDefEqProofs only [owp_ok, fwp_ok, onS_s, onS_n, gR_f, gQ_f, gQ_o, gL_f, gL_o, gO_o, opL_op, wp_ret, kE_ap, kSet_ap, ifM_t, ifM_f, wp_vr, wp_vq, wp_vl, wp_vo, kBin2_ap, kBin1_ap, wp_bin, kUna_ap, wp_una, kBL2_ap, kBL1_ap, kBL0_ap, wp_binL, wp_seq0, kS2_ap, kS1_ap, wp_seq1, kTup_ap, wp_tup, kLst_ap, wp_lst, wp_seqP0, kP3_ap, kP2_ap, kP1_ap, wp_seqP1, wp_noX, kDsp_ap, wp_dsp, kBool_ap, wp_boolOf, kN_ap, kNN_ap, wp_isN, wp_isNN, kC4_ap, kC3_ap, wp_bl, kC2_ap, kC1_ap, wp_chn, kTru_ap, wp_truM, kNot_ap, wp_notM, kIf_ap, wp_andM, wp_orM, wp_ite, wp_if, kAndV2_ap, kAndV_ap, wp_andV, kOrV2_ap, kOrV_ap, wp_orV, kNotV2_ap, kNotV_ap, wp_notV, wp_part0, kPart_ap, wp_part1, kSl2_ap, kSl1_ap, kSl0_ap, wp_sl, kSL3_ap, kSL2_ap, kSL1_ap, kSL0_ap, wp_slL, wp_evA0, kA1_ap, wp_evAv, kA2_ap, wp_evAio, kCall4_ap, kCall3_ap, kCall2_ap, kCall1_ap, wp_call, kK2_ap, kK1_ap, wp_callK, wp_nx, wp_bk, wp_ct, wp_no, kSeq_nx, kSeq_rt, kSeq_ro, kSeq_bk, kSeq_ct, wp_seq, kNx_ap, kExp_ap, kRt_ap, kRo_ap, wp_expr, wp_rt, wp_rtN, wp_ro, kAsg_ap, wp_asg, wp_asgO, kI3_ap, kI2_ap, kI1_ap, kI0b_ap, kI0_ap, wp_setIx, kM2_ap, kM1_ap, kM0_ap, wp_mt, kIt_ap, kIts_ap, wp_walkA, wp_range1, wp_range2, wp_range3, wp_zipM, wp_enumM, kFor_ap, wp_for, kTurn_nx, kTurn_ct, kTurn_bk, kTurn_rt, kTurn_ro, kElt_ap, kCond_t, kCond_f, wp_lc, endF_rt, endF_nx, endO_ro, kBody_ap, addD_i, addD_s, addD_t, addD_l, subD_i, mulD_i, modD_i, ltD_i, ltD_s, leD_i, gtD_i, geD_i, negD_i, isBD_b, isnBD_b, truD_b, truD_i, truD_n, truD_l, truD_t, lenD_l, lenD_t, lenD_s, intD_i, intD_b, absD_i, listD_l, listD_t, tupD_l, tupD_t, max2D_i, min2D_i, isiD_d, revD_l, slD_l, slD_t, itemsA_l, itemsA_t, itemsA_s, ixD_l, ixD_t, zpD_l, zpD_t, setT_t, setTr_t, setNs_0, setNs_1, setN_z, setN_s, setO_z, setO_s, atI_z, atI_1, atI_2, atI_3, atI_4, setIx_0, setIx_1, setIx_2, sumD_map, rg1_i, rg2_i, eqD_i, neD_i, isi_int_n, isi_int_b, isi_int_i, isi_int_s, isi_int_l, isi_int_t, isi_int_d, isi_bool_n, isi_bool_b, isi_bool_i, isi_bool_s, isi_bool_l, isi_bool_t, isi_bool_d, isi_str_n, isi_str_b, isi_str_i, isi_str_s, isi_str_l, isi_str_t, isi_str_d, isi_list_n, isi_list_b, isi_list_i, isi_list_s, isi_list_l, isi_list_t, isi_list_d, isi_tuple_n, isi_tuple_b, isi_tuple_i, isi_tuple_s, isi_tuple_l, isi_tuple_t, isi_tuple_d, isi_dict_n, isi_dict_b, isi_dict_i, isi_dict_s, isi_dict_l, isi_dict_t, isi_dict_d, notD_b, isNone_n, isNone_s, isNone_i, isNone_t, isNone_l, kPure_ap, pickD_1, pickD_2, pickD_3, pickD_4, appD_l, extD_l, List.getElem?_cons_zero, List.getElem?_cons_succ, List.set_cons_zero, List.set_cons_succ, initE, Option.map_some, List.replicate, posT, getO, fillA, putA, Bool.not_true, Bool.not_false, if_true, if_false, Bool.false_eq_true, Option.bind_some, wipeE, restE, reduceIte, List.length_cons, List.length_nil, fwp_mk, fwp_mko, Nat.reduceAdd, Nat.reduceSub, List.append_nil, List.nil_append, List.cons_append, List.reverse_cons, List.reverse_nil, Int.reduceLT, Int.reduceLE, Int.reduceAdd, Int.reduceMul, Int.reduceNeg, decide_true, decide_false, decide_eq_true_eq, Int.reduceEq, Option.map_none, and_self, and_true, true_and, Bool.true_and, Bool.false_and, Bool.or_true, Bool.or_false, List.isEmpty_nil, List.isEmpty_cons, List.getElem?_nil, Option.isSome_some, Int.cast_ofNat_Int, Bool.not_eq_true, Bool.and_true, Bool.and_self, Bool.true_or, Bool.false_or, Bool.and_false, Int.reduceSub, Int.natCast_zero, Int.reduceGT, Int.reduceGE, ne_eq, not_true_eq_false, not_false_eq_true, B_is_between, is_integer_eq, intB]
  by_cases h : lo ≤ v
  · simp only [h, owp_ok, fwp_ok, onS_s, onS_n, gR_f, gQ_f, gQ_o, gL_f, gL_o, gO_o, opL_op, wp_ret, kE_ap, kSet_ap, ifM_t, ifM_f, wp_vr, wp_vq, wp_vl, wp_vo, kBin2_ap, kBin1_ap, wp_bin, kUna_ap, wp_una, kBL2_ap, kBL1_ap, kBL0_ap, wp_binL, wp_seq0, kS2_ap, kS1_ap, wp_seq1, kTup_ap, wp_tup, kLst_ap, wp_lst, wp_seqP0, kP3_ap, kP2_ap, kP1_ap, wp_seqP1, wp_noX, kDsp_ap, wp_dsp, kBool_ap, wp_boolOf, kN_ap, kNN_ap, wp_isN, wp_isNN, kC4_ap, kC3_ap, wp_bl, kC2_ap, kC1_ap, wp_chn, kTru_ap, wp_truM, kNot_ap, wp_notM, kIf_ap, wp_andM, wp_orM, wp_ite, wp_if, kAndV2_ap, kAndV_ap, wp_andV, kOrV2_ap, kOrV_ap, wp_orV, kNotV2_ap, kNotV_ap, wp_notV, wp_part0, kPart_ap, wp_part1, kSl2_ap, kSl1_ap, kSl0_ap, wp_sl, kSL3_ap, kSL2_ap, kSL1_ap, kSL0_ap, wp_slL, wp_evA0, kA1_ap, wp_evAv, kA2_ap, wp_evAio, kCall4_ap, kCall3_ap, kCall2_ap, kCall1_ap, wp_call, kK2_ap, kK1_ap, wp_callK, wp_nx, wp_bk, wp_ct, wp_no, kSeq_nx, kSeq_rt, kSeq_ro, kSeq_bk, kSeq_ct, wp_seq, kNx_ap, kExp_ap, kRt_ap, kRo_ap, wp_expr, wp_rt, wp_rtN, wp_ro, kAsg_ap, wp_asg, wp_asgO, kI3_ap, kI2_ap, kI1_ap, kI0b_ap, kI0_ap, wp_setIx, kM2_ap, kM1_ap, kM0_ap, wp_mt, kIt_ap, kIts_ap, wp_walkA, wp_range1, wp_range2, wp_range3, wp_zipM, wp_enumM, kFor_ap, wp_for, kTurn_nx, kTurn_ct, kTurn_bk, kTurn_rt, kTurn_ro, kElt_ap, kCond_t, kCond_f, wp_lc, endF_rt, endF_nx, endO_ro, kBody_ap, addD_i, addD_s, addD_t, addD_l, subD_i, mulD_i, modD_i, ltD_i, ltD_s, leD_i, gtD_i, geD_i, negD_i, isBD_b, isnBD_b, truD_b, truD_i, truD_n, truD_l, truD_t, lenD_l, lenD_t, lenD_s, intD_i, intD_b, absD_i, listD_l, listD_t, tupD_l, tupD_t, max2D_i, min2D_i, isiD_d, revD_l, slD_l, slD_t, itemsA_l, itemsA_t, itemsA_s, ixD_l, ixD_t, zpD_l, zpD_t, setT_t, setTr_t, setNs_0, setNs_1, setN_z, setN_s, setO_z, setO_s, atI_z, atI_1, atI_2, atI_3, atI_4, setIx_0, setIx_1, setIx_2, sumD_map, rg1_i, rg2_i, eqD_i, neD_i, isi_int_n, isi_int_b, isi_int_i, isi_int_s, isi_int_l, isi_int_t, isi_int_d, isi_bool_n, isi_bool_b, isi_bool_i, isi_bool_s, isi_bool_l, isi_bool_t, isi_bool_d, isi_str_n, isi_str_b, isi_str_i, isi_str_s, isi_str_l, isi_str_t, isi_str_d, isi_list_n, isi_list_b, isi_list_i, isi_list_s, isi_list_l, isi_list_t, isi_list_d, isi_tuple_n, isi_tuple_b, isi_tuple_i, isi_tuple_s, isi_tuple_l, isi_tuple_t, isi_tuple_d, isi_dict_n, isi_dict_b, isi_dict_i, isi_dict_s, isi_dict_l, isi_dict_t, isi_dict_d, notD_b, isNone_n, isNone_s, isNone_i, isNone_t, isNone_l, kPure_ap, pickD_1, pickD_2, pickD_3, pickD_4, appD_l, extD_l, List.getElem?_cons_zero, List.getElem?_cons_succ, List.set_cons_zero, List.set_cons_succ, initE, Option.map_some, List.replicate, posT, getO, fillA, putA, Bool.not_true, Bool.not_false, if_true, if_false, Bool.false_eq_true, Option.bind_some, wipeE, restE, reduceIte, List.length_cons, List.length_nil, fwp_mk, fwp_mko, Nat.reduceAdd, Nat.reduceSub, List.append_nil, List.nil_append, List.cons_append, List.reverse_cons, List.reverse_nil, Int.reduceLT, Int.reduceLE, Int.reduceAdd, Int.reduceMul, Int.reduceNeg, decide_true, decide_false, decide_eq_true_eq, Int.reduceEq, Option.map_none, and_self, and_true, true_and, Bool.true_and, Bool.false_and, Bool.or_true, Bool.or_false, List.isEmpty_nil, List.isEmpty_cons, List.getElem?_nil, Option.isSome_some, Int.cast_ofNat_Int, Bool.not_eq_true, Bool.and_true, Bool.and_self, Bool.true_or, Bool.false_or, Bool.and_false, Int.reduceSub, Int.natCast_zero, Int.reduceGT, Int.reduceGE, ne_eq, not_true_eq_false, not_false_eq_true]
  · simp only [h, owp_ok, fwp_ok, onS_s, onS_n, gR_f, gQ_f, gQ_o, gL_f, gL_o, gO_o, opL_op, wp_ret, kE_ap, kSet_ap, ifM_t, ifM_f, wp_vr, wp_vq, wp_vl, wp_vo, kBin2_ap, kBin1_ap, wp_bin, kUna_ap, wp_una, kBL2_ap, kBL1_ap, kBL0_ap, wp_binL, wp_seq0, kS2_ap, kS1_ap, wp_seq1, kTup_ap, wp_tup, kLst_ap, wp_lst, wp_seqP0, kP3_ap, kP2_ap, kP1_ap, wp_seqP1, wp_noX, kDsp_ap, wp_dsp, kBool_ap, wp_boolOf, kN_ap, kNN_ap, wp_isN, wp_isNN, kC4_ap, kC3_ap, wp_bl, kC2_ap, kC1_ap, wp_chn, kTru_ap, wp_truM, kNot_ap, wp_notM, kIf_ap, wp_andM, wp_orM, wp_ite, wp_if, kAndV2_ap, kAndV_ap, wp_andV, kOrV2_ap, kOrV_ap, wp_orV, kNotV2_ap, kNotV_ap, wp_notV, wp_part0, kPart_ap, wp_part1, kSl2_ap, kSl1_ap, kSl0_ap, wp_sl, kSL3_ap, kSL2_ap, kSL1_ap, kSL0_ap, wp_slL, wp_evA0, kA1_ap, wp_evAv, kA2_ap, wp_evAio, kCall4_ap, kCall3_ap, kCall2_ap, kCall1_ap, wp_call, kK2_ap, kK1_ap, wp_callK, wp_nx, wp_bk, wp_ct, wp_no, kSeq_nx, kSeq_rt, kSeq_ro, kSeq_bk, kSeq_ct, wp_seq, kNx_ap, kExp_ap, kRt_ap, kRo_ap, wp_expr, wp_rt, wp_rtN, wp_ro, kAsg_ap, wp_asg, wp_asgO, kI3_ap, kI2_ap, kI1_ap, kI0b_ap, kI0_ap, wp_setIx, kM2_ap, kM1_ap, kM0_ap, wp_mt, kIt_ap, kIts_ap, wp_walkA, wp_range1, wp_range2, wp_range3, wp_zipM, wp_enumM, kFor_ap, wp_for, kTurn_nx, kTurn_ct, kTurn_bk, kTurn_rt, kTurn_ro, kElt_ap, kCond_t, kCond_f, wp_lc, endF_rt, endF_nx, endO_ro, kBody_ap, addD_i, addD_s, addD_t, addD_l, subD_i, mulD_i, modD_i, ltD_i, ltD_s, leD_i, gtD_i, geD_i, negD_i, isBD_b, isnBD_b, truD_b, truD_i, truD_n, truD_l, truD_t, lenD_l, lenD_t, lenD_s, intD_i, intD_b, absD_i, listD_l, listD_t, tupD_l, tupD_t, max2D_i, min2D_i, isiD_d, revD_l, slD_l, slD_t, itemsA_l, itemsA_t, itemsA_s, ixD_l, ixD_t, zpD_l, zpD_t, setT_t, setTr_t, setNs_0, setNs_1, setN_z, setN_s, setO_z, setO_s, atI_z, atI_1, atI_2, atI_3, atI_4, setIx_0, setIx_1, setIx_2, sumD_map, rg1_i, rg2_i, eqD_i, neD_i, isi_int_n, isi_int_b, isi_int_i, isi_int_s, isi_int_l, isi_int_t, isi_int_d, isi_bool_n, isi_bool_b, isi_bool_i, isi_bool_s, isi_bool_l, isi_bool_t, isi_bool_d, isi_str_n, isi_str_b, isi_str_i, isi_str_s, isi_str_l, isi_str_t, isi_str_d, isi_list_n, isi_list_b, isi_list_i, isi_list_s, isi_list_l, isi_list_t, isi_list_d, isi_tuple_n, isi_tuple_b, isi_tuple_i, isi_tuple_s, isi_tuple_l, isi_tuple_t, isi_tuple_d, isi_dict_n, isi_dict_b, isi_dict_i, isi_dict_s, isi_dict_l, isi_dict_t, isi_dict_d, notD_b, isNone_n, isNone_s, isNone_i, isNone_t, isNone_l, kPure_ap, pickD_1, pickD_2, pickD_3, pickD_4, appD_l, extD_l, List.getElem?_cons_zero, List.getElem?_cons_succ, List.set_cons_zero, List.set_cons_succ, initE, Option.map_some, List.replicate, posT, getO, fillA, putA, Bool.not_true, Bool.not_false, if_true, if_false, Bool.false_eq_true, Option.bind_some, wipeE, restE, reduceIte, List.length_cons, List.length_nil, fwp_mk, fwp_mko, Nat.reduceAdd, Nat.reduceSub, List.append_nil, List.nil_append, List.cons_append, List.reverse_cons, List.reverse_nil, Int.reduceLT, Int.reduceLE, Int.reduceAdd, Int.reduceMul, Int.reduceNeg, decide_true, decide_false, decide_eq_true_eq, Int.reduceEq, Option.map_none, and_self, and_true, true_and, Bool.true_and, Bool.false_and, Bool.or_true, Bool.or_false, List.isEmpty_nil, List.isEmpty_cons, List.getElem?_nil, Option.isSome_some, Int.cast_ofNat_Int, Bool.not_eq_true, Bool.and_true, Bool.and_self, Bool.true_or, Bool.false_or, Bool.and_false, Int.reduceSub, Int.natCast_zero, Int.reduceGT, Int.reduceGE, ne_eq, not_true_eq_false, not_false_eq_true]
theorem is_between_n (v : D) (lo hi : Int) (h : intB v = false) : F_is_between [v, .int lo, .int hi] = .ok (.bool false) [] := by
  refine fo_eq ?_
  unfold F_is_between
  rw [fwp_mk]
  simp -implicitDefEqProofs only [owp_ok, fwp_ok, onS_s, onS_n, gR_f, gQ_f, gQ_o, gL_f, gL_o, gO_o, opL_op, wp_ret, kE_ap, kSet_ap, ifM_t, ifM_f, wp_vr, wp_vq, wp_vl, wp_vo, kBin2_ap, kBin1_ap, wp_bin, kUna_ap, wp_una, kBL2_ap, kBL1_ap, kBL0_ap, wp_binL, wp_seq0, kS2_ap, kS1_ap, wp_seq1, kTup_ap, wp_tup, kLst_ap, wp_lst, wp_seqP0, kP3_ap, kP2_ap, kP1_ap, wp_seqP1, wp_noX, kDsp_ap, wp_dsp, kBool_ap, wp_boolOf, kN_ap, kNN_ap, wp_isN, wp_isNN, kC4_ap, kC3_ap, wp_bl, kC2_ap, kC1_ap, wp_chn, kTru_ap, wp_truM, kNot_ap, wp_notM, kIf_ap, wp_andM, wp_orM, wp_ite, wp_if, kAndV2_ap, kAndV_ap, wp_andV, kOrV2_ap, kOrV_ap, wp_orV, kNotV2_ap, kNotV_ap, wp_notV, wp_part0, kPart_ap, wp_part1, kSl2_ap, kSl1_ap, kSl0_ap, wp_sl, kSL3_ap, kSL2_ap, kSL1_ap, kSL0_ap, wp_slL, wp_evA0, kA1_ap, wp_evAv, kA2_ap, wp_evAio, kCall4_ap, kCall3_ap, kCall2_ap, kCall1_ap, wp_call, kK2_ap, kK1_ap, wp_callK, wp_nx, wp_bk, wp_ct, wp_no, kSeq_nx, kSeq_rt, kSeq_ro, kSeq_bk, kSeq_ct, wp_seq, kNx_ap, kExp_ap, kRt_ap, kRo_ap, wp_expr, wp_rt, wp_rtN, wp_ro, kAsg_ap, wp_asg, wp_asgO, kI3_ap, kI2_ap, kI1_ap, kI0b_ap, kI0_ap, wp_setIx, kM2_ap, kM1_ap, kM0_ap, wp_mt, kIt_ap, kIts_ap, wp_walkA, wp_range1, wp_range2, wp_range3, wp_zipM, wp_enumM, kFor_ap, wp_for, kTurn_nx, kTurn_ct, kTurn_bk, kTurn_rt, kTurn_ro, kElt_ap, kCond_t, kCond_f, wp_lc, endF_rt, endF_nx, endO_ro, kBody_ap, addD_i, addD_s, addD_t, addD_l, subD_i, mulD_i, modD_i, ltD_i, ltD_s, leD_i, gtD_i, geD_i, negD_i, isBD_b, isnBD_b, truD_b, truD_i, truD_n, truD_l, truD_t, lenD_l, lenD_t, lenD_s, intD_i, intD_b, absD_i, listD_l, listD_t, tupD_l, tupD_t, max2D_i, min2D_i, isiD_d, revD_l, slD_l, slD_t, itemsA_l, itemsA_t, itemsA_s, ixD_l, ixD_t, zpD_l, zpD_t, setT_t, setTr_t, setNs_0, setNs_1, setN_z, setN_s, setO_z, setO_s, atI_z, atI_1, atI_2, atI_3, atI_4, setIx_0, setIx_1, setIx_2, sumD_map, rg1_i, rg2_i, eqD_i, neD_i, isi_int_n, isi_int_b, isi_int_i, isi_int_s, isi_int_l, isi_int_t, isi_int_d, isi_bool_n, isi_bool_b, isi_bool_i, isi_bool_s, isi_bool_l, isi_bool_t, isi_bool_d, isi_str_n, isi_str_b, isi_str_i, isi_str_s, isi_str_l, isi_str_t, isi_str_d, isi_list_n, isi_list_b, isi_list_i, isi_list_s, isi_list_l, isi_list_t, isi_list_d, isi_tuple_n, isi_tuple_b, isi_tuple_i, isi_tuple_s, isi_tuple_l, isi_tuple_t, isi_tuple_d, isi_dict_n, isi_dict_b, isi_dict_i, isi_dict_s, isi_dict_l, isi_dict_t, isi_dict_d, notD_b, isNone_n, isNone_s, isNone_i, isNone_t, isNone_l, kPure_ap, pickD_1, pickD_2, pickD_3, pickD_4, appD_l, extD_l, List.getElem?_cons_zero, List.getElem?_cons_succ, List.set_cons_zero, List.set_cons_succ, initE, Option.map_some, List.replicate, posT, getO, fillA, putA, Bool.not_true, Bool.not_false, if_true, if_false, Bool.false_eq_true, Option.bind_some, wipeE, restE, reduceIte, List.length_cons, List.length_nil, fwp_mk, fwp_mko, Nat.reduceAdd, Nat.reduceSub, List.append_nil, List.nil_append, List.cons_append, List.reverse_cons, List.reverse_nil, Int.reduceLT, Int.reduceLE, Int.reduceAdd, Int.reduceMul, Int.reduceNeg, decide_true, decide_false, decide_eq_true_eq, Int.reduceEq, Option.map_none, and_self, and_true, true_and, Bool.true_and, Bool.false_and, Bool.or_true, Bool.or_false, List.isEmpty_nil, List.isEmpty_cons, List.getElem?_nil, Option.isSome_some, Int.cast_ofNat_Int, Bool.not_eq_true, Bool.and_true, Bool.and_self, Bool.true_or, Bool.false_or, Bool.and_false, Int.reduceSub, Int.natCast_zero, Int.reduceGT, Int.reduceGE, ne_eq, not_true_eq_false, not_false_eq_true, B_is_between, is_integer_eq, h]
theorem name_van : F_is_name [.str "van"] = .ok (.bool true) [] := of_isT (by decide +kernel)
theorem is_answer_ok {w : D} (h : WordOk w) : F_is_answer [w] = .ok (.bool true) [] := by
  rcases h with rfl | rfl | rfl | ⟨a, b, rfl, h1, h2, h3, h4⟩
  · exact of_isT (by decide +kernel)
  · exact of_isT (by decide +kernel)
  · exact of_isT (by decide +kernel)
  · have hb : F_is_bound [.tuple [.int a, .int b]] = .ok (.bool true) [] := by
      refine fo_eq ?_
      unfold F_is_bound
      rw [fwp_mk]
      simp -implicitDefEqProofs only [owp_ok, fwp_ok, onS_s, onS_n, gR_f, gQ_f, gQ_o, gL_f, gL_o, gO_o, opL_op, wp_ret, kE_ap, kSet_ap, ifM_t, ifM_f, wp_vr, wp_vq, wp_vl, wp_vo, kBin2_ap, kBin1_ap, wp_bin, kUna_ap, wp_una, kBL2_ap, kBL1_ap, kBL0_ap, wp_binL, wp_seq0, kS2_ap, kS1_ap, wp_seq1, kTup_ap, wp_tup, kLst_ap, wp_lst, wp_seqP0, kP3_ap, kP2_ap, kP1_ap, wp_seqP1, wp_noX, kDsp_ap, wp_dsp, kBool_ap, wp_boolOf, kN_ap, kNN_ap, wp_isN, wp_isNN, kC4_ap, kC3_ap, wp_bl, kC2_ap, kC1_ap, wp_chn, kTru_ap, wp_truM, kNot_ap, wp_notM, kIf_ap, wp_andM, wp_orM, wp_ite, wp_if, kAndV2_ap, kAndV_ap, wp_andV, kOrV2_ap, kOrV_ap, wp_orV, kNotV2_ap, kNotV_ap, wp_notV, wp_part0, kPart_ap, wp_part1, kSl2_ap, kSl1_ap, kSl0_ap, wp_sl, kSL3_ap, kSL2_ap, kSL1_ap, kSL0_ap, wp_slL, wp_evA0, kA1_ap, wp_evAv, kA2_ap, wp_evAio, kCall4_ap, kCall3_ap, kCall2_ap, kCall1_ap, wp_call, kK2_ap, kK1_ap, wp_callK, wp_nx, wp_bk, wp_ct, wp_no, kSeq_nx, kSeq_rt, kSeq_ro, kSeq_bk, kSeq_ct, wp_seq, kNx_ap, kExp_ap, kRt_ap, kRo_ap, wp_expr, wp_rt, wp_rtN, wp_ro, kAsg_ap, wp_asg, wp_asgO, kI3_ap, kI2_ap, kI1_ap, kI0b_ap, kI0_ap, wp_setIx, kM2_ap, kM1_ap, kM0_ap, wp_mt, kIt_ap, kIts_ap, wp_walkA, wp_range1, wp_range2, wp_range3, wp_zipM, wp_enumM, kFor_ap, wp_for, kTurn_nx, kTurn_ct, kTurn_bk, kTurn_rt, kTurn_ro, kElt_ap, kCond_t, kCond_f, wp_lc, endF_rt, endF_nx, endO_ro, kBody_ap, addD_i, addD_s, addD_t, addD_l, subD_i, mulD_i, modD_i, ltD_i, ltD_s, leD_i, gtD_i, geD_i, negD_i, isBD_b, isnBD_b, truD_b, truD_i, truD_n, truD_l, truD_t, lenD_l, lenD_t, lenD_s, intD_i, intD_b, absD_i, listD_l, listD_t, tupD_l, tupD_t, max2D_i, min2D_i, isiD_d, revD_l, slD_l, slD_t, itemsA_l, itemsA_t, itemsA_s, ixD_l, ixD_t, zpD_l, zpD_t, setT_t, setTr_t, setNs_0, setNs_1, setN_z, setN_s, setO_z, setO_s, atI_z, atI_1, atI_2, atI_3, atI_4, setIx_0, setIx_1, setIx_2, sumD_map, rg1_i, rg2_i, eqD_i, neD_i, isi_int_n, isi_int_b, isi_int_i, isi_int_s, isi_int_l, isi_int_t, isi_int_d, isi_bool_n, isi_bool_b, isi_bool_i, isi_bool_s, isi_bool_l, isi_bool_t, isi_bool_d, isi_str_n, isi_str_b, isi_str_i, isi_str_s, isi_str_l, isi_str_t, isi_str_d, isi_list_n, isi_list_b, isi_list_i, isi_list_s, isi_list_l, isi_list_t, isi_list_d, isi_tuple_n, isi_tuple_b, isi_tuple_i, isi_tuple_s, isi_tuple_l, isi_tuple_t, isi_tuple_d, isi_dict_n, isi_dict_b, isi_dict_i, isi_dict_s, isi_dict_l, isi_dict_t, isi_dict_d, notD_b, isNone_n, isNone_s, isNone_i, isNone_t, isNone_l, kPure_ap, pickD_1, pickD_2, pickD_3, pickD_4, appD_l, extD_l, List.getElem?_cons_zero, List.getElem?_cons_succ, List.set_cons_zero, List.set_cons_succ, initE, Option.map_some, List.replicate, posT, getO, fillA, putA, Bool.not_true, Bool.not_false, if_true, if_false, Bool.false_eq_true, Option.bind_some, wipeE, restE, reduceIte, List.length_cons, List.length_nil, fwp_mk, fwp_mko, Nat.reduceAdd, Nat.reduceSub, List.append_nil, List.nil_append, List.cons_append, List.reverse_cons, List.reverse_nil, Int.reduceLT, Int.reduceLE, Int.reduceAdd, Int.reduceMul, Int.reduceNeg, decide_true, decide_false, decide_eq_true_eq, Int.reduceEq, Option.map_none, and_self, and_true, true_and, Bool.true_and, Bool.false_and, Bool.or_true, Bool.or_false, List.isEmpty_nil, List.isEmpty_cons, List.getElem?_nil, Option.isSome_some, Int.cast_ofNat_Int, Bool.not_eq_true, Bool.and_true, Bool.and_self, Bool.true_or, Bool.false_or, Bool.and_false, Int.reduceSub, Int.natCast_zero, Int.reduceGT, Int.reduceGE, ne_eq, not_true_eq_false, not_false_eq_true, B_is_bound, is_between_i, h1, h3, show a ≤ 10000 by omega, show b ≤ 9999 by omega]
    refine fo_eq ?_
    have hn : F_is_name [.tuple [.int a, .int b]] = .ok (.bool false) [] := by
      refine fo_eq ?_
      unfold F_is_name
      rw [fwp_mk]
      simp -implicitDefEqProofs only [owp_ok, fwp_ok, onS_s, onS_n, gR_f, gQ_f, gQ_o, gL_f, gL_o, gO_o, opL_op, wp_ret, kE_ap, kSet_ap, ifM_t, ifM_f, wp_vr, wp_vq, wp_vl, wp_vo, kBin2_ap, kBin1_ap, wp_bin, kUna_ap, wp_una, kBL2_ap, kBL1_ap, kBL0_ap, wp_binL, wp_seq0, kS2_ap, kS1_ap, wp_seq1, kTup_ap, wp_tup, kLst_ap, wp_lst, wp_seqP0, kP3_ap, kP2_ap, kP1_ap, wp_seqP1, wp_noX, kDsp_ap, wp_dsp, kBool_ap, wp_boolOf, kN_ap, kNN_ap, wp_isN, wp_isNN, kC4_ap, kC3_ap, wp_bl, kC2_ap, kC1_ap, wp_chn, kTru_ap, wp_truM, kNot_ap, wp_notM, kIf_ap, wp_andM, wp_orM, wp_ite, wp_if, kAndV2_ap, kAndV_ap, wp_andV, kOrV2_ap, kOrV_ap, wp_orV, kNotV2_ap, kNotV_ap, wp_notV, wp_part0, kPart_ap, wp_part1, kSl2_ap, kSl1_ap, kSl0_ap, wp_sl, kSL3_ap, kSL2_ap, kSL1_ap, kSL0_ap, wp_slL, wp_evA0, kA1_ap, wp_evAv, kA2_ap, wp_evAio, kCall4_ap, kCall3_ap, kCall2_ap, kCall1_ap, wp_call, kK2_ap, kK1_ap, wp_callK, wp_nx, wp_bk, wp_ct, wp_no, kSeq_nx, kSeq_rt, kSeq_ro, kSeq_bk, kSeq_ct, wp_seq, kNx_ap, kExp_ap, kRt_ap, kRo_ap, wp_expr, wp_rt, wp_rtN, wp_ro, kAsg_ap, wp_asg, wp_asgO, kI3_ap, kI2_ap, kI1_ap, kI0b_ap, kI0_ap, wp_setIx, kM2_ap, kM1_ap, kM0_ap, wp_mt, kIt_ap, kIts_ap, wp_walkA, wp_range1, wp_range2, wp_range3, wp_zipM, wp_enumM, kFor_ap, wp_for, kTurn_nx, kTurn_ct, kTurn_bk, kTurn_rt, kTurn_ro, kElt_ap, kCond_t, kCond_f, wp_lc, endF_rt, endF_nx, endO_ro, kBody_ap, addD_i, addD_s, addD_t, addD_l, subD_i, mulD_i, modD_i, ltD_i, ltD_s, leD_i, gtD_i, geD_i, negD_i, isBD_b, isnBD_b, truD_b, truD_i, truD_n, truD_l, truD_t, lenD_l, lenD_t, lenD_s, intD_i, intD_b, absD_i, listD_l, listD_t, tupD_l, tupD_t, max2D_i, min2D_i, isiD_d, revD_l, slD_l, slD_t, itemsA_l, itemsA_t, itemsA_s, ixD_l, ixD_t, zpD_l, zpD_t, setT_t, setTr_t, setNs_0, setNs_1, setN_z, setN_s, setO_z, setO_s, atI_z, atI_1, atI_2, atI_3, atI_4, setIx_0, setIx_1, setIx_2, sumD_map, rg1_i, rg2_i, eqD_i, neD_i, isi_int_n, isi_int_b, isi_int_i, isi_int_s, isi_int_l, isi_int_t, isi_int_d, isi_bool_n, isi_bool_b, isi_bool_i, isi_bool_s, isi_bool_l, isi_bool_t, isi_bool_d, isi_str_n, isi_str_b, isi_str_i, isi_str_s, isi_str_l, isi_str_t, isi_str_d, isi_list_n, isi_list_b, isi_list_i, isi_list_s, isi_list_l, isi_list_t, isi_list_d, isi_tuple_n, isi_tuple_b, isi_tuple_i, isi_tuple_s, isi_tuple_l, isi_tuple_t, isi_tuple_d, isi_dict_n, isi_dict_b, isi_dict_i, isi_dict_s, isi_dict_l, isi_dict_t, isi_dict_d, notD_b, isNone_n, isNone_s, isNone_i, isNone_t, isNone_l, kPure_ap, pickD_1, pickD_2, pickD_3, pickD_4, appD_l, extD_l, List.getElem?_cons_zero, List.getElem?_cons_succ, List.set_cons_zero, List.set_cons_succ, initE, Option.map_some, List.replicate, posT, getO, fillA, putA, Bool.not_true, Bool.not_false, if_true, if_false, Bool.false_eq_true, Option.bind_some, wipeE, restE, reduceIte, List.length_cons, List.length_nil, fwp_mk, fwp_mko, Nat.reduceAdd, Nat.reduceSub, List.append_nil, List.nil_append, List.cons_append, List.reverse_cons, List.reverse_nil, Int.reduceLT, Int.reduceLE, Int.reduceAdd, Int.reduceMul, Int.reduceNeg, decide_true, decide_false, decide_eq_true_eq, Int.reduceEq, Option.map_none, and_self, and_true, true_and, Bool.true_and, Bool.false_and, Bool.or_true, Bool.or_false, List.isEmpty_nil, List.isEmpty_cons, List.getElem?_nil, Option.isSome_some, Int.cast_ofNat_Int, Bool.not_eq_true, Bool.and_true, Bool.and_self, Bool.true_or, Bool.false_or, Bool.and_false, Int.reduceSub, Int.natCast_zero, Int.reduceGT, Int.reduceGE, ne_eq, not_true_eq_false, not_false_eq_true, B_is_name]
    unfold F_is_answer
    rw [fwp_mk]
    simp -implicitDefEqProofs only [owp_ok, fwp_ok, onS_s, onS_n, gR_f, gQ_f, gQ_o, gL_f, gL_o, gO_o, opL_op, wp_ret, kE_ap, kSet_ap, ifM_t, ifM_f, wp_vr, wp_vq, wp_vl, wp_vo, kBin2_ap, kBin1_ap, wp_bin, kUna_ap, wp_una, kBL2_ap, kBL1_ap, kBL0_ap, wp_binL, wp_seq0, kS2_ap, kS1_ap, wp_seq1, kTup_ap, wp_tup, kLst_ap, wp_lst, wp_seqP0, kP3_ap, kP2_ap, kP1_ap, wp_seqP1, wp_noX, kDsp_ap, wp_dsp, kBool_ap, wp_boolOf, kN_ap, kNN_ap, wp_isN, wp_isNN, kC4_ap, kC3_ap, wp_bl, kC2_ap, kC1_ap, wp_chn, kTru_ap, wp_truM, kNot_ap, wp_notM, kIf_ap, wp_andM, wp_orM, wp_ite, wp_if, kAndV2_ap, kAndV_ap, wp_andV, kOrV2_ap, kOrV_ap, wp_orV, kNotV2_ap, kNotV_ap, wp_notV, wp_part0, kPart_ap, wp_part1, kSl2_ap, kSl1_ap, kSl0_ap, wp_sl, kSL3_ap, kSL2_ap, kSL1_ap, kSL0_ap, wp_slL, wp_evA0, kA1_ap, wp_evAv, kA2_ap, wp_evAio, kCall4_ap, kCall3_ap, kCall2_ap, kCall1_ap, wp_call, kK2_ap, kK1_ap, wp_callK, wp_nx, wp_bk, wp_ct, wp_no, kSeq_nx, kSeq_rt, kSeq_ro, kSeq_bk, kSeq_ct, wp_seq, kNx_ap, kExp_ap, kRt_ap, kRo_ap, wp_expr, wp_rt, wp_rtN, wp_ro, kAsg_ap, wp_asg, wp_asgO, kI3_ap, kI2_ap, kI1_ap, kI0b_ap, kI0_ap, wp_setIx, kM2_ap, kM1_ap, kM0_ap, wp_mt, kIt_ap, kIts_ap, wp_walkA, wp_range1, wp_range2, wp_range3, wp_zipM, wp_enumM, kFor_ap, wp_for, kTurn_nx, kTurn_ct, kTurn_bk, kTurn_rt, kTurn_ro, kElt_ap, kCond_t, kCond_f, wp_lc, endF_rt, endF_nx, endO_ro, kBody_ap, addD_i, addD_s, addD_t, addD_l, subD_i, mulD_i, modD_i, ltD_i, ltD_s, leD_i, gtD_i, geD_i, negD_i, isBD_b, isnBD_b, truD_b, truD_i, truD_n, truD_l, truD_t, lenD_l, lenD_t, lenD_s, intD_i, intD_b, absD_i, listD_l, listD_t, tupD_l, tupD_t, max2D_i, min2D_i, isiD_d, revD_l, slD_l, slD_t, itemsA_l, itemsA_t, itemsA_s, ixD_l, ixD_t, zpD_l, zpD_t, setT_t, setTr_t, setNs_0, setNs_1, setN_z, setN_s, setO_z, setO_s, atI_z, atI_1, atI_2, atI_3, atI_4, setIx_0, setIx_1, setIx_2, sumD_map, rg1_i, rg2_i, eqD_i, neD_i, isi_int_n, isi_int_b, isi_int_i, isi_int_s, isi_int_l, isi_int_t, isi_int_d, isi_bool_n, isi_bool_b, isi_bool_i, isi_bool_s, isi_bool_l, isi_bool_t, isi_bool_d, isi_str_n, isi_str_b, isi_str_i, isi_str_s, isi_str_l, isi_str_t, isi_str_d, isi_list_n, isi_list_b, isi_list_i, isi_list_s, isi_list_l, isi_list_t, isi_list_d, isi_tuple_n, isi_tuple_b, isi_tuple_i, isi_tuple_s, isi_tuple_l, isi_tuple_t, isi_tuple_d, isi_dict_n, isi_dict_b, isi_dict_i, isi_dict_s, isi_dict_l, isi_dict_t, isi_dict_d, notD_b, isNone_n, isNone_s, isNone_i, isNone_t, isNone_l, kPure_ap, pickD_1, pickD_2, pickD_3, pickD_4, appD_l, extD_l, List.getElem?_cons_zero, List.getElem?_cons_succ, List.set_cons_zero, List.set_cons_succ, initE, Option.map_some, List.replicate, posT, getO, fillA, putA, Bool.not_true, Bool.not_false, if_true, if_false, Bool.false_eq_true, Option.bind_some, wipeE, restE, reduceIte, List.length_cons, List.length_nil, fwp_mk, fwp_mko, Nat.reduceAdd, Nat.reduceSub, List.append_nil, List.nil_append, List.cons_append, List.reverse_cons, List.reverse_nil, Int.reduceLT, Int.reduceLE, Int.reduceAdd, Int.reduceMul, Int.reduceNeg, decide_true, decide_false, decide_eq_true_eq, Int.reduceEq, Option.map_none, and_self, and_true, true_and, Bool.true_and, Bool.false_and, Bool.or_true, Bool.or_false, List.isEmpty_nil, List.isEmpty_cons, List.getElem?_nil, Option.isSome_some, Int.cast_ofNat_Int, Bool.not_eq_true, Bool.and_true, Bool.and_self, Bool.true_or, Bool.false_or, Bool.and_false, Int.reduceSub, Int.natCast_zero, Int.reduceGT, Int.reduceGE, ne_eq, not_true_eq_false, not_false_eq_true, B_is_answer, hn, hb]
theorem are_kinds_ok {k : D} (h : KindsOk k) : F_are_kinds [k] = .ok (.bool true) [] := by
  rcases h with rfl | rfl | rfl <;> exact of_isT (by decide +kernel)
theorem days_in {d : D} (h : DaysOk d) : (∃ z, d = .str z) ∧ ninD d (.tuple [.str "any", .str "plain", .str "feast", .str "eve"]) = some (.bool false) := by
  rcases h with rfl | rfl | rfl | rfl <;> exact ⟨⟨_, rfl⟩, of_bIs (by decide +kernel)⟩
theorem hours_b {h : Int} (hh : HoursOk h) : 1 ≤ h ∧ h ≤ 24 := by rcases hh with rfl | rfl | rfl | rfl | rfl <;> omega
theorem is_row_ok {h : Int} {r : D} (hh : HoursOk h) (hr : RowOk h r) : F_is_row [.int h, r] = .ok (.bool true) [] := by
  have hb := hours_b hh
  obtain ⟨b, e, dd, kk, ww, rfl, b0, b1, e0, e1, be, hd, hk, hw⟩ := hr
  obtain ⟨⟨z, rfl⟩, hdn⟩ := days_in hd
  refine fo_eq ?_
  unfold F_is_row
  rw [fwp_mk]
  simp -implicitDefEqProofs only [owp_ok, fwp_ok, onS_s, onS_n, gR_f, gQ_f, gQ_o, gL_f, gL_o, gO_o, opL_op, wp_ret, kE_ap, kSet_ap, ifM_t, ifM_f, wp_vr, wp_vq, wp_vl, wp_vo, kBin2_ap, kBin1_ap, wp_bin, kUna_ap, wp_una, kBL2_ap, kBL1_ap, kBL0_ap, wp_binL, wp_seq0, kS2_ap, kS1_ap, wp_seq1, kTup_ap, wp_tup, kLst_ap, wp_lst, wp_seqP0, kP3_ap, kP2_ap, kP1_ap, wp_seqP1, wp_noX, kDsp_ap, wp_dsp, kBool_ap, wp_boolOf, kN_ap, kNN_ap, wp_isN, wp_isNN, kC4_ap, kC3_ap, wp_bl, kC2_ap, kC1_ap, wp_chn, kTru_ap, wp_truM, kNot_ap, wp_notM, kIf_ap, wp_andM, wp_orM, wp_ite, wp_if, kAndV2_ap, kAndV_ap, wp_andV, kOrV2_ap, kOrV_ap, wp_orV, kNotV2_ap, kNotV_ap, wp_notV, wp_part0, kPart_ap, wp_part1, kSl2_ap, kSl1_ap, kSl0_ap, wp_sl, kSL3_ap, kSL2_ap, kSL1_ap, kSL0_ap, wp_slL, wp_evA0, kA1_ap, wp_evAv, kA2_ap, wp_evAio, kCall4_ap, kCall3_ap, kCall2_ap, kCall1_ap, wp_call, kK2_ap, kK1_ap, wp_callK, wp_nx, wp_bk, wp_ct, wp_no, kSeq_nx, kSeq_rt, kSeq_ro, kSeq_bk, kSeq_ct, wp_seq, kNx_ap, kExp_ap, kRt_ap, kRo_ap, wp_expr, wp_rt, wp_rtN, wp_ro, kAsg_ap, wp_asg, wp_asgO, kI3_ap, kI2_ap, kI1_ap, kI0b_ap, kI0_ap, wp_setIx, kM2_ap, kM1_ap, kM0_ap, wp_mt, kIt_ap, kIts_ap, wp_walkA, wp_range1, wp_range2, wp_range3, wp_zipM, wp_enumM, kFor_ap, wp_for, kTurn_nx, kTurn_ct, kTurn_bk, kTurn_rt, kTurn_ro, kElt_ap, kCond_t, kCond_f, wp_lc, endF_rt, endF_nx, endO_ro, kBody_ap, addD_i, addD_s, addD_t, addD_l, subD_i, mulD_i, modD_i, ltD_i, ltD_s, leD_i, gtD_i, geD_i, negD_i, isBD_b, isnBD_b, truD_b, truD_i, truD_n, truD_l, truD_t, lenD_l, lenD_t, lenD_s, intD_i, intD_b, absD_i, listD_l, listD_t, tupD_l, tupD_t, max2D_i, min2D_i, isiD_d, revD_l, slD_l, slD_t, itemsA_l, itemsA_t, itemsA_s, ixD_l, ixD_t, zpD_l, zpD_t, setT_t, setTr_t, setNs_0, setNs_1, setN_z, setN_s, setO_z, setO_s, atI_z, atI_1, atI_2, atI_3, atI_4, setIx_0, setIx_1, setIx_2, sumD_map, rg1_i, rg2_i, eqD_i, neD_i, isi_int_n, isi_int_b, isi_int_i, isi_int_s, isi_int_l, isi_int_t, isi_int_d, isi_bool_n, isi_bool_b, isi_bool_i, isi_bool_s, isi_bool_l, isi_bool_t, isi_bool_d, isi_str_n, isi_str_b, isi_str_i, isi_str_s, isi_str_l, isi_str_t, isi_str_d, isi_list_n, isi_list_b, isi_list_i, isi_list_s, isi_list_l, isi_list_t, isi_list_d, isi_tuple_n, isi_tuple_b, isi_tuple_i, isi_tuple_s, isi_tuple_l, isi_tuple_t, isi_tuple_d, isi_dict_n, isi_dict_b, isi_dict_i, isi_dict_s, isi_dict_l, isi_dict_t, isi_dict_d, notD_b, isNone_n, isNone_s, isNone_i, isNone_t, isNone_l, kPure_ap, pickD_1, pickD_2, pickD_3, pickD_4, appD_l, extD_l, List.getElem?_cons_zero, List.getElem?_cons_succ, List.set_cons_zero, List.set_cons_succ, initE, Option.map_some, List.replicate, posT, getO, fillA, putA, Bool.not_true, Bool.not_false, if_true, if_false, Bool.false_eq_true, Option.bind_some, wipeE, restE, reduceIte, List.length_cons, List.length_nil, fwp_mk, fwp_mko, Nat.reduceAdd, Nat.reduceSub, List.append_nil, List.nil_append, List.cons_append, List.reverse_cons, List.reverse_nil, Int.reduceLT, Int.reduceLE, Int.reduceAdd, Int.reduceMul, Int.reduceNeg, decide_true, decide_false, decide_eq_true_eq, Int.reduceEq, Option.map_none, and_self, and_true, true_and, Bool.true_and, Bool.false_and, Bool.or_true, Bool.or_false, List.isEmpty_nil, List.isEmpty_cons, List.getElem?_nil, Option.isSome_some, Int.cast_ofNat_Int, Bool.not_eq_true, Bool.and_true, Bool.and_self, Bool.true_or, Bool.false_or, Bool.and_false, Int.reduceSub, Int.natCast_zero, Int.reduceGT, Int.reduceGE, ne_eq, not_true_eq_false, not_false_eq_true, B_is_row, mulOk_l (i := 7) (j := h) (by omega), is_between_i, b0, e0, show b ≤ 7 * h - 1 by omega, show e ≤ 7 * h - 1 by omega, show 0 < 7 * h by omega, show ¬ (h < (e - b) % (7 * h)) by omega, hdn, are_kinds_ok hk, is_answer_ok hw]
theorem is_sign_ok {h : Int} {s : D} (hh : HoursOk h) (hs : SignOk h s) : F_is_sign [s] = .ok (.bool true) [] := by
  have hb := hours_b hh
  obtain ⟨rows, rfl, hl, hr⟩ := hs
  refine fo_eq ?_
  unfold F_is_sign
  rw [fwp_mk]
  simp -implicitDefEqProofs only [owp_ok, fwp_ok, onS_s, onS_n, gR_f, gQ_f, gQ_o, gL_f, gL_o, gO_o, opL_op, wp_ret, kE_ap, kSet_ap, ifM_t, ifM_f, wp_vr, wp_vq, wp_vl, wp_vo, kBin2_ap, kBin1_ap, wp_bin, kUna_ap, wp_una, kBL2_ap, kBL1_ap, kBL0_ap, wp_binL, wp_seq0, kS2_ap, kS1_ap, wp_seq1, kTup_ap, wp_tup, kLst_ap, wp_lst, wp_seqP0, kP3_ap, kP2_ap, kP1_ap, wp_seqP1, wp_noX, kDsp_ap, wp_dsp, kBool_ap, wp_boolOf, kN_ap, kNN_ap, wp_isN, wp_isNN, kC4_ap, kC3_ap, wp_bl, kC2_ap, kC1_ap, wp_chn, kTru_ap, wp_truM, kNot_ap, wp_notM, kIf_ap, wp_andM, wp_orM, wp_ite, wp_if, kAndV2_ap, kAndV_ap, wp_andV, kOrV2_ap, kOrV_ap, wp_orV, kNotV2_ap, kNotV_ap, wp_notV, wp_part0, kPart_ap, wp_part1, kSl2_ap, kSl1_ap, kSl0_ap, wp_sl, kSL3_ap, kSL2_ap, kSL1_ap, kSL0_ap, wp_slL, wp_evA0, kA1_ap, wp_evAv, kA2_ap, wp_evAio, kCall4_ap, kCall3_ap, kCall2_ap, kCall1_ap, wp_call, kK2_ap, kK1_ap, wp_callK, wp_nx, wp_bk, wp_ct, wp_no, kSeq_nx, kSeq_rt, kSeq_ro, kSeq_bk, kSeq_ct, wp_seq, kNx_ap, kExp_ap, kRt_ap, kRo_ap, wp_expr, wp_rt, wp_rtN, wp_ro, kAsg_ap, wp_asg, wp_asgO, kI3_ap, kI2_ap, kI1_ap, kI0b_ap, kI0_ap, wp_setIx, kM2_ap, kM1_ap, kM0_ap, wp_mt, kIt_ap, kIts_ap, wp_walkA, wp_range1, wp_range2, wp_range3, wp_zipM, wp_enumM, kFor_ap, wp_for, kTurn_nx, kTurn_ct, kTurn_bk, kTurn_rt, kTurn_ro, kElt_ap, kCond_t, kCond_f, wp_lc, endF_rt, endF_nx, endO_ro, kBody_ap, addD_i, addD_s, addD_t, addD_l, subD_i, mulD_i, modD_i, ltD_i, ltD_s, leD_i, gtD_i, geD_i, negD_i, isBD_b, isnBD_b, truD_b, truD_i, truD_n, truD_l, truD_t, lenD_l, lenD_t, lenD_s, intD_i, intD_b, absD_i, listD_l, listD_t, tupD_l, tupD_t, max2D_i, min2D_i, isiD_d, revD_l, slD_l, slD_t, itemsA_l, itemsA_t, itemsA_s, ixD_l, ixD_t, zpD_l, zpD_t, setT_t, setTr_t, setNs_0, setNs_1, setN_z, setN_s, setO_z, setO_s, atI_z, atI_1, atI_2, atI_3, atI_4, setIx_0, setIx_1, setIx_2, sumD_map, rg1_i, rg2_i, eqD_i, neD_i, isi_int_n, isi_int_b, isi_int_i, isi_int_s, isi_int_l, isi_int_t, isi_int_d, isi_bool_n, isi_bool_b, isi_bool_i, isi_bool_s, isi_bool_l, isi_bool_t, isi_bool_d, isi_str_n, isi_str_b, isi_str_i, isi_str_s, isi_str_l, isi_str_t, isi_str_d, isi_list_n, isi_list_b, isi_list_i, isi_list_s, isi_list_l, isi_list_t, isi_list_d, isi_tuple_n, isi_tuple_b, isi_tuple_i, isi_tuple_s, isi_tuple_l, isi_tuple_t, isi_tuple_d, isi_dict_n, isi_dict_b, isi_dict_i, isi_dict_s, isi_dict_l, isi_dict_t, isi_dict_d, notD_b, isNone_n, isNone_s, isNone_i, isNone_t, isNone_l, kPure_ap, pickD_1, pickD_2, pickD_3, pickD_4, appD_l, extD_l, List.getElem?_cons_zero, List.getElem?_cons_succ, List.set_cons_zero, List.set_cons_succ, initE, Option.map_some, List.replicate, posT, getO, fillA, putA, Bool.not_true, Bool.not_false, if_true, if_false, Bool.false_eq_true, Option.bind_some, wipeE, restE, reduceIte, List.length_cons, List.length_nil, fwp_mk, fwp_mko, Nat.reduceAdd, Nat.reduceSub, List.append_nil, List.nil_append, List.cons_append, List.reverse_cons, List.reverse_nil, Int.reduceLT, Int.reduceLE, Int.reduceAdd, Int.reduceMul, Int.reduceNeg, decide_true, decide_false, decide_eq_true_eq, Int.reduceEq, Option.map_none, and_self, and_true, true_and, Bool.true_and, Bool.false_and, Bool.or_true, Bool.or_false, List.isEmpty_nil, List.isEmpty_cons, List.getElem?_nil, Option.isSome_some, Int.cast_ofNat_Int, Bool.not_eq_true, Bool.and_true, Bool.and_self, Bool.true_or, Bool.false_or, Bool.and_false, Int.reduceSub, Int.natCast_zero, Int.reduceGT, Int.reduceGE, ne_eq, not_true_eq_false, not_false_eq_true, B_is_sign, is_between_i, hb.1, hb.2, show ¬ ((12 : Int) < (rows.length : Int)) by omega]
  refine kLc_map (fun _ => .bool true) (fun d hd => ?_) (by rw [sizeLine_eq]; omega) ?_
  · simp -implicitDefEqProofs only [owp_ok, fwp_ok, onS_s, onS_n, gR_f, gQ_f, gQ_o, gL_f, gL_o, gO_o, opL_op, wp_ret, kE_ap, kSet_ap, ifM_t, ifM_f, wp_vr, wp_vq, wp_vl, wp_vo, kBin2_ap, kBin1_ap, wp_bin, kUna_ap, wp_una, kBL2_ap, kBL1_ap, kBL0_ap, wp_binL, wp_seq0, kS2_ap, kS1_ap, wp_seq1, kTup_ap, wp_tup, kLst_ap, wp_lst, wp_seqP0, kP3_ap, kP2_ap, kP1_ap, wp_seqP1, wp_noX, kDsp_ap, wp_dsp, kBool_ap, wp_boolOf, kN_ap, kNN_ap, wp_isN, wp_isNN, kC4_ap, kC3_ap, wp_bl, kC2_ap, kC1_ap, wp_chn, kTru_ap, wp_truM, kNot_ap, wp_notM, kIf_ap, wp_andM, wp_orM, wp_ite, wp_if, kAndV2_ap, kAndV_ap, wp_andV, kOrV2_ap, kOrV_ap, wp_orV, kNotV2_ap, kNotV_ap, wp_notV, wp_part0, kPart_ap, wp_part1, kSl2_ap, kSl1_ap, kSl0_ap, wp_sl, kSL3_ap, kSL2_ap, kSL1_ap, kSL0_ap, wp_slL, wp_evA0, kA1_ap, wp_evAv, kA2_ap, wp_evAio, kCall4_ap, kCall3_ap, kCall2_ap, kCall1_ap, wp_call, kK2_ap, kK1_ap, wp_callK, wp_nx, wp_bk, wp_ct, wp_no, kSeq_nx, kSeq_rt, kSeq_ro, kSeq_bk, kSeq_ct, wp_seq, kNx_ap, kExp_ap, kRt_ap, kRo_ap, wp_expr, wp_rt, wp_rtN, wp_ro, kAsg_ap, wp_asg, wp_asgO, kI3_ap, kI2_ap, kI1_ap, kI0b_ap, kI0_ap, wp_setIx, kM2_ap, kM1_ap, kM0_ap, wp_mt, kIt_ap, kIts_ap, wp_walkA, wp_range1, wp_range2, wp_range3, wp_zipM, wp_enumM, kFor_ap, wp_for, kTurn_nx, kTurn_ct, kTurn_bk, kTurn_rt, kTurn_ro, kElt_ap, kCond_t, kCond_f, wp_lc, endF_rt, endF_nx, endO_ro, kBody_ap, addD_i, addD_s, addD_t, addD_l, subD_i, mulD_i, modD_i, ltD_i, ltD_s, leD_i, gtD_i, geD_i, negD_i, isBD_b, isnBD_b, truD_b, truD_i, truD_n, truD_l, truD_t, lenD_l, lenD_t, lenD_s, intD_i, intD_b, absD_i, listD_l, listD_t, tupD_l, tupD_t, max2D_i, min2D_i, isiD_d, revD_l, slD_l, slD_t, itemsA_l, itemsA_t, itemsA_s, ixD_l, ixD_t, zpD_l, zpD_t, setT_t, setTr_t, setNs_0, setNs_1, setN_z, setN_s, setO_z, setO_s, atI_z, atI_1, atI_2, atI_3, atI_4, setIx_0, setIx_1, setIx_2, sumD_map, rg1_i, rg2_i, eqD_i, neD_i, isi_int_n, isi_int_b, isi_int_i, isi_int_s, isi_int_l, isi_int_t, isi_int_d, isi_bool_n, isi_bool_b, isi_bool_i, isi_bool_s, isi_bool_l, isi_bool_t, isi_bool_d, isi_str_n, isi_str_b, isi_str_i, isi_str_s, isi_str_l, isi_str_t, isi_str_d, isi_list_n, isi_list_b, isi_list_i, isi_list_s, isi_list_l, isi_list_t, isi_list_d, isi_tuple_n, isi_tuple_b, isi_tuple_i, isi_tuple_s, isi_tuple_l, isi_tuple_t, isi_tuple_d, isi_dict_n, isi_dict_b, isi_dict_i, isi_dict_s, isi_dict_l, isi_dict_t, isi_dict_d, notD_b, isNone_n, isNone_s, isNone_i, isNone_t, isNone_l, kPure_ap, pickD_1, pickD_2, pickD_3, pickD_4, appD_l, extD_l, List.getElem?_cons_zero, List.getElem?_cons_succ, List.set_cons_zero, List.set_cons_succ, initE, Option.map_some, List.replicate, posT, getO, fillA, putA, Bool.not_true, Bool.not_false, if_true, if_false, Bool.false_eq_true, Option.bind_some, wipeE, restE, reduceIte, List.length_cons, List.length_nil, fwp_mk, fwp_mko, Nat.reduceAdd, Nat.reduceSub, List.append_nil, List.nil_append, List.cons_append, List.reverse_cons, List.reverse_nil, Int.reduceLT, Int.reduceLE, Int.reduceAdd, Int.reduceMul, Int.reduceNeg, decide_true, decide_false, decide_eq_true_eq, Int.reduceEq, Option.map_none, and_self, and_true, true_and, Bool.true_and, Bool.false_and, Bool.or_true, Bool.or_false, List.isEmpty_nil, List.isEmpty_cons, List.getElem?_nil, Option.isSome_some, Int.cast_ofNat_Int, Bool.not_eq_true, Bool.and_true, Bool.and_self, Bool.true_or, Bool.false_or, Bool.and_false, Int.reduceSub, Int.natCast_zero, Int.reduceGT, Int.reduceGE, ne_eq, not_true_eq_false, not_false_eq_true, is_row_ok hh (hr d hd), kPure_ap]
  · simp -implicitDefEqProofs only [owp_ok, fwp_ok, onS_s, onS_n, gR_f, gQ_f, gQ_o, gL_f, gL_o, gO_o, opL_op, wp_ret, kE_ap, kSet_ap, ifM_t, ifM_f, wp_vr, wp_vq, wp_vl, wp_vo, kBin2_ap, kBin1_ap, wp_bin, kUna_ap, wp_una, kBL2_ap, kBL1_ap, kBL0_ap, wp_binL, wp_seq0, kS2_ap, kS1_ap, wp_seq1, kTup_ap, wp_tup, kLst_ap, wp_lst, wp_seqP0, kP3_ap, kP2_ap, kP1_ap, wp_seqP1, wp_noX, kDsp_ap, wp_dsp, kBool_ap, wp_boolOf, kN_ap, kNN_ap, wp_isN, wp_isNN, kC4_ap, kC3_ap, wp_bl, kC2_ap, kC1_ap, wp_chn, kTru_ap, wp_truM, kNot_ap, wp_notM, kIf_ap, wp_andM, wp_orM, wp_ite, wp_if, kAndV2_ap, kAndV_ap, wp_andV, kOrV2_ap, kOrV_ap, wp_orV, kNotV2_ap, kNotV_ap, wp_notV, wp_part0, kPart_ap, wp_part1, kSl2_ap, kSl1_ap, kSl0_ap, wp_sl, kSL3_ap, kSL2_ap, kSL1_ap, kSL0_ap, wp_slL, wp_evA0, kA1_ap, wp_evAv, kA2_ap, wp_evAio, kCall4_ap, kCall3_ap, kCall2_ap, kCall1_ap, wp_call, kK2_ap, kK1_ap, wp_callK, wp_nx, wp_bk, wp_ct, wp_no, kSeq_nx, kSeq_rt, kSeq_ro, kSeq_bk, kSeq_ct, wp_seq, kNx_ap, kExp_ap, kRt_ap, kRo_ap, wp_expr, wp_rt, wp_rtN, wp_ro, kAsg_ap, wp_asg, wp_asgO, kI3_ap, kI2_ap, kI1_ap, kI0b_ap, kI0_ap, wp_setIx, kM2_ap, kM1_ap, kM0_ap, wp_mt, kIt_ap, kIts_ap, wp_walkA, wp_range1, wp_range2, wp_range3, wp_zipM, wp_enumM, kFor_ap, wp_for, kTurn_nx, kTurn_ct, kTurn_bk, kTurn_rt, kTurn_ro, kElt_ap, kCond_t, kCond_f, wp_lc, endF_rt, endF_nx, endO_ro, kBody_ap, addD_i, addD_s, addD_t, addD_l, subD_i, mulD_i, modD_i, ltD_i, ltD_s, leD_i, gtD_i, geD_i, negD_i, isBD_b, isnBD_b, truD_b, truD_i, truD_n, truD_l, truD_t, lenD_l, lenD_t, lenD_s, intD_i, intD_b, absD_i, listD_l, listD_t, tupD_l, tupD_t, max2D_i, min2D_i, isiD_d, revD_l, slD_l, slD_t, itemsA_l, itemsA_t, itemsA_s, ixD_l, ixD_t, zpD_l, zpD_t, setT_t, setTr_t, setNs_0, setNs_1, setN_z, setN_s, setO_z, setO_s, atI_z, atI_1, atI_2, atI_3, atI_4, setIx_0, setIx_1, setIx_2, sumD_map, rg1_i, rg2_i, eqD_i, neD_i, isi_int_n, isi_int_b, isi_int_i, isi_int_s, isi_int_l, isi_int_t, isi_int_d, isi_bool_n, isi_bool_b, isi_bool_i, isi_bool_s, isi_bool_l, isi_bool_t, isi_bool_d, isi_str_n, isi_str_b, isi_str_i, isi_str_s, isi_str_l, isi_str_t, isi_str_d, isi_list_n, isi_list_b, isi_list_i, isi_list_s, isi_list_l, isi_list_t, isi_list_d, isi_tuple_n, isi_tuple_b, isi_tuple_i, isi_tuple_s, isi_tuple_l, isi_tuple_t, isi_tuple_d, isi_dict_n, isi_dict_b, isi_dict_i, isi_dict_s, isi_dict_l, isi_dict_t, isi_dict_d, notD_b, isNone_n, isNone_s, isNone_i, isNone_t, isNone_l, kPure_ap, pickD_1, pickD_2, pickD_3, pickD_4, appD_l, extD_l, List.getElem?_cons_zero, List.getElem?_cons_succ, List.set_cons_zero, List.set_cons_succ, initE, Option.map_some, List.replicate, posT, getO, fillA, putA, Bool.not_true, Bool.not_false, if_true, if_false, Bool.false_eq_true, Option.bind_some, wipeE, restE, reduceIte, List.length_cons, List.length_nil, fwp_mk, fwp_mko, Nat.reduceAdd, Nat.reduceSub, List.append_nil, List.nil_append, List.cons_append, List.reverse_cons, List.reverse_nil, Int.reduceLT, Int.reduceLE, Int.reduceAdd, Int.reduceMul, Int.reduceNeg, decide_true, decide_false, decide_eq_true_eq, Int.reduceEq, Option.map_none, and_self, and_true, true_and, Bool.true_and, Bool.false_and, Bool.or_true, Bool.or_false, List.isEmpty_nil, List.isEmpty_cons, List.getElem?_nil, Option.isSome_some, Int.cast_ofNat_Int, Bool.not_eq_true, Bool.and_true, Bool.and_self, Bool.true_or, Bool.false_or, Bool.and_false, Int.reduceSub, Int.natCast_zero, Int.reduceGT, Int.reduceGE, ne_eq, not_true_eq_false, not_false_eq_true, allD_map (fun _ => true)]
    simp
theorem is_asc_ok {fs : List Int} (hl : fs.length ≤ 400) (hp : fs.Pairwise (· < ·)) : F_is_ascending [.tuple (fs.map PyData.int)] = .ok (.bool true) [] := by
  refine fo_eq ?_
  unfold F_is_ascending
  rw [fwp_mk]
  have hc : cutD (fs.map PyData.int) (some 1) none = (fs.map PyData.int).drop 1 := cutD_drop _ 1
  simp -implicitDefEqProofs only [owp_ok, fwp_ok, onS_s, onS_n, gR_f, gQ_f, gQ_o, gL_f, gL_o, gO_o, opL_op, wp_ret, kE_ap, kSet_ap, ifM_t, ifM_f, wp_vr, wp_vq, wp_vl, wp_vo, kBin2_ap, kBin1_ap, wp_bin, kUna_ap, wp_una, kBL2_ap, kBL1_ap, kBL0_ap, wp_binL, wp_seq0, kS2_ap, kS1_ap, wp_seq1, kTup_ap, wp_tup, kLst_ap, wp_lst, wp_seqP0, kP3_ap, kP2_ap, kP1_ap, wp_seqP1, wp_noX, kDsp_ap, wp_dsp, kBool_ap, wp_boolOf, kN_ap, kNN_ap, wp_isN, wp_isNN, kC4_ap, kC3_ap, wp_bl, kC2_ap, kC1_ap, wp_chn, kTru_ap, wp_truM, kNot_ap, wp_notM, kIf_ap, wp_andM, wp_orM, wp_ite, wp_if, kAndV2_ap, kAndV_ap, wp_andV, kOrV2_ap, kOrV_ap, wp_orV, kNotV2_ap, kNotV_ap, wp_notV, wp_part0, kPart_ap, wp_part1, kSl2_ap, kSl1_ap, kSl0_ap, wp_sl, kSL3_ap, kSL2_ap, kSL1_ap, kSL0_ap, wp_slL, wp_evA0, kA1_ap, wp_evAv, kA2_ap, wp_evAio, kCall4_ap, kCall3_ap, kCall2_ap, kCall1_ap, wp_call, kK2_ap, kK1_ap, wp_callK, wp_nx, wp_bk, wp_ct, wp_no, kSeq_nx, kSeq_rt, kSeq_ro, kSeq_bk, kSeq_ct, wp_seq, kNx_ap, kExp_ap, kRt_ap, kRo_ap, wp_expr, wp_rt, wp_rtN, wp_ro, kAsg_ap, wp_asg, wp_asgO, kI3_ap, kI2_ap, kI1_ap, kI0b_ap, kI0_ap, wp_setIx, kM2_ap, kM1_ap, kM0_ap, wp_mt, kIt_ap, kIts_ap, wp_walkA, wp_range1, wp_range2, wp_range3, wp_zipM, wp_enumM, kFor_ap, wp_for, kTurn_nx, kTurn_ct, kTurn_bk, kTurn_rt, kTurn_ro, kElt_ap, kCond_t, kCond_f, wp_lc, endF_rt, endF_nx, endO_ro, kBody_ap, addD_i, addD_s, addD_t, addD_l, subD_i, mulD_i, modD_i, ltD_i, ltD_s, leD_i, gtD_i, geD_i, negD_i, isBD_b, isnBD_b, truD_b, truD_i, truD_n, truD_l, truD_t, lenD_l, lenD_t, lenD_s, intD_i, intD_b, absD_i, listD_l, listD_t, tupD_l, tupD_t, max2D_i, min2D_i, isiD_d, revD_l, slD_l, slD_t, itemsA_l, itemsA_t, itemsA_s, ixD_l, ixD_t, zpD_l, zpD_t, setT_t, setTr_t, setNs_0, setNs_1, setN_z, setN_s, setO_z, setO_s, atI_z, atI_1, atI_2, atI_3, atI_4, setIx_0, setIx_1, setIx_2, sumD_map, rg1_i, rg2_i, eqD_i, neD_i, isi_int_n, isi_int_b, isi_int_i, isi_int_s, isi_int_l, isi_int_t, isi_int_d, isi_bool_n, isi_bool_b, isi_bool_i, isi_bool_s, isi_bool_l, isi_bool_t, isi_bool_d, isi_str_n, isi_str_b, isi_str_i, isi_str_s, isi_str_l, isi_str_t, isi_str_d, isi_list_n, isi_list_b, isi_list_i, isi_list_s, isi_list_l, isi_list_t, isi_list_d, isi_tuple_n, isi_tuple_b, isi_tuple_i, isi_tuple_s, isi_tuple_l, isi_tuple_t, isi_tuple_d, isi_dict_n, isi_dict_b, isi_dict_i, isi_dict_s, isi_dict_l, isi_dict_t, isi_dict_d, notD_b, isNone_n, isNone_s, isNone_i, isNone_t, isNone_l, kPure_ap, pickD_1, pickD_2, pickD_3, pickD_4, appD_l, extD_l, List.getElem?_cons_zero, List.getElem?_cons_succ, List.set_cons_zero, List.set_cons_succ, initE, Option.map_some, List.replicate, posT, getO, fillA, putA, Bool.not_true, Bool.not_false, if_true, if_false, Bool.false_eq_true, Option.bind_some, wipeE, restE, reduceIte, List.length_cons, List.length_nil, fwp_mk, fwp_mko, Nat.reduceAdd, Nat.reduceSub, List.append_nil, List.nil_append, List.cons_append, List.reverse_cons, List.reverse_nil, Int.reduceLT, Int.reduceLE, Int.reduceAdd, Int.reduceMul, Int.reduceNeg, decide_true, decide_false, decide_eq_true_eq, Int.reduceEq, Option.map_none, and_self, and_true, true_and, Bool.true_and, Bool.false_and, Bool.or_true, Bool.or_false, List.isEmpty_nil, List.isEmpty_cons, List.getElem?_nil, Option.isSome_some, Int.cast_ofNat_Int, Bool.not_eq_true, Bool.and_true, Bool.and_self, Bool.true_or, Bool.false_or, Bool.and_false, Int.reduceSub, Int.natCast_zero, Int.reduceGT, Int.reduceGE, ne_eq, not_true_eq_false, not_false_eq_true, B_is_ascending, hc]
  refine kLc_map (fun _ => .bool true) (fun d hd => ?_) (Nat.le_trans (prs_len _ _) (by rw [sizeLine_eq, List.length_map]; omega)) ?_
  · obtain ⟨a, b, rfl, hab⟩ := asc_pairs hp d hd
    simp -implicitDefEqProofs only [owp_ok, fwp_ok, onS_s, onS_n, gR_f, gQ_f, gQ_o, gL_f, gL_o, gO_o, opL_op, wp_ret, kE_ap, kSet_ap, ifM_t, ifM_f, wp_vr, wp_vq, wp_vl, wp_vo, kBin2_ap, kBin1_ap, wp_bin, kUna_ap, wp_una, kBL2_ap, kBL1_ap, kBL0_ap, wp_binL, wp_seq0, kS2_ap, kS1_ap, wp_seq1, kTup_ap, wp_tup, kLst_ap, wp_lst, wp_seqP0, kP3_ap, kP2_ap, kP1_ap, wp_seqP1, wp_noX, kDsp_ap, wp_dsp, kBool_ap, wp_boolOf, kN_ap, kNN_ap, wp_isN, wp_isNN, kC4_ap, kC3_ap, wp_bl, kC2_ap, kC1_ap, wp_chn, kTru_ap, wp_truM, kNot_ap, wp_notM, kIf_ap, wp_andM, wp_orM, wp_ite, wp_if, kAndV2_ap, kAndV_ap, wp_andV, kOrV2_ap, kOrV_ap, wp_orV, kNotV2_ap, kNotV_ap, wp_notV, wp_part0, kPart_ap, wp_part1, kSl2_ap, kSl1_ap, kSl0_ap, wp_sl, kSL3_ap, kSL2_ap, kSL1_ap, kSL0_ap, wp_slL, wp_evA0, kA1_ap, wp_evAv, kA2_ap, wp_evAio, kCall4_ap, kCall3_ap, kCall2_ap, kCall1_ap, wp_call, kK2_ap, kK1_ap, wp_callK, wp_nx, wp_bk, wp_ct, wp_no, kSeq_nx, kSeq_rt, kSeq_ro, kSeq_bk, kSeq_ct, wp_seq, kNx_ap, kExp_ap, kRt_ap, kRo_ap, wp_expr, wp_rt, wp_rtN, wp_ro, kAsg_ap, wp_asg, wp_asgO, kI3_ap, kI2_ap, kI1_ap, kI0b_ap, kI0_ap, wp_setIx, kM2_ap, kM1_ap, kM0_ap, wp_mt, kIt_ap, kIts_ap, wp_walkA, wp_range1, wp_range2, wp_range3, wp_zipM, wp_enumM, kFor_ap, wp_for, kTurn_nx, kTurn_ct, kTurn_bk, kTurn_rt, kTurn_ro, kElt_ap, kCond_t, kCond_f, wp_lc, endF_rt, endF_nx, endO_ro, kBody_ap, addD_i, addD_s, addD_t, addD_l, subD_i, mulD_i, modD_i, ltD_i, ltD_s, leD_i, gtD_i, geD_i, negD_i, isBD_b, isnBD_b, truD_b, truD_i, truD_n, truD_l, truD_t, lenD_l, lenD_t, lenD_s, intD_i, intD_b, absD_i, listD_l, listD_t, tupD_l, tupD_t, max2D_i, min2D_i, isiD_d, revD_l, slD_l, slD_t, itemsA_l, itemsA_t, itemsA_s, ixD_l, ixD_t, zpD_l, zpD_t, setT_t, setTr_t, setNs_0, setNs_1, setN_z, setN_s, setO_z, setO_s, atI_z, atI_1, atI_2, atI_3, atI_4, setIx_0, setIx_1, setIx_2, sumD_map, rg1_i, rg2_i, eqD_i, neD_i, isi_int_n, isi_int_b, isi_int_i, isi_int_s, isi_int_l, isi_int_t, isi_int_d, isi_bool_n, isi_bool_b, isi_bool_i, isi_bool_s, isi_bool_l, isi_bool_t, isi_bool_d, isi_str_n, isi_str_b, isi_str_i, isi_str_s, isi_str_l, isi_str_t, isi_str_d, isi_list_n, isi_list_b, isi_list_i, isi_list_s, isi_list_l, isi_list_t, isi_list_d, isi_tuple_n, isi_tuple_b, isi_tuple_i, isi_tuple_s, isi_tuple_l, isi_tuple_t, isi_tuple_d, isi_dict_n, isi_dict_b, isi_dict_i, isi_dict_s, isi_dict_l, isi_dict_t, isi_dict_d, notD_b, isNone_n, isNone_s, isNone_i, isNone_t, isNone_l, kPure_ap, pickD_1, pickD_2, pickD_3, pickD_4, appD_l, extD_l, List.getElem?_cons_zero, List.getElem?_cons_succ, List.set_cons_zero, List.set_cons_succ, initE, Option.map_some, List.replicate, posT, getO, fillA, putA, Bool.not_true, Bool.not_false, if_true, if_false, Bool.false_eq_true, Option.bind_some, wipeE, restE, reduceIte, List.length_cons, List.length_nil, fwp_mk, fwp_mko, Nat.reduceAdd, Nat.reduceSub, List.append_nil, List.nil_append, List.cons_append, List.reverse_cons, List.reverse_nil, Int.reduceLT, Int.reduceLE, Int.reduceAdd, Int.reduceMul, Int.reduceNeg, decide_true, decide_false, decide_eq_true_eq, Int.reduceEq, Option.map_none, and_self, and_true, true_and, Bool.true_and, Bool.false_and, Bool.or_true, Bool.or_false, List.isEmpty_nil, List.isEmpty_cons, List.getElem?_nil, Option.isSome_some, Int.cast_ofNat_Int, Bool.not_eq_true, Bool.and_true, Bool.and_self, Bool.true_or, Bool.false_or, Bool.and_false, Int.reduceSub, Int.natCast_zero, Int.reduceGT, Int.reduceGE, ne_eq, not_true_eq_false, not_false_eq_true, hab]
  · simp -implicitDefEqProofs only [owp_ok, fwp_ok, onS_s, onS_n, gR_f, gQ_f, gQ_o, gL_f, gL_o, gO_o, opL_op, wp_ret, kE_ap, kSet_ap, ifM_t, ifM_f, wp_vr, wp_vq, wp_vl, wp_vo, kBin2_ap, kBin1_ap, wp_bin, kUna_ap, wp_una, kBL2_ap, kBL1_ap, kBL0_ap, wp_binL, wp_seq0, kS2_ap, kS1_ap, wp_seq1, kTup_ap, wp_tup, kLst_ap, wp_lst, wp_seqP0, kP3_ap, kP2_ap, kP1_ap, wp_seqP1, wp_noX, kDsp_ap, wp_dsp, kBool_ap, wp_boolOf, kN_ap, kNN_ap, wp_isN, wp_isNN, kC4_ap, kC3_ap, wp_bl, kC2_ap, kC1_ap, wp_chn, kTru_ap, wp_truM, kNot_ap, wp_notM, kIf_ap, wp_andM, wp_orM, wp_ite, wp_if, kAndV2_ap, kAndV_ap, wp_andV, kOrV2_ap, kOrV_ap, wp_orV, kNotV2_ap, kNotV_ap, wp_notV, wp_part0, kPart_ap, wp_part1, kSl2_ap, kSl1_ap, kSl0_ap, wp_sl, kSL3_ap, kSL2_ap, kSL1_ap, kSL0_ap, wp_slL, wp_evA0, kA1_ap, wp_evAv, kA2_ap, wp_evAio, kCall4_ap, kCall3_ap, kCall2_ap, kCall1_ap, wp_call, kK2_ap, kK1_ap, wp_callK, wp_nx, wp_bk, wp_ct, wp_no, kSeq_nx, kSeq_rt, kSeq_ro, kSeq_bk, kSeq_ct, wp_seq, kNx_ap, kExp_ap, kRt_ap, kRo_ap, wp_expr, wp_rt, wp_rtN, wp_ro, kAsg_ap, wp_asg, wp_asgO, kI3_ap, kI2_ap, kI1_ap, kI0b_ap, kI0_ap, wp_setIx, kM2_ap, kM1_ap, kM0_ap, wp_mt, kIt_ap, kIts_ap, wp_walkA, wp_range1, wp_range2, wp_range3, wp_zipM, wp_enumM, kFor_ap, wp_for, kTurn_nx, kTurn_ct, kTurn_bk, kTurn_rt, kTurn_ro, kElt_ap, kCond_t, kCond_f, wp_lc, endF_rt, endF_nx, endO_ro, kBody_ap, addD_i, addD_s, addD_t, addD_l, subD_i, mulD_i, modD_i, ltD_i, ltD_s, leD_i, gtD_i, geD_i, negD_i, isBD_b, isnBD_b, truD_b, truD_i, truD_n, truD_l, truD_t, lenD_l, lenD_t, lenD_s, intD_i, intD_b, absD_i, listD_l, listD_t, tupD_l, tupD_t, max2D_i, min2D_i, isiD_d, revD_l, slD_l, slD_t, itemsA_l, itemsA_t, itemsA_s, ixD_l, ixD_t, zpD_l, zpD_t, setT_t, setTr_t, setNs_0, setNs_1, setN_z, setN_s, setO_z, setO_s, atI_z, atI_1, atI_2, atI_3, atI_4, setIx_0, setIx_1, setIx_2, sumD_map, rg1_i, rg2_i, eqD_i, neD_i, isi_int_n, isi_int_b, isi_int_i, isi_int_s, isi_int_l, isi_int_t, isi_int_d, isi_bool_n, isi_bool_b, isi_bool_i, isi_bool_s, isi_bool_l, isi_bool_t, isi_bool_d, isi_str_n, isi_str_b, isi_str_i, isi_str_s, isi_str_l, isi_str_t, isi_str_d, isi_list_n, isi_list_b, isi_list_i, isi_list_s, isi_list_l, isi_list_t, isi_list_d, isi_tuple_n, isi_tuple_b, isi_tuple_i, isi_tuple_s, isi_tuple_l, isi_tuple_t, isi_tuple_d, isi_dict_n, isi_dict_b, isi_dict_i, isi_dict_s, isi_dict_l, isi_dict_t, isi_dict_d, notD_b, isNone_n, isNone_s, isNone_i, isNone_t, isNone_l, kPure_ap, pickD_1, pickD_2, pickD_3, pickD_4, appD_l, extD_l, List.getElem?_cons_zero, List.getElem?_cons_succ, List.set_cons_zero, List.set_cons_succ, initE, Option.map_some, List.replicate, posT, getO, fillA, putA, Bool.not_true, Bool.not_false, if_true, if_false, Bool.false_eq_true, Option.bind_some, wipeE, restE, reduceIte, List.length_cons, List.length_nil, fwp_mk, fwp_mko, Nat.reduceAdd, Nat.reduceSub, List.append_nil, List.nil_append, List.cons_append, List.reverse_cons, List.reverse_nil, Int.reduceLT, Int.reduceLE, Int.reduceAdd, Int.reduceMul, Int.reduceNeg, decide_true, decide_false, decide_eq_true_eq, Int.reduceEq, Option.map_none, and_self, and_true, true_and, Bool.true_and, Bool.false_and, Bool.or_true, Bool.or_false, List.isEmpty_nil, List.isEmpty_cons, List.getElem?_nil, Option.isSome_some, Int.cast_ofNat_Int, Bool.not_eq_true, Bool.and_true, Bool.and_self, Bool.true_or, Bool.false_or, Bool.and_false, Int.reduceSub, Int.natCast_zero, Int.reduceGT, Int.reduceGE, ne_eq, not_true_eq_false, not_false_eq_true, allD_map (fun _ => true)]
    simp
theorem are_feasts_ok {f : D} (hf : FeastsOk f) : F_are_feasts [f] = .ok (.bool true) [] := by
  obtain ⟨fs, rfl, hl, hp, ha⟩ := hf
  refine fo_eq ?_
  unfold F_are_feasts
  rw [fwp_mk]
  simp -implicitDefEqProofs only [owp_ok, fwp_ok, onS_s, onS_n, gR_f, gQ_f, gQ_o, gL_f, gL_o, gO_o, opL_op, wp_ret, kE_ap, kSet_ap, ifM_t, ifM_f, wp_vr, wp_vq, wp_vl, wp_vo, kBin2_ap, kBin1_ap, wp_bin, kUna_ap, wp_una, kBL2_ap, kBL1_ap, kBL0_ap, wp_binL, wp_seq0, kS2_ap, kS1_ap, wp_seq1, kTup_ap, wp_tup, kLst_ap, wp_lst, wp_seqP0, kP3_ap, kP2_ap, kP1_ap, wp_seqP1, wp_noX, kDsp_ap, wp_dsp, kBool_ap, wp_boolOf, kN_ap, kNN_ap, wp_isN, wp_isNN, kC4_ap, kC3_ap, wp_bl, kC2_ap, kC1_ap, wp_chn, kTru_ap, wp_truM, kNot_ap, wp_notM, kIf_ap, wp_andM, wp_orM, wp_ite, wp_if, kAndV2_ap, kAndV_ap, wp_andV, kOrV2_ap, kOrV_ap, wp_orV, kNotV2_ap, kNotV_ap, wp_notV, wp_part0, kPart_ap, wp_part1, kSl2_ap, kSl1_ap, kSl0_ap, wp_sl, kSL3_ap, kSL2_ap, kSL1_ap, kSL0_ap, wp_slL, wp_evA0, kA1_ap, wp_evAv, kA2_ap, wp_evAio, kCall4_ap, kCall3_ap, kCall2_ap, kCall1_ap, wp_call, kK2_ap, kK1_ap, wp_callK, wp_nx, wp_bk, wp_ct, wp_no, kSeq_nx, kSeq_rt, kSeq_ro, kSeq_bk, kSeq_ct, wp_seq, kNx_ap, kExp_ap, kRt_ap, kRo_ap, wp_expr, wp_rt, wp_rtN, wp_ro, kAsg_ap, wp_asg, wp_asgO, kI3_ap, kI2_ap, kI1_ap, kI0b_ap, kI0_ap, wp_setIx, kM2_ap, kM1_ap, kM0_ap, wp_mt, kIt_ap, kIts_ap, wp_walkA, wp_range1, wp_range2, wp_range3, wp_zipM, wp_enumM, kFor_ap, wp_for, kTurn_nx, kTurn_ct, kTurn_bk, kTurn_rt, kTurn_ro, kElt_ap, kCond_t, kCond_f, wp_lc, endF_rt, endF_nx, endO_ro, kBody_ap, addD_i, addD_s, addD_t, addD_l, subD_i, mulD_i, modD_i, ltD_i, ltD_s, leD_i, gtD_i, geD_i, negD_i, isBD_b, isnBD_b, truD_b, truD_i, truD_n, truD_l, truD_t, lenD_l, lenD_t, lenD_s, intD_i, intD_b, absD_i, listD_l, listD_t, tupD_l, tupD_t, max2D_i, min2D_i, isiD_d, revD_l, slD_l, slD_t, itemsA_l, itemsA_t, itemsA_s, ixD_l, ixD_t, zpD_l, zpD_t, setT_t, setTr_t, setNs_0, setNs_1, setN_z, setN_s, setO_z, setO_s, atI_z, atI_1, atI_2, atI_3, atI_4, setIx_0, setIx_1, setIx_2, sumD_map, rg1_i, rg2_i, eqD_i, neD_i, isi_int_n, isi_int_b, isi_int_i, isi_int_s, isi_int_l, isi_int_t, isi_int_d, isi_bool_n, isi_bool_b, isi_bool_i, isi_bool_s, isi_bool_l, isi_bool_t, isi_bool_d, isi_str_n, isi_str_b, isi_str_i, isi_str_s, isi_str_l, isi_str_t, isi_str_d, isi_list_n, isi_list_b, isi_list_i, isi_list_s, isi_list_l, isi_list_t, isi_list_d, isi_tuple_n, isi_tuple_b, isi_tuple_i, isi_tuple_s, isi_tuple_l, isi_tuple_t, isi_tuple_d, isi_dict_n, isi_dict_b, isi_dict_i, isi_dict_s, isi_dict_l, isi_dict_t, isi_dict_d, notD_b, isNone_n, isNone_s, isNone_i, isNone_t, isNone_l, kPure_ap, pickD_1, pickD_2, pickD_3, pickD_4, appD_l, extD_l, List.getElem?_cons_zero, List.getElem?_cons_succ, List.set_cons_zero, List.set_cons_succ, initE, Option.map_some, List.replicate, posT, getO, fillA, putA, Bool.not_true, Bool.not_false, if_true, if_false, Bool.false_eq_true, Option.bind_some, wipeE, restE, reduceIte, List.length_cons, List.length_nil, fwp_mk, fwp_mko, Nat.reduceAdd, Nat.reduceSub, List.append_nil, List.nil_append, List.cons_append, List.reverse_cons, List.reverse_nil, Int.reduceLT, Int.reduceLE, Int.reduceAdd, Int.reduceMul, Int.reduceNeg, decide_true, decide_false, decide_eq_true_eq, Int.reduceEq, Option.map_none, and_self, and_true, true_and, Bool.true_and, Bool.false_and, Bool.or_true, Bool.or_false, List.isEmpty_nil, List.isEmpty_cons, List.getElem?_nil, Option.isSome_some, Int.cast_ofNat_Int, Bool.not_eq_true, Bool.and_true, Bool.and_self, Bool.true_or, Bool.false_or, Bool.and_false, Int.reduceSub, Int.natCast_zero, Int.reduceGT, Int.reduceGE, ne_eq, not_true_eq_false, not_false_eq_true, B_are_feasts, List.length_map, show ¬ ((400 : Int) < (fs.length : Int)) by omega]
  refine kLc_map (fun _ => .bool true) (fun d hd => ?_) (by rw [sizeLine_eq, List.length_map]; omega) ?_
  · obtain ⟨x, hx, rfl⟩ := List.mem_map.mp hd
    simp -implicitDefEqProofs only [owp_ok, fwp_ok, onS_s, onS_n, gR_f, gQ_f, gQ_o, gL_f, gL_o, gO_o, opL_op, wp_ret, kE_ap, kSet_ap, ifM_t, ifM_f, wp_vr, wp_vq, wp_vl, wp_vo, kBin2_ap, kBin1_ap, wp_bin, kUna_ap, wp_una, kBL2_ap, kBL1_ap, kBL0_ap, wp_binL, wp_seq0, kS2_ap, kS1_ap, wp_seq1, kTup_ap, wp_tup, kLst_ap, wp_lst, wp_seqP0, kP3_ap, kP2_ap, kP1_ap, wp_seqP1, wp_noX, kDsp_ap, wp_dsp, kBool_ap, wp_boolOf, kN_ap, kNN_ap, wp_isN, wp_isNN, kC4_ap, kC3_ap, wp_bl, kC2_ap, kC1_ap, wp_chn, kTru_ap, wp_truM, kNot_ap, wp_notM, kIf_ap, wp_andM, wp_orM, wp_ite, wp_if, kAndV2_ap, kAndV_ap, wp_andV, kOrV2_ap, kOrV_ap, wp_orV, kNotV2_ap, kNotV_ap, wp_notV, wp_part0, kPart_ap, wp_part1, kSl2_ap, kSl1_ap, kSl0_ap, wp_sl, kSL3_ap, kSL2_ap, kSL1_ap, kSL0_ap, wp_slL, wp_evA0, kA1_ap, wp_evAv, kA2_ap, wp_evAio, kCall4_ap, kCall3_ap, kCall2_ap, kCall1_ap, wp_call, kK2_ap, kK1_ap, wp_callK, wp_nx, wp_bk, wp_ct, wp_no, kSeq_nx, kSeq_rt, kSeq_ro, kSeq_bk, kSeq_ct, wp_seq, kNx_ap, kExp_ap, kRt_ap, kRo_ap, wp_expr, wp_rt, wp_rtN, wp_ro, kAsg_ap, wp_asg, wp_asgO, kI3_ap, kI2_ap, kI1_ap, kI0b_ap, kI0_ap, wp_setIx, kM2_ap, kM1_ap, kM0_ap, wp_mt, kIt_ap, kIts_ap, wp_walkA, wp_range1, wp_range2, wp_range3, wp_zipM, wp_enumM, kFor_ap, wp_for, kTurn_nx, kTurn_ct, kTurn_bk, kTurn_rt, kTurn_ro, kElt_ap, kCond_t, kCond_f, wp_lc, endF_rt, endF_nx, endO_ro, kBody_ap, addD_i, addD_s, addD_t, addD_l, subD_i, mulD_i, modD_i, ltD_i, ltD_s, leD_i, gtD_i, geD_i, negD_i, isBD_b, isnBD_b, truD_b, truD_i, truD_n, truD_l, truD_t, lenD_l, lenD_t, lenD_s, intD_i, intD_b, absD_i, listD_l, listD_t, tupD_l, tupD_t, max2D_i, min2D_i, isiD_d, revD_l, slD_l, slD_t, itemsA_l, itemsA_t, itemsA_s, ixD_l, ixD_t, zpD_l, zpD_t, setT_t, setTr_t, setNs_0, setNs_1, setN_z, setN_s, setO_z, setO_s, atI_z, atI_1, atI_2, atI_3, atI_4, setIx_0, setIx_1, setIx_2, sumD_map, rg1_i, rg2_i, eqD_i, neD_i, isi_int_n, isi_int_b, isi_int_i, isi_int_s, isi_int_l, isi_int_t, isi_int_d, isi_bool_n, isi_bool_b, isi_bool_i, isi_bool_s, isi_bool_l, isi_bool_t, isi_bool_d, isi_str_n, isi_str_b, isi_str_i, isi_str_s, isi_str_l, isi_str_t, isi_str_d, isi_list_n, isi_list_b, isi_list_i, isi_list_s, isi_list_l, isi_list_t, isi_list_d, isi_tuple_n, isi_tuple_b, isi_tuple_i, isi_tuple_s, isi_tuple_l, isi_tuple_t, isi_tuple_d, isi_dict_n, isi_dict_b, isi_dict_i, isi_dict_s, isi_dict_l, isi_dict_t, isi_dict_d, notD_b, isNone_n, isNone_s, isNone_i, isNone_t, isNone_l, kPure_ap, pickD_1, pickD_2, pickD_3, pickD_4, appD_l, extD_l, List.getElem?_cons_zero, List.getElem?_cons_succ, List.set_cons_zero, List.set_cons_succ, initE, Option.map_some, List.replicate, posT, getO, fillA, putA, Bool.not_true, Bool.not_false, if_true, if_false, Bool.false_eq_true, Option.bind_some, wipeE, restE, reduceIte, List.length_cons, List.length_nil, fwp_mk, fwp_mko, Nat.reduceAdd, Nat.reduceSub, List.append_nil, List.nil_append, List.cons_append, List.reverse_cons, List.reverse_nil, Int.reduceLT, Int.reduceLE, Int.reduceAdd, Int.reduceMul, Int.reduceNeg, decide_true, decide_false, decide_eq_true_eq, Int.reduceEq, Option.map_none, and_self, and_true, true_and, Bool.true_and, Bool.false_and, Bool.or_true, Bool.or_false, List.isEmpty_nil, List.isEmpty_cons, List.getElem?_nil, Option.isSome_some, Int.cast_ofNat_Int, Bool.not_eq_true, Bool.and_true, Bool.and_self, Bool.true_or, Bool.false_or, Bool.and_false, Int.reduceSub, Int.natCast_zero, Int.reduceGT, Int.reduceGE, ne_eq, not_true_eq_false, not_false_eq_true, is_between_i, (ha x hx).1, (ha x hx).2]
  · have hall : ((fs.map PyData.int).all fun _ => true) = true := by simp
    simp -implicitDefEqProofs only [owp_ok, fwp_ok, onS_s, onS_n, gR_f, gQ_f, gQ_o, gL_f, gL_o, gO_o, opL_op, wp_ret, kE_ap, kSet_ap, ifM_t, ifM_f, wp_vr, wp_vq, wp_vl, wp_vo, kBin2_ap, kBin1_ap, wp_bin, kUna_ap, wp_una, kBL2_ap, kBL1_ap, kBL0_ap, wp_binL, wp_seq0, kS2_ap, kS1_ap, wp_seq1, kTup_ap, wp_tup, kLst_ap, wp_lst, wp_seqP0, kP3_ap, kP2_ap, kP1_ap, wp_seqP1, wp_noX, kDsp_ap, wp_dsp, kBool_ap, wp_boolOf, kN_ap, kNN_ap, wp_isN, wp_isNN, kC4_ap, kC3_ap, wp_bl, kC2_ap, kC1_ap, wp_chn, kTru_ap, wp_truM, kNot_ap, wp_notM, kIf_ap, wp_andM, wp_orM, wp_ite, wp_if, kAndV2_ap, kAndV_ap, wp_andV, kOrV2_ap, kOrV_ap, wp_orV, kNotV2_ap, kNotV_ap, wp_notV, wp_part0, kPart_ap, wp_part1, kSl2_ap, kSl1_ap, kSl0_ap, wp_sl, kSL3_ap, kSL2_ap, kSL1_ap, kSL0_ap, wp_slL, wp_evA0, kA1_ap, wp_evAv, kA2_ap, wp_evAio, kCall4_ap, kCall3_ap, kCall2_ap, kCall1_ap, wp_call, kK2_ap, kK1_ap, wp_callK, wp_nx, wp_bk, wp_ct, wp_no, kSeq_nx, kSeq_rt, kSeq_ro, kSeq_bk, kSeq_ct, wp_seq, kNx_ap, kExp_ap, kRt_ap, kRo_ap, wp_expr, wp_rt, wp_rtN, wp_ro, kAsg_ap, wp_asg, wp_asgO, kI3_ap, kI2_ap, kI1_ap, kI0b_ap, kI0_ap, wp_setIx, kM2_ap, kM1_ap, kM0_ap, wp_mt, kIt_ap, kIts_ap, wp_walkA, wp_range1, wp_range2, wp_range3, wp_zipM, wp_enumM, kFor_ap, wp_for, kTurn_nx, kTurn_ct, kTurn_bk, kTurn_rt, kTurn_ro, kElt_ap, kCond_t, kCond_f, wp_lc, endF_rt, endF_nx, endO_ro, kBody_ap, addD_i, addD_s, addD_t, addD_l, subD_i, mulD_i, modD_i, ltD_i, ltD_s, leD_i, gtD_i, geD_i, negD_i, isBD_b, isnBD_b, truD_b, truD_i, truD_n, truD_l, truD_t, lenD_l, lenD_t, lenD_s, intD_i, intD_b, absD_i, listD_l, listD_t, tupD_l, tupD_t, max2D_i, min2D_i, isiD_d, revD_l, slD_l, slD_t, itemsA_l, itemsA_t, itemsA_s, ixD_l, ixD_t, zpD_l, zpD_t, setT_t, setTr_t, setNs_0, setNs_1, setN_z, setN_s, setO_z, setO_s, atI_z, atI_1, atI_2, atI_3, atI_4, setIx_0, setIx_1, setIx_2, sumD_map, rg1_i, rg2_i, eqD_i, neD_i, isi_int_n, isi_int_b, isi_int_i, isi_int_s, isi_int_l, isi_int_t, isi_int_d, isi_bool_n, isi_bool_b, isi_bool_i, isi_bool_s, isi_bool_l, isi_bool_t, isi_bool_d, isi_str_n, isi_str_b, isi_str_i, isi_str_s, isi_str_l, isi_str_t, isi_str_d, isi_list_n, isi_list_b, isi_list_i, isi_list_s, isi_list_l, isi_list_t, isi_list_d, isi_tuple_n, isi_tuple_b, isi_tuple_i, isi_tuple_s, isi_tuple_l, isi_tuple_t, isi_tuple_d, isi_dict_n, isi_dict_b, isi_dict_i, isi_dict_s, isi_dict_l, isi_dict_t, isi_dict_d, notD_b, isNone_n, isNone_s, isNone_i, isNone_t, isNone_l, kPure_ap, pickD_1, pickD_2, pickD_3, pickD_4, appD_l, extD_l, List.getElem?_cons_zero, List.getElem?_cons_succ, List.set_cons_zero, List.set_cons_succ, initE, Option.map_some, List.replicate, posT, getO, fillA, putA, Bool.not_true, Bool.not_false, if_true, if_false, Bool.false_eq_true, Option.bind_some, wipeE, restE, reduceIte, List.length_cons, List.length_nil, fwp_mk, fwp_mko, Nat.reduceAdd, Nat.reduceSub, List.append_nil, List.nil_append, List.cons_append, List.reverse_cons, List.reverse_nil, Int.reduceLT, Int.reduceLE, Int.reduceAdd, Int.reduceMul, Int.reduceNeg, decide_true, decide_false, decide_eq_true_eq, Int.reduceEq, Option.map_none, and_self, and_true, true_and, Bool.true_and, Bool.false_and, Bool.or_true, Bool.or_false, List.isEmpty_nil, List.isEmpty_cons, List.getElem?_nil, Option.isSome_some, Int.cast_ofNat_Int, Bool.not_eq_true, Bool.and_true, Bool.and_self, Bool.true_or, Bool.false_or, Bool.and_false, Int.reduceSub, Int.natCast_zero, Int.reduceGT, Int.reduceGE, ne_eq, not_true_eq_false, not_false_eq_true, allD_map (fun _ => true), hall, is_asc_ok (Nat.le_trans hl (by omega)) hp]
def TickOk (d : D) : Prop := ∃ t : Int, d = .int t ∧ 0 ≤ t ∧ t ≤ 9999
def KindOk (d : D) : Prop := d = .none ∨ d = .str "van" ∨ d = .str "bus" ∨ d = .str "taxi"
theorem chk_sign {h : Int} {s : D} (hh : HoursOk h) (hs : SignOk h s) : F_check_sign [s] = .ok .none [] := by
  refine fo_eq ?_
  unfold F_check_sign
  rw [fwp_mk]
  simp -implicitDefEqProofs only [owp_ok, fwp_ok, onS_s, onS_n, gR_f, gQ_f, gQ_o, gL_f, gL_o, gO_o, opL_op, wp_ret, kE_ap, kSet_ap, ifM_t, ifM_f, wp_vr, wp_vq, wp_vl, wp_vo, kBin2_ap, kBin1_ap, wp_bin, kUna_ap, wp_una, kBL2_ap, kBL1_ap, kBL0_ap, wp_binL, wp_seq0, kS2_ap, kS1_ap, wp_seq1, kTup_ap, wp_tup, kLst_ap, wp_lst, wp_seqP0, kP3_ap, kP2_ap, kP1_ap, wp_seqP1, wp_noX, kDsp_ap, wp_dsp, kBool_ap, wp_boolOf, kN_ap, kNN_ap, wp_isN, wp_isNN, kC4_ap, kC3_ap, wp_bl, kC2_ap, kC1_ap, wp_chn, kTru_ap, wp_truM, kNot_ap, wp_notM, kIf_ap, wp_andM, wp_orM, wp_ite, wp_if, kAndV2_ap, kAndV_ap, wp_andV, kOrV2_ap, kOrV_ap, wp_orV, kNotV2_ap, kNotV_ap, wp_notV, wp_part0, kPart_ap, wp_part1, kSl2_ap, kSl1_ap, kSl0_ap, wp_sl, kSL3_ap, kSL2_ap, kSL1_ap, kSL0_ap, wp_slL, wp_evA0, kA1_ap, wp_evAv, kA2_ap, wp_evAio, kCall4_ap, kCall3_ap, kCall2_ap, kCall1_ap, wp_call, kK2_ap, kK1_ap, wp_callK, wp_nx, wp_bk, wp_ct, wp_no, kSeq_nx, kSeq_rt, kSeq_ro, kSeq_bk, kSeq_ct, wp_seq, kNx_ap, kExp_ap, kRt_ap, kRo_ap, wp_expr, wp_rt, wp_rtN, wp_ro, kAsg_ap, wp_asg, wp_asgO, kI3_ap, kI2_ap, kI1_ap, kI0b_ap, kI0_ap, wp_setIx, kM2_ap, kM1_ap, kM0_ap, wp_mt, kIt_ap, kIts_ap, wp_walkA, wp_range1, wp_range2, wp_range3, wp_zipM, wp_enumM, kFor_ap, wp_for, kTurn_nx, kTurn_ct, kTurn_bk, kTurn_rt, kTurn_ro, kElt_ap, kCond_t, kCond_f, wp_lc, endF_rt, endF_nx, endO_ro, kBody_ap, addD_i, addD_s, addD_t, addD_l, subD_i, mulD_i, modD_i, ltD_i, ltD_s, leD_i, gtD_i, geD_i, negD_i, isBD_b, isnBD_b, truD_b, truD_i, truD_n, truD_l, truD_t, lenD_l, lenD_t, lenD_s, intD_i, intD_b, absD_i, listD_l, listD_t, tupD_l, tupD_t, max2D_i, min2D_i, isiD_d, revD_l, slD_l, slD_t, itemsA_l, itemsA_t, itemsA_s, ixD_l, ixD_t, zpD_l, zpD_t, setT_t, setTr_t, setNs_0, setNs_1, setN_z, setN_s, setO_z, setO_s, atI_z, atI_1, atI_2, atI_3, atI_4, setIx_0, setIx_1, setIx_2, sumD_map, rg1_i, rg2_i, eqD_i, neD_i, isi_int_n, isi_int_b, isi_int_i, isi_int_s, isi_int_l, isi_int_t, isi_int_d, isi_bool_n, isi_bool_b, isi_bool_i, isi_bool_s, isi_bool_l, isi_bool_t, isi_bool_d, isi_str_n, isi_str_b, isi_str_i, isi_str_s, isi_str_l, isi_str_t, isi_str_d, isi_list_n, isi_list_b, isi_list_i, isi_list_s, isi_list_l, isi_list_t, isi_list_d, isi_tuple_n, isi_tuple_b, isi_tuple_i, isi_tuple_s, isi_tuple_l, isi_tuple_t, isi_tuple_d, isi_dict_n, isi_dict_b, isi_dict_i, isi_dict_s, isi_dict_l, isi_dict_t, isi_dict_d, notD_b, isNone_n, isNone_s, isNone_i, isNone_t, isNone_l, kPure_ap, pickD_1, pickD_2, pickD_3, pickD_4, appD_l, extD_l, List.getElem?_cons_zero, List.getElem?_cons_succ, List.set_cons_zero, List.set_cons_succ, initE, Option.map_some, List.replicate, posT, getO, fillA, putA, Bool.not_true, Bool.not_false, if_true, if_false, Bool.false_eq_true, Option.bind_some, wipeE, restE, reduceIte, List.length_cons, List.length_nil, fwp_mk, fwp_mko, Nat.reduceAdd, Nat.reduceSub, List.append_nil, List.nil_append, List.cons_append, List.reverse_cons, List.reverse_nil, Int.reduceLT, Int.reduceLE, Int.reduceAdd, Int.reduceMul, Int.reduceNeg, decide_true, decide_false, decide_eq_true_eq, Int.reduceEq, Option.map_none, and_self, and_true, true_and, Bool.true_and, Bool.false_and, Bool.or_true, Bool.or_false, List.isEmpty_nil, List.isEmpty_cons, List.getElem?_nil, Option.isSome_some, Int.cast_ofNat_Int, Bool.not_eq_true, Bool.and_true, Bool.and_self, Bool.true_or, Bool.false_or, Bool.and_false, Int.reduceSub, Int.natCast_zero, Int.reduceGT, Int.reduceGE, ne_eq, not_true_eq_false, not_false_eq_true, B_check_sign, is_sign_ok hh hs]
theorem chk_kind {k : D} (hk : KindOk k) : F_check_kind [k] = .ok .none [] := by
  have : F_is_kind [k] = .ok (.bool true) [] := by
    rcases hk with rfl | rfl | rfl | rfl <;> exact of_isT (by decide +kernel)
  refine fo_eq ?_
  unfold F_check_kind
  rw [fwp_mk]
  simp -implicitDefEqProofs only [owp_ok, fwp_ok, onS_s, onS_n, gR_f, gQ_f, gQ_o, gL_f, gL_o, gO_o, opL_op, wp_ret, kE_ap, kSet_ap, ifM_t, ifM_f, wp_vr, wp_vq, wp_vl, wp_vo, kBin2_ap, kBin1_ap, wp_bin, kUna_ap, wp_una, kBL2_ap, kBL1_ap, kBL0_ap, wp_binL, wp_seq0, kS2_ap, kS1_ap, wp_seq1, kTup_ap, wp_tup, kLst_ap, wp_lst, wp_seqP0, kP3_ap, kP2_ap, kP1_ap, wp_seqP1, wp_noX, kDsp_ap, wp_dsp, kBool_ap, wp_boolOf, kN_ap, kNN_ap, wp_isN, wp_isNN, kC4_ap, kC3_ap, wp_bl, kC2_ap, kC1_ap, wp_chn, kTru_ap, wp_truM, kNot_ap, wp_notM, kIf_ap, wp_andM, wp_orM, wp_ite, wp_if, kAndV2_ap, kAndV_ap, wp_andV, kOrV2_ap, kOrV_ap, wp_orV, kNotV2_ap, kNotV_ap, wp_notV, wp_part0, kPart_ap, wp_part1, kSl2_ap, kSl1_ap, kSl0_ap, wp_sl, kSL3_ap, kSL2_ap, kSL1_ap, kSL0_ap, wp_slL, wp_evA0, kA1_ap, wp_evAv, kA2_ap, wp_evAio, kCall4_ap, kCall3_ap, kCall2_ap, kCall1_ap, wp_call, kK2_ap, kK1_ap, wp_callK, wp_nx, wp_bk, wp_ct, wp_no, kSeq_nx, kSeq_rt, kSeq_ro, kSeq_bk, kSeq_ct, wp_seq, kNx_ap, kExp_ap, kRt_ap, kRo_ap, wp_expr, wp_rt, wp_rtN, wp_ro, kAsg_ap, wp_asg, wp_asgO, kI3_ap, kI2_ap, kI1_ap, kI0b_ap, kI0_ap, wp_setIx, kM2_ap, kM1_ap, kM0_ap, wp_mt, kIt_ap, kIts_ap, wp_walkA, wp_range1, wp_range2, wp_range3, wp_zipM, wp_enumM, kFor_ap, wp_for, kTurn_nx, kTurn_ct, kTurn_bk, kTurn_rt, kTurn_ro, kElt_ap, kCond_t, kCond_f, wp_lc, endF_rt, endF_nx, endO_ro, kBody_ap, addD_i, addD_s, addD_t, addD_l, subD_i, mulD_i, modD_i, ltD_i, ltD_s, leD_i, gtD_i, geD_i, negD_i, isBD_b, isnBD_b, truD_b, truD_i, truD_n, truD_l, truD_t, lenD_l, lenD_t, lenD_s, intD_i, intD_b, absD_i, listD_l, listD_t, tupD_l, tupD_t, max2D_i, min2D_i, isiD_d, revD_l, slD_l, slD_t, itemsA_l, itemsA_t, itemsA_s, ixD_l, ixD_t, zpD_l, zpD_t, setT_t, setTr_t, setNs_0, setNs_1, setN_z, setN_s, setO_z, setO_s, atI_z, atI_1, atI_2, atI_3, atI_4, setIx_0, setIx_1, setIx_2, sumD_map, rg1_i, rg2_i, eqD_i, neD_i, isi_int_n, isi_int_b, isi_int_i, isi_int_s, isi_int_l, isi_int_t, isi_int_d, isi_bool_n, isi_bool_b, isi_bool_i, isi_bool_s, isi_bool_l, isi_bool_t, isi_bool_d, isi_str_n, isi_str_b, isi_str_i, isi_str_s, isi_str_l, isi_str_t, isi_str_d, isi_list_n, isi_list_b, isi_list_i, isi_list_s, isi_list_l, isi_list_t, isi_list_d, isi_tuple_n, isi_tuple_b, isi_tuple_i, isi_tuple_s, isi_tuple_l, isi_tuple_t, isi_tuple_d, isi_dict_n, isi_dict_b, isi_dict_i, isi_dict_s, isi_dict_l, isi_dict_t, isi_dict_d, notD_b, isNone_n, isNone_s, isNone_i, isNone_t, isNone_l, kPure_ap, pickD_1, pickD_2, pickD_3, pickD_4, appD_l, extD_l, List.getElem?_cons_zero, List.getElem?_cons_succ, List.set_cons_zero, List.set_cons_succ, initE, Option.map_some, List.replicate, posT, getO, fillA, putA, Bool.not_true, Bool.not_false, if_true, if_false, Bool.false_eq_true, Option.bind_some, wipeE, restE, reduceIte, List.length_cons, List.length_nil, fwp_mk, fwp_mko, Nat.reduceAdd, Nat.reduceSub, List.append_nil, List.nil_append, List.cons_append, List.reverse_cons, List.reverse_nil, Int.reduceLT, Int.reduceLE, Int.reduceAdd, Int.reduceMul, Int.reduceNeg, decide_true, decide_false, decide_eq_true_eq, Int.reduceEq, Option.map_none, and_self, and_true, true_and, Bool.true_and, Bool.false_and, Bool.or_true, Bool.or_false, List.isEmpty_nil, List.isEmpty_cons, List.getElem?_nil, Option.isSome_some, Int.cast_ofNat_Int, Bool.not_eq_true, Bool.and_true, Bool.and_self, Bool.true_or, Bool.false_or, Bool.and_false, Int.reduceSub, Int.natCast_zero, Int.reduceGT, Int.reduceGE, ne_eq, not_true_eq_false, not_false_eq_true, B_check_kind, this]
theorem chk_feasts {f : D} (hf : FeastsOk f) : F_check_feasts [f] = .ok .none [] := by
  refine fo_eq ?_
  unfold F_check_feasts
  rw [fwp_mk]
  simp -implicitDefEqProofs only [owp_ok, fwp_ok, onS_s, onS_n, gR_f, gQ_f, gQ_o, gL_f, gL_o, gO_o, opL_op, wp_ret, kE_ap, kSet_ap, ifM_t, ifM_f, wp_vr, wp_vq, wp_vl, wp_vo, kBin2_ap, kBin1_ap, wp_bin, kUna_ap, wp_una, kBL2_ap, kBL1_ap, kBL0_ap, wp_binL, wp_seq0, kS2_ap, kS1_ap, wp_seq1, kTup_ap, wp_tup, kLst_ap, wp_lst, wp_seqP0, kP3_ap, kP2_ap, kP1_ap, wp_seqP1, wp_noX, kDsp_ap, wp_dsp, kBool_ap, wp_boolOf, kN_ap, kNN_ap, wp_isN, wp_isNN, kC4_ap, kC3_ap, wp_bl, kC2_ap, kC1_ap, wp_chn, kTru_ap, wp_truM, kNot_ap, wp_notM, kIf_ap, wp_andM, wp_orM, wp_ite, wp_if, kAndV2_ap, kAndV_ap, wp_andV, kOrV2_ap, kOrV_ap, wp_orV, kNotV2_ap, kNotV_ap, wp_notV, wp_part0, kPart_ap, wp_part1, kSl2_ap, kSl1_ap, kSl0_ap, wp_sl, kSL3_ap, kSL2_ap, kSL1_ap, kSL0_ap, wp_slL, wp_evA0, kA1_ap, wp_evAv, kA2_ap, wp_evAio, kCall4_ap, kCall3_ap, kCall2_ap, kCall1_ap, wp_call, kK2_ap, kK1_ap, wp_callK, wp_nx, wp_bk, wp_ct, wp_no, kSeq_nx, kSeq_rt, kSeq_ro, kSeq_bk, kSeq_ct, wp_seq, kNx_ap, kExp_ap, kRt_ap, kRo_ap, wp_expr, wp_rt, wp_rtN, wp_ro, kAsg_ap, wp_asg, wp_asgO, kI3_ap, kI2_ap, kI1_ap, kI0b_ap, kI0_ap, wp_setIx, kM2_ap, kM1_ap, kM0_ap, wp_mt, kIt_ap, kIts_ap, wp_walkA, wp_range1, wp_range2, wp_range3, wp_zipM, wp_enumM, kFor_ap, wp_for, kTurn_nx, kTurn_ct, kTurn_bk, kTurn_rt, kTurn_ro, kElt_ap, kCond_t, kCond_f, wp_lc, endF_rt, endF_nx, endO_ro, kBody_ap, addD_i, addD_s, addD_t, addD_l, subD_i, mulD_i, modD_i, ltD_i, ltD_s, leD_i, gtD_i, geD_i, negD_i, isBD_b, isnBD_b, truD_b, truD_i, truD_n, truD_l, truD_t, lenD_l, lenD_t, lenD_s, intD_i, intD_b, absD_i, listD_l, listD_t, tupD_l, tupD_t, max2D_i, min2D_i, isiD_d, revD_l, slD_l, slD_t, itemsA_l, itemsA_t, itemsA_s, ixD_l, ixD_t, zpD_l, zpD_t, setT_t, setTr_t, setNs_0, setNs_1, setN_z, setN_s, setO_z, setO_s, atI_z, atI_1, atI_2, atI_3, atI_4, setIx_0, setIx_1, setIx_2, sumD_map, rg1_i, rg2_i, eqD_i, neD_i, isi_int_n, isi_int_b, isi_int_i, isi_int_s, isi_int_l, isi_int_t, isi_int_d, isi_bool_n, isi_bool_b, isi_bool_i, isi_bool_s, isi_bool_l, isi_bool_t, isi_bool_d, isi_str_n, isi_str_b, isi_str_i, isi_str_s, isi_str_l, isi_str_t, isi_str_d, isi_list_n, isi_list_b, isi_list_i, isi_list_s, isi_list_l, isi_list_t, isi_list_d, isi_tuple_n, isi_tuple_b, isi_tuple_i, isi_tuple_s, isi_tuple_l, isi_tuple_t, isi_tuple_d, isi_dict_n, isi_dict_b, isi_dict_i, isi_dict_s, isi_dict_l, isi_dict_t, isi_dict_d, notD_b, isNone_n, isNone_s, isNone_i, isNone_t, isNone_l, kPure_ap, pickD_1, pickD_2, pickD_3, pickD_4, appD_l, extD_l, List.getElem?_cons_zero, List.getElem?_cons_succ, List.set_cons_zero, List.set_cons_succ, initE, Option.map_some, List.replicate, posT, getO, fillA, putA, Bool.not_true, Bool.not_false, if_true, if_false, Bool.false_eq_true, Option.bind_some, wipeE, restE, reduceIte, List.length_cons, List.length_nil, fwp_mk, fwp_mko, Nat.reduceAdd, Nat.reduceSub, List.append_nil, List.nil_append, List.cons_append, List.reverse_cons, List.reverse_nil, Int.reduceLT, Int.reduceLE, Int.reduceAdd, Int.reduceMul, Int.reduceNeg, decide_true, decide_false, decide_eq_true_eq, Int.reduceEq, Option.map_none, and_self, and_true, true_and, Bool.true_and, Bool.false_and, Bool.or_true, Bool.or_false, List.isEmpty_nil, List.isEmpty_cons, List.getElem?_nil, Option.isSome_some, Int.cast_ofNat_Int, Bool.not_eq_true, Bool.and_true, Bool.and_self, Bool.true_or, Bool.false_or, Bool.and_false, Int.reduceSub, Int.natCast_zero, Int.reduceGT, Int.reduceGE, ne_eq, not_true_eq_false, not_false_eq_true, B_check_feasts, are_feasts_ok hf]
theorem chk_tick {t : Int} (h0 : 0 ≤ t) (h1 : t ≤ 9999) : F_check_tick [.int t] = .ok .none [] := by
  have : F_is_tick [.int t] = .ok (.bool true) [] := by
    refine fo_eq ?_
    unfold F_is_tick
    rw [fwp_mk]
    simp -implicitDefEqProofs only [owp_ok, fwp_ok, onS_s, onS_n, gR_f, gQ_f, gQ_o, gL_f, gL_o, gO_o, opL_op, wp_ret, kE_ap, kSet_ap, ifM_t, ifM_f, wp_vr, wp_vq, wp_vl, wp_vo, kBin2_ap, kBin1_ap, wp_bin, kUna_ap, wp_una, kBL2_ap, kBL1_ap, kBL0_ap, wp_binL, wp_seq0, kS2_ap, kS1_ap, wp_seq1, kTup_ap, wp_tup, kLst_ap, wp_lst, wp_seqP0, kP3_ap, kP2_ap, kP1_ap, wp_seqP1, wp_noX, kDsp_ap, wp_dsp, kBool_ap, wp_boolOf, kN_ap, kNN_ap, wp_isN, wp_isNN, kC4_ap, kC3_ap, wp_bl, kC2_ap, kC1_ap, wp_chn, kTru_ap, wp_truM, kNot_ap, wp_notM, kIf_ap, wp_andM, wp_orM, wp_ite, wp_if, kAndV2_ap, kAndV_ap, wp_andV, kOrV2_ap, kOrV_ap, wp_orV, kNotV2_ap, kNotV_ap, wp_notV, wp_part0, kPart_ap, wp_part1, kSl2_ap, kSl1_ap, kSl0_ap, wp_sl, kSL3_ap, kSL2_ap, kSL1_ap, kSL0_ap, wp_slL, wp_evA0, kA1_ap, wp_evAv, kA2_ap, wp_evAio, kCall4_ap, kCall3_ap, kCall2_ap, kCall1_ap, wp_call, kK2_ap, kK1_ap, wp_callK, wp_nx, wp_bk, wp_ct, wp_no, kSeq_nx, kSeq_rt, kSeq_ro, kSeq_bk, kSeq_ct, wp_seq, kNx_ap, kExp_ap, kRt_ap, kRo_ap, wp_expr, wp_rt, wp_rtN, wp_ro, kAsg_ap, wp_asg, wp_asgO, kI3_ap, kI2_ap, kI1_ap, kI0b_ap, kI0_ap, wp_setIx, kM2_ap, kM1_ap, kM0_ap, wp_mt, kIt_ap, kIts_ap, wp_walkA, wp_range1, wp_range2, wp_range3, wp_zipM, wp_enumM, kFor_ap, wp_for, kTurn_nx, kTurn_ct, kTurn_bk, kTurn_rt, kTurn_ro, kElt_ap, kCond_t, kCond_f, wp_lc, endF_rt, endF_nx, endO_ro, kBody_ap, addD_i, addD_s, addD_t, addD_l, subD_i, mulD_i, modD_i, ltD_i, ltD_s, leD_i, gtD_i, geD_i, negD_i, isBD_b, isnBD_b, truD_b, truD_i, truD_n, truD_l, truD_t, lenD_l, lenD_t, lenD_s, intD_i, intD_b, absD_i, listD_l, listD_t, tupD_l, tupD_t, max2D_i, min2D_i, isiD_d, revD_l, slD_l, slD_t, itemsA_l, itemsA_t, itemsA_s, ixD_l, ixD_t, zpD_l, zpD_t, setT_t, setTr_t, setNs_0, setNs_1, setN_z, setN_s, setO_z, setO_s, atI_z, atI_1, atI_2, atI_3, atI_4, setIx_0, setIx_1, setIx_2, sumD_map, rg1_i, rg2_i, eqD_i, neD_i, isi_int_n, isi_int_b, isi_int_i, isi_int_s, isi_int_l, isi_int_t, isi_int_d, isi_bool_n, isi_bool_b, isi_bool_i, isi_bool_s, isi_bool_l, isi_bool_t, isi_bool_d, isi_str_n, isi_str_b, isi_str_i, isi_str_s, isi_str_l, isi_str_t, isi_str_d, isi_list_n, isi_list_b, isi_list_i, isi_list_s, isi_list_l, isi_list_t, isi_list_d, isi_tuple_n, isi_tuple_b, isi_tuple_i, isi_tuple_s, isi_tuple_l, isi_tuple_t, isi_tuple_d, isi_dict_n, isi_dict_b, isi_dict_i, isi_dict_s, isi_dict_l, isi_dict_t, isi_dict_d, notD_b, isNone_n, isNone_s, isNone_i, isNone_t, isNone_l, kPure_ap, pickD_1, pickD_2, pickD_3, pickD_4, appD_l, extD_l, List.getElem?_cons_zero, List.getElem?_cons_succ, List.set_cons_zero, List.set_cons_succ, initE, Option.map_some, List.replicate, posT, getO, fillA, putA, Bool.not_true, Bool.not_false, if_true, if_false, Bool.false_eq_true, Option.bind_some, wipeE, restE, reduceIte, List.length_cons, List.length_nil, fwp_mk, fwp_mko, Nat.reduceAdd, Nat.reduceSub, List.append_nil, List.nil_append, List.cons_append, List.reverse_cons, List.reverse_nil, Int.reduceLT, Int.reduceLE, Int.reduceAdd, Int.reduceMul, Int.reduceNeg, decide_true, decide_false, decide_eq_true_eq, Int.reduceEq, Option.map_none, and_self, and_true, true_and, Bool.true_and, Bool.false_and, Bool.or_true, Bool.or_false, List.isEmpty_nil, List.isEmpty_cons, List.getElem?_nil, Option.isSome_some, Int.cast_ofNat_Int, Bool.not_eq_true, Bool.and_true, Bool.and_self, Bool.true_or, Bool.false_or, Bool.and_false, Int.reduceSub, Int.natCast_zero, Int.reduceGT, Int.reduceGE, ne_eq, not_true_eq_false, not_false_eq_true, B_is_tick, is_between_i, h0, h1]
  refine fo_eq ?_
  unfold F_check_tick
  rw [fwp_mk]
  simp -implicitDefEqProofs only [owp_ok, fwp_ok, onS_s, onS_n, gR_f, gQ_f, gQ_o, gL_f, gL_o, gO_o, opL_op, wp_ret, kE_ap, kSet_ap, ifM_t, ifM_f, wp_vr, wp_vq, wp_vl, wp_vo, kBin2_ap, kBin1_ap, wp_bin, kUna_ap, wp_una, kBL2_ap, kBL1_ap, kBL0_ap, wp_binL, wp_seq0, kS2_ap, kS1_ap, wp_seq1, kTup_ap, wp_tup, kLst_ap, wp_lst, wp_seqP0, kP3_ap, kP2_ap, kP1_ap, wp_seqP1, wp_noX, kDsp_ap, wp_dsp, kBool_ap, wp_boolOf, kN_ap, kNN_ap, wp_isN, wp_isNN, kC4_ap, kC3_ap, wp_bl, kC2_ap, kC1_ap, wp_chn, kTru_ap, wp_truM, kNot_ap, wp_notM, kIf_ap, wp_andM, wp_orM, wp_ite, wp_if, kAndV2_ap, kAndV_ap, wp_andV, kOrV2_ap, kOrV_ap, wp_orV, kNotV2_ap, kNotV_ap, wp_notV, wp_part0, kPart_ap, wp_part1, kSl2_ap, kSl1_ap, kSl0_ap, wp_sl, kSL3_ap, kSL2_ap, kSL1_ap, kSL0_ap, wp_slL, wp_evA0, kA1_ap, wp_evAv, kA2_ap, wp_evAio, kCall4_ap, kCall3_ap, kCall2_ap, kCall1_ap, wp_call, kK2_ap, kK1_ap, wp_callK, wp_nx, wp_bk, wp_ct, wp_no, kSeq_nx, kSeq_rt, kSeq_ro, kSeq_bk, kSeq_ct, wp_seq, kNx_ap, kExp_ap, kRt_ap, kRo_ap, wp_expr, wp_rt, wp_rtN, wp_ro, kAsg_ap, wp_asg, wp_asgO, kI3_ap, kI2_ap, kI1_ap, kI0b_ap, kI0_ap, wp_setIx, kM2_ap, kM1_ap, kM0_ap, wp_mt, kIt_ap, kIts_ap, wp_walkA, wp_range1, wp_range2, wp_range3, wp_zipM, wp_enumM, kFor_ap, wp_for, kTurn_nx, kTurn_ct, kTurn_bk, kTurn_rt, kTurn_ro, kElt_ap, kCond_t, kCond_f, wp_lc, endF_rt, endF_nx, endO_ro, kBody_ap, addD_i, addD_s, addD_t, addD_l, subD_i, mulD_i, modD_i, ltD_i, ltD_s, leD_i, gtD_i, geD_i, negD_i, isBD_b, isnBD_b, truD_b, truD_i, truD_n, truD_l, truD_t, lenD_l, lenD_t, lenD_s, intD_i, intD_b, absD_i, listD_l, listD_t, tupD_l, tupD_t, max2D_i, min2D_i, isiD_d, revD_l, slD_l, slD_t, itemsA_l, itemsA_t, itemsA_s, ixD_l, ixD_t, zpD_l, zpD_t, setT_t, setTr_t, setNs_0, setNs_1, setN_z, setN_s, setO_z, setO_s, atI_z, atI_1, atI_2, atI_3, atI_4, setIx_0, setIx_1, setIx_2, sumD_map, rg1_i, rg2_i, eqD_i, neD_i, isi_int_n, isi_int_b, isi_int_i, isi_int_s, isi_int_l, isi_int_t, isi_int_d, isi_bool_n, isi_bool_b, isi_bool_i, isi_bool_s, isi_bool_l, isi_bool_t, isi_bool_d, isi_str_n, isi_str_b, isi_str_i, isi_str_s, isi_str_l, isi_str_t, isi_str_d, isi_list_n, isi_list_b, isi_list_i, isi_list_s, isi_list_l, isi_list_t, isi_list_d, isi_tuple_n, isi_tuple_b, isi_tuple_i, isi_tuple_s, isi_tuple_l, isi_tuple_t, isi_tuple_d, isi_dict_n, isi_dict_b, isi_dict_i, isi_dict_s, isi_dict_l, isi_dict_t, isi_dict_d, notD_b, isNone_n, isNone_s, isNone_i, isNone_t, isNone_l, kPure_ap, pickD_1, pickD_2, pickD_3, pickD_4, appD_l, extD_l, List.getElem?_cons_zero, List.getElem?_cons_succ, List.set_cons_zero, List.set_cons_succ, initE, Option.map_some, List.replicate, posT, getO, fillA, putA, Bool.not_true, Bool.not_false, if_true, if_false, Bool.false_eq_true, Option.bind_some, wipeE, restE, reduceIte, List.length_cons, List.length_nil, fwp_mk, fwp_mko, Nat.reduceAdd, Nat.reduceSub, List.append_nil, List.nil_append, List.cons_append, List.reverse_cons, List.reverse_nil, Int.reduceLT, Int.reduceLE, Int.reduceAdd, Int.reduceMul, Int.reduceNeg, decide_true, decide_false, decide_eq_true_eq, Int.reduceEq, Option.map_none, and_self, and_true, true_and, Bool.true_and, Bool.false_and, Bool.or_true, Bool.or_false, List.isEmpty_nil, List.isEmpty_cons, List.getElem?_nil, Option.isSome_some, Int.cast_ofNat_Int, Bool.not_eq_true, Bool.and_true, Bool.and_self, Bool.true_or, Bool.false_or, Bool.and_false, Int.reduceSub, Int.natCast_zero, Int.reduceGT, Int.reduceGE, ne_eq, not_true_eq_false, not_false_eq_true, B_check_tick, this]
end Vk10

namespace Vk10
open PySem PySem.Spec PyProof.Rows L2 ZZ
/-! what the rows tell -/
def hasD (ds : List D) (x : D) : Bool := ds.any fun z => PyData.eqv z x
def strI (d : D) (z : Str) : Bool := match d with | .str y => y == z | _ => false
def fitB (dd : D) (day : Int) (fs : List D) : Bool :=
  if strI dd "plain" then !hasD fs (.int day) else if strI dd "feast" then hasD fs (.int day) else strI dd "any" || hasD fs (.int (day + 1))
theorem lay_ints : ∀ fs : List Int, PyData.canLayAll0 (fs.map PyData.int) = true
  | [] => by simp [PyData.canLayAll0]
  | f :: fs => by simp only [List.map_cons, PyData.canLayAll0, PyData.canLay0, lay_ints fs, Bool.and_self]
theorem in_ints (x : Int) (fs : List Int) : inD (.int x) (.tuple (fs.map PyData.int)) = some (.bool (hasD (fs.map PyData.int) (.int x))) := by
  simp only [inD, shaped_i, lay_ints, and_self, if_true, hasD]
theorem nin_ints (x : Int) (fs : List Int) : ninD (.int x) (.tuple (fs.map PyData.int)) = some (.bool (!hasD (fs.map PyData.int) (.int x))) := by
  unfold ninD
  rw [in_ints]; rfl
theorem does_fit_eq {dd : D} (hd : DaysOk dd) (day : Int) (fs : List Int) : F_does_fit [dd, .int day, .tuple (fs.map PyData.int)] = .ok (.bool (fitB dd day (fs.map PyData.int))) [] := by
  refine fo_eq ?_
  unfold F_does_fit
  rw [fwp_mk]
  rcases hd with rfl | rfl | rfl | rfl
  · have e1 : eqD (.str "any") (.str "plain") = some (.bool false) := of_bIs (by decide +kernel)
    have e2 : eqD (.str "any") (.str "feast") = some (.bool false) := of_bIs (by decide +kernel)
    have e3 : eqD (.str "any") (.str "any") = some (.bool true) := of_bIs (by decide +kernel)
    have e4 : fitB (.str "any") day (fs.map PyData.int) = true := by
      unfold fitB
      rw [show strI (.str "any") "plain" = false by decide +kernel, show strI (.str "any") "feast" = false by decide +kernel, show strI (.str "any") "any" = true by decide +kernel]
      rfl
    simp -implicitDefEqProofs only [owp_ok, fwp_ok, onS_s, onS_n, gR_f, gQ_f, gQ_o, gL_f, gL_o, gO_o, opL_op, wp_ret, kE_ap, kSet_ap, ifM_t, ifM_f, wp_vr, wp_vq, wp_vl, wp_vo, kBin2_ap, kBin1_ap, wp_bin, kUna_ap, wp_una, kBL2_ap, kBL1_ap, kBL0_ap, wp_binL, wp_seq0, kS2_ap, kS1_ap, wp_seq1, kTup_ap, wp_tup, kLst_ap, wp_lst, wp_seqP0, kP3_ap, kP2_ap, kP1_ap, wp_seqP1, wp_noX, kDsp_ap, wp_dsp, kBool_ap, wp_boolOf, kN_ap, kNN_ap, wp_isN, wp_isNN, kC4_ap, kC3_ap, wp_bl, kC2_ap, kC1_ap, wp_chn, kTru_ap, wp_truM, kNot_ap, wp_notM, kIf_ap, wp_andM, wp_orM, wp_ite, wp_if, kAndV2_ap, kAndV_ap, wp_andV, kOrV2_ap, kOrV_ap, wp_orV, kNotV2_ap, kNotV_ap, wp_notV, wp_part0, kPart_ap, wp_part1, kSl2_ap, kSl1_ap, kSl0_ap, wp_sl, kSL3_ap, kSL2_ap, kSL1_ap, kSL0_ap, wp_slL, wp_evA0, kA1_ap, wp_evAv, kA2_ap, wp_evAio, kCall4_ap, kCall3_ap, kCall2_ap, kCall1_ap, wp_call, kK2_ap, kK1_ap, wp_callK, wp_nx, wp_bk, wp_ct, wp_no, kSeq_nx, kSeq_rt, kSeq_ro, kSeq_bk, kSeq_ct, wp_seq, kNx_ap, kExp_ap, kRt_ap, kRo_ap, wp_expr, wp_rt, wp_rtN, wp_ro, kAsg_ap, wp_asg, wp_asgO, kI3_ap, kI2_ap, kI1_ap, kI0b_ap, kI0_ap, wp_setIx, kM2_ap, kM1_ap, kM0_ap, wp_mt, kIt_ap, kIts_ap, wp_walkA, wp_range1, wp_range2, wp_range3, wp_zipM, wp_enumM, kFor_ap, wp_for, kTurn_nx, kTurn_ct, kTurn_bk, kTurn_rt, kTurn_ro, kElt_ap, kCond_t, kCond_f, wp_lc, endF_rt, endF_nx, endO_ro, kBody_ap, addD_i, addD_s, addD_t, addD_l, subD_i, mulD_i, modD_i, ltD_i, ltD_s, leD_i, gtD_i, geD_i, negD_i, isBD_b, isnBD_b, truD_b, truD_i, truD_n, truD_l, truD_t, lenD_l, lenD_t, lenD_s, intD_i, intD_b, absD_i, listD_l, listD_t, tupD_l, tupD_t, max2D_i, min2D_i, isiD_d, revD_l, slD_l, slD_t, itemsA_l, itemsA_t, itemsA_s, ixD_l, ixD_t, zpD_l, zpD_t, setT_t, setTr_t, setNs_0, setNs_1, setN_z, setN_s, setO_z, setO_s, atI_z, atI_1, atI_2, atI_3, atI_4, setIx_0, setIx_1, setIx_2, sumD_map, rg1_i, rg2_i, eqD_i, neD_i, isi_int_n, isi_int_b, isi_int_i, isi_int_s, isi_int_l, isi_int_t, isi_int_d, isi_bool_n, isi_bool_b, isi_bool_i, isi_bool_s, isi_bool_l, isi_bool_t, isi_bool_d, isi_str_n, isi_str_b, isi_str_i, isi_str_s, isi_str_l, isi_str_t, isi_str_d, isi_list_n, isi_list_b, isi_list_i, isi_list_s, isi_list_l, isi_list_t, isi_list_d, isi_tuple_n, isi_tuple_b, isi_tuple_i, isi_tuple_s, isi_tuple_l, isi_tuple_t, isi_tuple_d, isi_dict_n, isi_dict_b, isi_dict_i, isi_dict_s, isi_dict_l, isi_dict_t, isi_dict_d, notD_b, isNone_n, isNone_s, isNone_i, isNone_t, isNone_l, kPure_ap, pickD_1, pickD_2, pickD_3, pickD_4, appD_l, extD_l, List.getElem?_cons_zero, List.getElem?_cons_succ, List.set_cons_zero, List.set_cons_succ, initE, Option.map_some, List.replicate, posT, getO, fillA, putA, Bool.not_true, Bool.not_false, if_true, if_false, Bool.false_eq_true, Option.bind_some, wipeE, restE, reduceIte, List.length_cons, List.length_nil, fwp_mk, fwp_mko, Nat.reduceAdd, Nat.reduceSub, List.append_nil, List.nil_append, List.cons_append, List.reverse_cons, List.reverse_nil, Int.reduceLT, Int.reduceLE, Int.reduceAdd, Int.reduceMul, Int.reduceNeg, decide_true, decide_false, decide_eq_true_eq, Int.reduceEq, Option.map_none, and_self, and_true, true_and, Bool.true_and, Bool.false_and, Bool.or_true, Bool.or_false, List.isEmpty_nil, List.isEmpty_cons, List.getElem?_nil, Option.isSome_some, Int.cast_ofNat_Int, Bool.not_eq_true, Bool.and_true, Bool.and_self, Bool.true_or, Bool.false_or, Bool.and_false, Int.reduceSub, Int.natCast_zero, Int.reduceGT, Int.reduceGE, ne_eq, not_true_eq_false, not_false_eq_true, B_does_fit, e1, e2, e3, e4]
  · have e1 : eqD (.str "plain") (.str "plain") = some (.bool true) := of_bIs (by decide +kernel)
    have e4 : fitB (.str "plain") day (fs.map PyData.int) = !hasD (fs.map PyData.int) (.int day) := by
      unfold fitB
      rw [show strI (.str "plain") "plain" = true by decide +kernel]
      rfl
    simp -implicitDefEqProofs only [owp_ok, fwp_ok, onS_s, onS_n, gR_f, gQ_f, gQ_o, gL_f, gL_o, gO_o, opL_op, wp_ret, kE_ap, kSet_ap, ifM_t, ifM_f, wp_vr, wp_vq, wp_vl, wp_vo, kBin2_ap, kBin1_ap, wp_bin, kUna_ap, wp_una, kBL2_ap, kBL1_ap, kBL0_ap, wp_binL, wp_seq0, kS2_ap, kS1_ap, wp_seq1, kTup_ap, wp_tup, kLst_ap, wp_lst, wp_seqP0, kP3_ap, kP2_ap, kP1_ap, wp_seqP1, wp_noX, kDsp_ap, wp_dsp, kBool_ap, wp_boolOf, kN_ap, kNN_ap, wp_isN, wp_isNN, kC4_ap, kC3_ap, wp_bl, kC2_ap, kC1_ap, wp_chn, kTru_ap, wp_truM, kNot_ap, wp_notM, kIf_ap, wp_andM, wp_orM, wp_ite, wp_if, kAndV2_ap, kAndV_ap, wp_andV, kOrV2_ap, kOrV_ap, wp_orV, kNotV2_ap, kNotV_ap, wp_notV, wp_part0, kPart_ap, wp_part1, kSl2_ap, kSl1_ap, kSl0_ap, wp_sl, kSL3_ap, kSL2_ap, kSL1_ap, kSL0_ap, wp_slL, wp_evA0, kA1_ap, wp_evAv, kA2_ap, wp_evAio, kCall4_ap, kCall3_ap, kCall2_ap, kCall1_ap, wp_call, kK2_ap, kK1_ap, wp_callK, wp_nx, wp_bk, wp_ct, wp_no, kSeq_nx, kSeq_rt, kSeq_ro, kSeq_bk, kSeq_ct, wp_seq, kNx_ap, kExp_ap, kRt_ap, kRo_ap, wp_expr, wp_rt, wp_rtN, wp_ro, kAsg_ap, wp_asg, wp_asgO, kI3_ap, kI2_ap, kI1_ap, kI0b_ap, kI0_ap, wp_setIx, kM2_ap, kM1_ap, kM0_ap, wp_mt, kIt_ap, kIts_ap, wp_walkA, wp_range1, wp_range2, wp_range3, wp_zipM, wp_enumM, kFor_ap, wp_for, kTurn_nx, kTurn_ct, kTurn_bk, kTurn_rt, kTurn_ro, kElt_ap, kCond_t, kCond_f, wp_lc, endF_rt, endF_nx, endO_ro, kBody_ap, addD_i, addD_s, addD_t, addD_l, subD_i, mulD_i, modD_i, ltD_i, ltD_s, leD_i, gtD_i, geD_i, negD_i, isBD_b, isnBD_b, truD_b, truD_i, truD_n, truD_l, truD_t, lenD_l, lenD_t, lenD_s, intD_i, intD_b, absD_i, listD_l, listD_t, tupD_l, tupD_t, max2D_i, min2D_i, isiD_d, revD_l, slD_l, slD_t, itemsA_l, itemsA_t, itemsA_s, ixD_l, ixD_t, zpD_l, zpD_t, setT_t, setTr_t, setNs_0, setNs_1, setN_z, setN_s, setO_z, setO_s, atI_z, atI_1, atI_2, atI_3, atI_4, setIx_0, setIx_1, setIx_2, sumD_map, rg1_i, rg2_i, eqD_i, neD_i, isi_int_n, isi_int_b, isi_int_i, isi_int_s, isi_int_l, isi_int_t, isi_int_d, isi_bool_n, isi_bool_b, isi_bool_i, isi_bool_s, isi_bool_l, isi_bool_t, isi_bool_d, isi_str_n, isi_str_b, isi_str_i, isi_str_s, isi_str_l, isi_str_t, isi_str_d, isi_list_n, isi_list_b, isi_list_i, isi_list_s, isi_list_l, isi_list_t, isi_list_d, isi_tuple_n, isi_tuple_b, isi_tuple_i, isi_tuple_s, isi_tuple_l, isi_tuple_t, isi_tuple_d, isi_dict_n, isi_dict_b, isi_dict_i, isi_dict_s, isi_dict_l, isi_dict_t, isi_dict_d, notD_b, isNone_n, isNone_s, isNone_i, isNone_t, isNone_l, kPure_ap, pickD_1, pickD_2, pickD_3, pickD_4, appD_l, extD_l, List.getElem?_cons_zero, List.getElem?_cons_succ, List.set_cons_zero, List.set_cons_succ, initE, Option.map_some, List.replicate, posT, getO, fillA, putA, Bool.not_true, Bool.not_false, if_true, if_false, Bool.false_eq_true, Option.bind_some, wipeE, restE, reduceIte, List.length_cons, List.length_nil, fwp_mk, fwp_mko, Nat.reduceAdd, Nat.reduceSub, List.append_nil, List.nil_append, List.cons_append, List.reverse_cons, List.reverse_nil, Int.reduceLT, Int.reduceLE, Int.reduceAdd, Int.reduceMul, Int.reduceNeg, decide_true, decide_false, decide_eq_true_eq, Int.reduceEq, Option.map_none, and_self, and_true, true_and, Bool.true_and, Bool.false_and, Bool.or_true, Bool.or_false, List.isEmpty_nil, List.isEmpty_cons, List.getElem?_nil, Option.isSome_some, Int.cast_ofNat_Int, Bool.not_eq_true, Bool.and_true, Bool.and_self, Bool.true_or, Bool.false_or, Bool.and_false, Int.reduceSub, Int.natCast_zero, Int.reduceGT, Int.reduceGE, ne_eq, not_true_eq_false, not_false_eq_true, B_does_fit, e1, e4, nin_ints]
  · have e1 : eqD (.str "feast") (.str "plain") = some (.bool false) := of_bIs (by decide +kernel)
    have e2 : eqD (.str "feast") (.str "feast") = some (.bool true) := of_bIs (by decide +kernel)
    have e4 : fitB (.str "feast") day (fs.map PyData.int) = hasD (fs.map PyData.int) (.int day) := by
      unfold fitB
      rw [show strI (.str "feast") "plain" = false by decide +kernel, show strI (.str "feast") "feast" = true by decide +kernel]
      rfl
    simp -implicitDefEqProofs only [owp_ok, fwp_ok, onS_s, onS_n, gR_f, gQ_f, gQ_o, gL_f, gL_o, gO_o, opL_op, wp_ret, kE_ap, kSet_ap, ifM_t, ifM_f, wp_vr, wp_vq, wp_vl, wp_vo, kBin2_ap, kBin1_ap, wp_bin, kUna_ap, wp_una, kBL2_ap, kBL1_ap, kBL0_ap, wp_binL, wp_seq0, kS2_ap, kS1_ap, wp_seq1, kTup_ap, wp_tup, kLst_ap, wp_lst, wp_seqP0, kP3_ap, kP2_ap, kP1_ap, wp_seqP1, wp_noX, kDsp_ap, wp_dsp, kBool_ap, wp_boolOf, kN_ap, kNN_ap, wp_isN, wp_isNN, kC4_ap, kC3_ap, wp_bl, kC2_ap, kC1_ap, wp_chn, kTru_ap, wp_truM, kNot_ap, wp_notM, kIf_ap, wp_andM, wp_orM, wp_ite, wp_if, kAndV2_ap, kAndV_ap, wp_andV, kOrV2_ap, kOrV_ap, wp_orV, kNotV2_ap, kNotV_ap, wp_notV, wp_part0, kPart_ap, wp_part1, kSl2_ap, kSl1_ap, kSl0_ap, wp_sl, kSL3_ap, kSL2_ap, kSL1_ap, kSL0_ap, wp_slL, wp_evA0, kA1_ap, wp_evAv, kA2_ap, wp_evAio, kCall4_ap, kCall3_ap, kCall2_ap, kCall1_ap, wp_call, kK2_ap, kK1_ap, wp_callK, wp_nx, wp_bk, wp_ct, wp_no, kSeq_nx, kSeq_rt, kSeq_ro, kSeq_bk, kSeq_ct, wp_seq, kNx_ap, kExp_ap, kRt_ap, kRo_ap, wp_expr, wp_rt, wp_rtN, wp_ro, kAsg_ap, wp_asg, wp_asgO, kI3_ap, kI2_ap, kI1_ap, kI0b_ap, kI0_ap, wp_setIx, kM2_ap, kM1_ap, kM0_ap, wp_mt, kIt_ap, kIts_ap, wp_walkA, wp_range1, wp_range2, wp_range3, wp_zipM, wp_enumM, kFor_ap, wp_for, kTurn_nx, kTurn_ct, kTurn_bk, kTurn_rt, kTurn_ro, kElt_ap, kCond_t, kCond_f, wp_lc, endF_rt, endF_nx, endO_ro, kBody_ap, addD_i, addD_s, addD_t, addD_l, subD_i, mulD_i, modD_i, ltD_i, ltD_s, leD_i, gtD_i, geD_i, negD_i, isBD_b, isnBD_b, truD_b, truD_i, truD_n, truD_l, truD_t, lenD_l, lenD_t, lenD_s, intD_i, intD_b, absD_i, listD_l, listD_t, tupD_l, tupD_t, max2D_i, min2D_i, isiD_d, revD_l, slD_l, slD_t, itemsA_l, itemsA_t, itemsA_s, ixD_l, ixD_t, zpD_l, zpD_t, setT_t, setTr_t, setNs_0, setNs_1, setN_z, setN_s, setO_z, setO_s, atI_z, atI_1, atI_2, atI_3, atI_4, setIx_0, setIx_1, setIx_2, sumD_map, rg1_i, rg2_i, eqD_i, neD_i, isi_int_n, isi_int_b, isi_int_i, isi_int_s, isi_int_l, isi_int_t, isi_int_d, isi_bool_n, isi_bool_b, isi_bool_i, isi_bool_s, isi_bool_l, isi_bool_t, isi_bool_d, isi_str_n, isi_str_b, isi_str_i, isi_str_s, isi_str_l, isi_str_t, isi_str_d, isi_list_n, isi_list_b, isi_list_i, isi_list_s, isi_list_l, isi_list_t, isi_list_d, isi_tuple_n, isi_tuple_b, isi_tuple_i, isi_tuple_s, isi_tuple_l, isi_tuple_t, isi_tuple_d, isi_dict_n, isi_dict_b, isi_dict_i, isi_dict_s, isi_dict_l, isi_dict_t, isi_dict_d, notD_b, isNone_n, isNone_s, isNone_i, isNone_t, isNone_l, kPure_ap, pickD_1, pickD_2, pickD_3, pickD_4, appD_l, extD_l, List.getElem?_cons_zero, List.getElem?_cons_succ, List.set_cons_zero, List.set_cons_succ, initE, Option.map_some, List.replicate, posT, getO, fillA, putA, Bool.not_true, Bool.not_false, if_true, if_false, Bool.false_eq_true, Option.bind_some, wipeE, restE, reduceIte, List.length_cons, List.length_nil, fwp_mk, fwp_mko, Nat.reduceAdd, Nat.reduceSub, List.append_nil, List.nil_append, List.cons_append, List.reverse_cons, List.reverse_nil, Int.reduceLT, Int.reduceLE, Int.reduceAdd, Int.reduceMul, Int.reduceNeg, decide_true, decide_false, decide_eq_true_eq, Int.reduceEq, Option.map_none, and_self, and_true, true_and, Bool.true_and, Bool.false_and, Bool.or_true, Bool.or_false, List.isEmpty_nil, List.isEmpty_cons, List.getElem?_nil, Option.isSome_some, Int.cast_ofNat_Int, Bool.not_eq_true, Bool.and_true, Bool.and_self, Bool.true_or, Bool.false_or, Bool.and_false, Int.reduceSub, Int.natCast_zero, Int.reduceGT, Int.reduceGE, ne_eq, not_true_eq_false, not_false_eq_true, B_does_fit, e1, e2, e4, in_ints]
  · have e1 : eqD (.str "eve") (.str "plain") = some (.bool false) := of_bIs (by decide +kernel)
    have e2 : eqD (.str "eve") (.str "feast") = some (.bool false) := of_bIs (by decide +kernel)
    have e3 : eqD (.str "eve") (.str "any") = some (.bool false) := of_bIs (by decide +kernel)
    have e4 : fitB (.str "eve") day (fs.map PyData.int) = hasD (fs.map PyData.int) (.int (day + 1)) := by
      unfold fitB
      rw [show strI (.str "eve") "plain" = false by decide +kernel, show strI (.str "eve") "feast" = false by decide +kernel, show strI (.str "eve") "any" = false by decide +kernel]
      rfl
    simp -implicitDefEqProofs only [owp_ok, fwp_ok, onS_s, onS_n, gR_f, gQ_f, gQ_o, gL_f, gL_o, gO_o, opL_op, wp_ret, kE_ap, kSet_ap, ifM_t, ifM_f, wp_vr, wp_vq, wp_vl, wp_vo, kBin2_ap, kBin1_ap, wp_bin, kUna_ap, wp_una, kBL2_ap, kBL1_ap, kBL0_ap, wp_binL, wp_seq0, kS2_ap, kS1_ap, wp_seq1, kTup_ap, wp_tup, kLst_ap, wp_lst, wp_seqP0, kP3_ap, kP2_ap, kP1_ap, wp_seqP1, wp_noX, kDsp_ap, wp_dsp, kBool_ap, wp_boolOf, kN_ap, kNN_ap, wp_isN, wp_isNN, kC4_ap, kC3_ap, wp_bl, kC2_ap, kC1_ap, wp_chn, kTru_ap, wp_truM, kNot_ap, wp_notM, kIf_ap, wp_andM, wp_orM, wp_ite, wp_if, kAndV2_ap, kAndV_ap, wp_andV, kOrV2_ap, kOrV_ap, wp_orV, kNotV2_ap, kNotV_ap, wp_notV, wp_part0, kPart_ap, wp_part1, kSl2_ap, kSl1_ap, kSl0_ap, wp_sl, kSL3_ap, kSL2_ap, kSL1_ap, kSL0_ap, wp_slL, wp_evA0, kA1_ap, wp_evAv, kA2_ap, wp_evAio, kCall4_ap, kCall3_ap, kCall2_ap, kCall1_ap, wp_call, kK2_ap, kK1_ap, wp_callK, wp_nx, wp_bk, wp_ct, wp_no, kSeq_nx, kSeq_rt, kSeq_ro, kSeq_bk, kSeq_ct, wp_seq, kNx_ap, kExp_ap, kRt_ap, kRo_ap, wp_expr, wp_rt, wp_rtN, wp_ro, kAsg_ap, wp_asg, wp_asgO, kI3_ap, kI2_ap, kI1_ap, kI0b_ap, kI0_ap, wp_setIx, kM2_ap, kM1_ap, kM0_ap, wp_mt, kIt_ap, kIts_ap, wp_walkA, wp_range1, wp_range2, wp_range3, wp_zipM, wp_enumM, kFor_ap, wp_for, kTurn_nx, kTurn_ct, kTurn_bk, kTurn_rt, kTurn_ro, kElt_ap, kCond_t, kCond_f, wp_lc, endF_rt, endF_nx, endO_ro, kBody_ap, addD_i, addD_s, addD_t, addD_l, subD_i, mulD_i, modD_i, ltD_i, ltD_s, leD_i, gtD_i, geD_i, negD_i, isBD_b, isnBD_b, truD_b, truD_i, truD_n, truD_l, truD_t, lenD_l, lenD_t, lenD_s, intD_i, intD_b, absD_i, listD_l, listD_t, tupD_l, tupD_t, max2D_i, min2D_i, isiD_d, revD_l, slD_l, slD_t, itemsA_l, itemsA_t, itemsA_s, ixD_l, ixD_t, zpD_l, zpD_t, setT_t, setTr_t, setNs_0, setNs_1, setN_z, setN_s, setO_z, setO_s, atI_z, atI_1, atI_2, atI_3, atI_4, setIx_0, setIx_1, setIx_2, sumD_map, rg1_i, rg2_i, eqD_i, neD_i, isi_int_n, isi_int_b, isi_int_i, isi_int_s, isi_int_l, isi_int_t, isi_int_d, isi_bool_n, isi_bool_b, isi_bool_i, isi_bool_s, isi_bool_l, isi_bool_t, isi_bool_d, isi_str_n, isi_str_b, isi_str_i, isi_str_s, isi_str_l, isi_str_t, isi_str_d, isi_list_n, isi_list_b, isi_list_i, isi_list_s, isi_list_l, isi_list_t, isi_list_d, isi_tuple_n, isi_tuple_b, isi_tuple_i, isi_tuple_s, isi_tuple_l, isi_tuple_t, isi_tuple_d, isi_dict_n, isi_dict_b, isi_dict_i, isi_dict_s, isi_dict_l, isi_dict_t, isi_dict_d, notD_b, isNone_n, isNone_s, isNone_i, isNone_t, isNone_l, kPure_ap, pickD_1, pickD_2, pickD_3, pickD_4, appD_l, extD_l, List.getElem?_cons_zero, List.getElem?_cons_succ, List.set_cons_zero, List.set_cons_succ, initE, Option.map_some, List.replicate, posT, getO, fillA, putA, Bool.not_true, Bool.not_false, if_true, if_false, Bool.false_eq_true, Option.bind_some, wipeE, restE, reduceIte, List.length_cons, List.length_nil, fwp_mk, fwp_mko, Nat.reduceAdd, Nat.reduceSub, List.append_nil, List.nil_append, List.cons_append, List.reverse_cons, List.reverse_nil, Int.reduceLT, Int.reduceLE, Int.reduceAdd, Int.reduceMul, Int.reduceNeg, decide_true, decide_false, decide_eq_true_eq, Int.reduceEq, Option.map_none, and_self, and_true, true_and, Bool.true_and, Bool.false_and, Bool.or_true, Bool.or_false, List.isEmpty_nil, List.isEmpty_cons, List.getElem?_nil, Option.isSome_some, Int.cast_ofNat_Int, Bool.not_eq_true, Bool.and_true, Bool.and_self, Bool.true_or, Bool.false_or, Bool.and_false, Int.reduceSub, Int.natCast_zero, Int.reduceGT, Int.reduceGE, ne_eq, not_true_eq_false, not_false_eq_true, B_does_fit, e1, e2, e3, e4, in_ints]
/-- the kinds do not let it -/
def np (kk : D) : Bool := bIs true (neD kk (.tuple []))
def nq (kind kk : D) : Bool := bIs true (ninD kind kk)
theorem np_eq {kk : D} (h : KindsOk kk) : neD kk (.tuple []) = some (.bool (np kk)) := by
  rcases h with rfl | rfl | rfl
  · rw [show np (.tuple []) = false by decide +kernel]; exact of_bIs (by decide +kernel)
  · rw [show np (.tuple [.str "van"]) = true by decide +kernel]; exact of_bIs (by decide +kernel)
  · rw [show np (.tuple [.str "bus", .str "van"]) = true by decide +kernel]; exact of_bIs (by decide +kernel)
def isBo (o : Option D) : Bool := match o with | some (.bool _) => true | _ => false
theorem of_isBo {o : Option D} (h : isBo o = true) : o = some (.bool (bIs true o)) := by
  unfold isBo at h
  split at h
  · rename_i b; cases b <;> rfl
  · cases h
theorem nq_eq {kind kk : D} (h : KindsOk kk) (h2 : KindOk kind) : ninD kind kk = some (.bool (nq kind kk)) := by
  refine of_isBo ?_
  rcases h with rfl | rfl | rfl <;> rcases h2 with rfl | rfl | rfl | rfl <;> decide +kernel
def agoI (h b e tick : Int) : Int := if b = e then 0 else (tick - b) % (7 * h)
def bearB (h b e : Int) (dd kk kind : D) (tick : Int) (fs : List D) : Bool := !(np kk && nq kind kk) && (!(decide (b ≠ e) && decide ((e - b) % (7 * h) ≤ agoI h b e tick)) && fitB dd ((tick - agoI h b e tick) / h) fs)
def rowB (h : Int) (row kind : D) (tick : Int) (fs : List D) : Bool := match row with
  | .tuple [.int b, .int e, dd, kk, _] => bearB h b e dd kk kind tick fs
  | _ => false
def wordD : D → D
  | .tuple [_, _, _, _, w] => w
  | _ => .none
theorem bear_eq {h tick : Int} {r kind : D} {fs : List Int} (hh : HoursOk h) (hr : RowOk h r) (hk : KindOk kind) : F_does_bear [.int h, r, kind, .int tick, .tuple (fs.map PyData.int)] = .ok (.bool (rowB h r kind tick (fs.map PyData.int))) [] := by
  have hb := hours_b hh
  obtain ⟨b, e, dd, kk, ww, rfl, b0, b1, e0, e1, be, hd, hkk, hw⟩ := hr
  refine fo_eq ?_
  unfold F_does_bear
  rw [fwp_mk]
  by_cases hbe : b = e
  · have hd1 : decide (b = e) = true := decide_eq_true hbe
    have hago : agoI h b e tick = 0 := by unfold agoI; rw [if_pos hbe]
    have hd2 : decide (b ≠ e) = false := decide_eq_false (fun n => n hbe)
    cases hnp : np kk <;> cases hnq : nq kind kk <;>
      simp -implicitDefEqProofs only [owp_ok, fwp_ok, onS_s, onS_n, gR_f, gQ_f, gQ_o, gL_f, gL_o, gO_o, opL_op, wp_ret, kE_ap, kSet_ap, ifM_t, ifM_f, wp_vr, wp_vq, wp_vl, wp_vo, kBin2_ap, kBin1_ap, wp_bin, kUna_ap, wp_una, kBL2_ap, kBL1_ap, kBL0_ap, wp_binL, wp_seq0, kS2_ap, kS1_ap, wp_seq1, kTup_ap, wp_tup, kLst_ap, wp_lst, wp_seqP0, kP3_ap, kP2_ap, kP1_ap, wp_seqP1, wp_noX, kDsp_ap, wp_dsp, kBool_ap, wp_boolOf, kN_ap, kNN_ap, wp_isN, wp_isNN, kC4_ap, kC3_ap, wp_bl, kC2_ap, kC1_ap, wp_chn, kTru_ap, wp_truM, kNot_ap, wp_notM, kIf_ap, wp_andM, wp_orM, wp_ite, wp_if, kAndV2_ap, kAndV_ap, wp_andV, kOrV2_ap, kOrV_ap, wp_orV, kNotV2_ap, kNotV_ap, wp_notV, wp_part0, kPart_ap, wp_part1, kSl2_ap, kSl1_ap, kSl0_ap, wp_sl, kSL3_ap, kSL2_ap, kSL1_ap, kSL0_ap, wp_slL, wp_evA0, kA1_ap, wp_evAv, kA2_ap, wp_evAio, kCall4_ap, kCall3_ap, kCall2_ap, kCall1_ap, wp_call, kK2_ap, kK1_ap, wp_callK, wp_nx, wp_bk, wp_ct, wp_no, kSeq_nx, kSeq_rt, kSeq_ro, kSeq_bk, kSeq_ct, wp_seq, kNx_ap, kExp_ap, kRt_ap, kRo_ap, wp_expr, wp_rt, wp_rtN, wp_ro, kAsg_ap, wp_asg, wp_asgO, kI3_ap, kI2_ap, kI1_ap, kI0b_ap, kI0_ap, wp_setIx, kM2_ap, kM1_ap, kM0_ap, wp_mt, kIt_ap, kIts_ap, wp_walkA, wp_range1, wp_range2, wp_range3, wp_zipM, wp_enumM, kFor_ap, wp_for, kTurn_nx, kTurn_ct, kTurn_bk, kTurn_rt, kTurn_ro, kElt_ap, kCond_t, kCond_f, wp_lc, endF_rt, endF_nx, endO_ro, kBody_ap, addD_i, addD_s, addD_t, addD_l, subD_i, mulD_i, modD_i, ltD_i, ltD_s, leD_i, gtD_i, geD_i, negD_i, isBD_b, isnBD_b, truD_b, truD_i, truD_n, truD_l, truD_t, lenD_l, lenD_t, lenD_s, intD_i, intD_b, absD_i, listD_l, listD_t, tupD_l, tupD_t, max2D_i, min2D_i, isiD_d, revD_l, slD_l, slD_t, itemsA_l, itemsA_t, itemsA_s, ixD_l, ixD_t, zpD_l, zpD_t, setT_t, setTr_t, setNs_0, setNs_1, setN_z, setN_s, setO_z, setO_s, atI_z, atI_1, atI_2, atI_3, atI_4, setIx_0, setIx_1, setIx_2, sumD_map, rg1_i, rg2_i, eqD_i, neD_i, isi_int_n, isi_int_b, isi_int_i, isi_int_s, isi_int_l, isi_int_t, isi_int_d, isi_bool_n, isi_bool_b, isi_bool_i, isi_bool_s, isi_bool_l, isi_bool_t, isi_bool_d, isi_str_n, isi_str_b, isi_str_i, isi_str_s, isi_str_l, isi_str_t, isi_str_d, isi_list_n, isi_list_b, isi_list_i, isi_list_s, isi_list_l, isi_list_t, isi_list_d, isi_tuple_n, isi_tuple_b, isi_tuple_i, isi_tuple_s, isi_tuple_l, isi_tuple_t, isi_tuple_d, isi_dict_n, isi_dict_b, isi_dict_i, isi_dict_s, isi_dict_l, isi_dict_t, isi_dict_d, notD_b, isNone_n, isNone_s, isNone_i, isNone_t, isNone_l, kPure_ap, pickD_1, pickD_2, pickD_3, pickD_4, appD_l, extD_l, List.getElem?_cons_zero, List.getElem?_cons_succ, List.set_cons_zero, List.set_cons_succ, initE, Option.map_some, List.replicate, posT, getO, fillA, putA, Bool.not_true, Bool.not_false, if_true, if_false, Bool.false_eq_true, Option.bind_some, wipeE, restE, reduceIte, List.length_cons, List.length_nil, fwp_mk, fwp_mko, Nat.reduceAdd, Nat.reduceSub, List.append_nil, List.nil_append, List.cons_append, List.reverse_cons, List.reverse_nil, Int.reduceLT, Int.reduceLE, Int.reduceAdd, Int.reduceMul, Int.reduceNeg, decide_true, decide_false, decide_eq_true_eq, Int.reduceEq, Option.map_none, and_self, and_true, true_and, Bool.true_and, Bool.false_and, Bool.or_true, Bool.or_false, List.isEmpty_nil, List.isEmpty_cons, List.getElem?_nil, Option.isSome_some, Int.cast_ofNat_Int, Bool.not_eq_true, Bool.and_true, Bool.and_self, Bool.true_or, Bool.false_or, Bool.and_false, Int.reduceSub, Int.natCast_zero, Int.reduceGT, Int.reduceGE, ne_eq, not_true_eq_false, not_false_eq_true, B_does_bear, np_eq hkk, hnp, nq_eq hkk hk, hnq, mulOk_l (i := 7) (j := h) (by omega), hd1, rowB, bearB, hago, hd2, divD_i (j := h) (by omega), does_fit_eq hd]
  · have hd1 : decide (b = e) = false := decide_eq_false hbe
    have hago : agoI h b e tick = (tick - b) % (7 * h) := by unfold agoI; rw [if_neg hbe]
    have hd2 : decide (b ≠ e) = true := decide_eq_true hbe
    by_cases hc : (e - b) % (7 * h) ≤ (tick - b) % (7 * h)
    · have hc1 := decide_eq_true hc
      cases hnp : np kk <;> cases hnq : nq kind kk <;>
        simp -implicitDefEqProofs only [owp_ok, fwp_ok, onS_s, onS_n, gR_f, gQ_f, gQ_o, gL_f, gL_o, gO_o, opL_op, wp_ret, kE_ap, kSet_ap, ifM_t, ifM_f, wp_vr, wp_vq, wp_vl, wp_vo, kBin2_ap, kBin1_ap, wp_bin, kUna_ap, wp_una, kBL2_ap, kBL1_ap, kBL0_ap, wp_binL, wp_seq0, kS2_ap, kS1_ap, wp_seq1, kTup_ap, wp_tup, kLst_ap, wp_lst, wp_seqP0, kP3_ap, kP2_ap, kP1_ap, wp_seqP1, wp_noX, kDsp_ap, wp_dsp, kBool_ap, wp_boolOf, kN_ap, kNN_ap, wp_isN, wp_isNN, kC4_ap, kC3_ap, wp_bl, kC2_ap, kC1_ap, wp_chn, kTru_ap, wp_truM, kNot_ap, wp_notM, kIf_ap, wp_andM, wp_orM, wp_ite, wp_if, kAndV2_ap, kAndV_ap, wp_andV, kOrV2_ap, kOrV_ap, wp_orV, kNotV2_ap, kNotV_ap, wp_notV, wp_part0, kPart_ap, wp_part1, kSl2_ap, kSl1_ap, kSl0_ap, wp_sl, kSL3_ap, kSL2_ap, kSL1_ap, kSL0_ap, wp_slL, wp_evA0, kA1_ap, wp_evAv, kA2_ap, wp_evAio, kCall4_ap, kCall3_ap, kCall2_ap, kCall1_ap, wp_call, kK2_ap, kK1_ap, wp_callK, wp_nx, wp_bk, wp_ct, wp_no, kSeq_nx, kSeq_rt, kSeq_ro, kSeq_bk, kSeq_ct, wp_seq, kNx_ap, kExp_ap, kRt_ap, kRo_ap, wp_expr, wp_rt, wp_rtN, wp_ro, kAsg_ap, wp_asg, wp_asgO, kI3_ap, kI2_ap, kI1_ap, kI0b_ap, kI0_ap, wp_setIx, kM2_ap, kM1_ap, kM0_ap, wp_mt, kIt_ap, kIts_ap, wp_walkA, wp_range1, wp_range2, wp_range3, wp_zipM, wp_enumM, kFor_ap, wp_for, kTurn_nx, kTurn_ct, kTurn_bk, kTurn_rt, kTurn_ro, kElt_ap, kCond_t, kCond_f, wp_lc, endF_rt, endF_nx, endO_ro, kBody_ap, addD_i, addD_s, addD_t, addD_l, subD_i, mulD_i, modD_i, ltD_i, ltD_s, leD_i, gtD_i, geD_i, negD_i, isBD_b, isnBD_b, truD_b, truD_i, truD_n, truD_l, truD_t, lenD_l, lenD_t, lenD_s, intD_i, intD_b, absD_i, listD_l, listD_t, tupD_l, tupD_t, max2D_i, min2D_i, isiD_d, revD_l, slD_l, slD_t, itemsA_l, itemsA_t, itemsA_s, ixD_l, ixD_t, zpD_l, zpD_t, setT_t, setTr_t, setNs_0, setNs_1, setN_z, setN_s, setO_z, setO_s, atI_z, atI_1, atI_2, atI_3, atI_4, setIx_0, setIx_1, setIx_2, sumD_map, rg1_i, rg2_i, eqD_i, neD_i, isi_int_n, isi_int_b, isi_int_i, isi_int_s, isi_int_l, isi_int_t, isi_int_d, isi_bool_n, isi_bool_b, isi_bool_i, isi_bool_s, isi_bool_l, isi_bool_t, isi_bool_d, isi_str_n, isi_str_b, isi_str_i, isi_str_s, isi_str_l, isi_str_t, isi_str_d, isi_list_n, isi_list_b, isi_list_i, isi_list_s, isi_list_l, isi_list_t, isi_list_d, isi_tuple_n, isi_tuple_b, isi_tuple_i, isi_tuple_s, isi_tuple_l, isi_tuple_t, isi_tuple_d, isi_dict_n, isi_dict_b, isi_dict_i, isi_dict_s, isi_dict_l, isi_dict_t, isi_dict_d, notD_b, isNone_n, isNone_s, isNone_i, isNone_t, isNone_l, kPure_ap, pickD_1, pickD_2, pickD_3, pickD_4, appD_l, extD_l, List.getElem?_cons_zero, List.getElem?_cons_succ, List.set_cons_zero, List.set_cons_succ, initE, Option.map_some, List.replicate, posT, getO, fillA, putA, Bool.not_true, Bool.not_false, if_true, if_false, Bool.false_eq_true, Option.bind_some, wipeE, restE, reduceIte, List.length_cons, List.length_nil, fwp_mk, fwp_mko, Nat.reduceAdd, Nat.reduceSub, List.append_nil, List.nil_append, List.cons_append, List.reverse_cons, List.reverse_nil, Int.reduceLT, Int.reduceLE, Int.reduceAdd, Int.reduceMul, Int.reduceNeg, decide_true, decide_false, decide_eq_true_eq, Int.reduceEq, Option.map_none, and_self, and_true, true_and, Bool.true_and, Bool.false_and, Bool.or_true, Bool.or_false, List.isEmpty_nil, List.isEmpty_cons, List.getElem?_nil, Option.isSome_some, Int.cast_ofNat_Int, Bool.not_eq_true, Bool.and_true, Bool.and_self, Bool.true_or, Bool.false_or, Bool.and_false, Int.reduceSub, Int.natCast_zero, Int.reduceGT, Int.reduceGE, ne_eq, not_true_eq_false, not_false_eq_true, B_does_bear, np_eq hkk, hnp, nq_eq hkk hk, hnq, mulOk_l (i := 7) (j := h) (by omega), show 0 < 7 * h by omega, hd1, rowB, bearB, hago, hd2, hc1, divD_i (j := h) (by omega), does_fit_eq hd]
    · have hc1 := decide_eq_false hc
      cases hnp : np kk <;> cases hnq : nq kind kk <;>
        simp -implicitDefEqProofs only [owp_ok, fwp_ok, onS_s, onS_n, gR_f, gQ_f, gQ_o, gL_f, gL_o, gO_o, opL_op, wp_ret, kE_ap, kSet_ap, ifM_t, ifM_f, wp_vr, wp_vq, wp_vl, wp_vo, kBin2_ap, kBin1_ap, wp_bin, kUna_ap, wp_una, kBL2_ap, kBL1_ap, kBL0_ap, wp_binL, wp_seq0, kS2_ap, kS1_ap, wp_seq1, kTup_ap, wp_tup, kLst_ap, wp_lst, wp_seqP0, kP3_ap, kP2_ap, kP1_ap, wp_seqP1, wp_noX, kDsp_ap, wp_dsp, kBool_ap, wp_boolOf, kN_ap, kNN_ap, wp_isN, wp_isNN, kC4_ap, kC3_ap, wp_bl, kC2_ap, kC1_ap, wp_chn, kTru_ap, wp_truM, kNot_ap, wp_notM, kIf_ap, wp_andM, wp_orM, wp_ite, wp_if, kAndV2_ap, kAndV_ap, wp_andV, kOrV2_ap, kOrV_ap, wp_orV, kNotV2_ap, kNotV_ap, wp_notV, wp_part0, kPart_ap, wp_part1, kSl2_ap, kSl1_ap, kSl0_ap, wp_sl, kSL3_ap, kSL2_ap, kSL1_ap, kSL0_ap, wp_slL, wp_evA0, kA1_ap, wp_evAv, kA2_ap, wp_evAio, kCall4_ap, kCall3_ap, kCall2_ap, kCall1_ap, wp_call, kK2_ap, kK1_ap, wp_callK, wp_nx, wp_bk, wp_ct, wp_no, kSeq_nx, kSeq_rt, kSeq_ro, kSeq_bk, kSeq_ct, wp_seq, kNx_ap, kExp_ap, kRt_ap, kRo_ap, wp_expr, wp_rt, wp_rtN, wp_ro, kAsg_ap, wp_asg, wp_asgO, kI3_ap, kI2_ap, kI1_ap, kI0b_ap, kI0_ap, wp_setIx, kM2_ap, kM1_ap, kM0_ap, wp_mt, kIt_ap, kIts_ap, wp_walkA, wp_range1, wp_range2, wp_range3, wp_zipM, wp_enumM, kFor_ap, wp_for, kTurn_nx, kTurn_ct, kTurn_bk, kTurn_rt, kTurn_ro, kElt_ap, kCond_t, kCond_f, wp_lc, endF_rt, endF_nx, endO_ro, kBody_ap, addD_i, addD_s, addD_t, addD_l, subD_i, mulD_i, modD_i, ltD_i, ltD_s, leD_i, gtD_i, geD_i, negD_i, isBD_b, isnBD_b, truD_b, truD_i, truD_n, truD_l, truD_t, lenD_l, lenD_t, lenD_s, intD_i, intD_b, absD_i, listD_l, listD_t, tupD_l, tupD_t, max2D_i, min2D_i, isiD_d, revD_l, slD_l, slD_t, itemsA_l, itemsA_t, itemsA_s, ixD_l, ixD_t, zpD_l, zpD_t, setT_t, setTr_t, setNs_0, setNs_1, setN_z, setN_s, setO_z, setO_s, atI_z, atI_1, atI_2, atI_3, atI_4, setIx_0, setIx_1, setIx_2, sumD_map, rg1_i, rg2_i, eqD_i, neD_i, isi_int_n, isi_int_b, isi_int_i, isi_int_s, isi_int_l, isi_int_t, isi_int_d, isi_bool_n, isi_bool_b, isi_bool_i, isi_bool_s, isi_bool_l, isi_bool_t, isi_bool_d, isi_str_n, isi_str_b, isi_str_i, isi_str_s, isi_str_l, isi_str_t, isi_str_d, isi_list_n, isi_list_b, isi_list_i, isi_list_s, isi_list_l, isi_list_t, isi_list_d, isi_tuple_n, isi_tuple_b, isi_tuple_i, isi_tuple_s, isi_tuple_l, isi_tuple_t, isi_tuple_d, isi_dict_n, isi_dict_b, isi_dict_i, isi_dict_s, isi_dict_l, isi_dict_t, isi_dict_d, notD_b, isNone_n, isNone_s, isNone_i, isNone_t, isNone_l, kPure_ap, pickD_1, pickD_2, pickD_3, pickD_4, appD_l, extD_l, List.getElem?_cons_zero, List.getElem?_cons_succ, List.set_cons_zero, List.set_cons_succ, initE, Option.map_some, List.replicate, posT, getO, fillA, putA, Bool.not_true, Bool.not_false, if_true, if_false, Bool.false_eq_true, Option.bind_some, wipeE, restE, reduceIte, List.length_cons, List.length_nil, fwp_mk, fwp_mko, Nat.reduceAdd, Nat.reduceSub, List.append_nil, List.nil_append, List.cons_append, List.reverse_cons, List.reverse_nil, Int.reduceLT, Int.reduceLE, Int.reduceAdd, Int.reduceMul, Int.reduceNeg, decide_true, decide_false, decide_eq_true_eq, Int.reduceEq, Option.map_none, and_self, and_true, true_and, Bool.true_and, Bool.false_and, Bool.or_true, Bool.or_false, List.isEmpty_nil, List.isEmpty_cons, List.getElem?_nil, Option.isSome_some, Int.cast_ofNat_Int, Bool.not_eq_true, Bool.and_true, Bool.and_self, Bool.true_or, Bool.false_or, Bool.and_false, Int.reduceSub, Int.natCast_zero, Int.reduceGT, Int.reduceGE, ne_eq, not_true_eq_false, not_false_eq_true, B_does_bear, np_eq hkk, hnp, nq_eq hkk hk, hnq, mulOk_l (i := 7) (j := h) (by omega), show 0 < 7 * h by omega, hd1, rowB, bearB, hago, hd2, hc1, divD_i (j := h) (by omega), does_fit_eq hd]
end Vk10
namespace Vk10
open PySem PySem.Spec PyProof.Rows L2 ZZ
def toldN (h : Int) (rows : List D) (kind : D) (tick : Int) (fs : List D) : Nat → D
  | 0 => .tuple [.str "free", .none]
  | k + 1 => match rows[k]? with
    | some r => if rowB h r kind tick fs = true then .tuple [wordD r, .int (k : Nat)] else toldN h rows kind tick fs k
    | none => .none
def dsc : Nat → List D
  | 0 => []
  | k + 1 => .int (k : Nat) :: dsc k
theorem dsc_rngC (n : Nat) : rngC ((n : Int) - 1) (-1) n = dsc n := by
  unfold rngC
  induction n with
  | zero => rfl
  | succ n ih =>
    rw [List.range_succ_eq_map, List.map_cons, List.map_map]
    show _ = _ :: dsc n
    rw [← ih]
    congr 1
    · congr 1; omega
    · apply List.map_congr_left
      intro i hi
      show PyData.int _ = PyData.int _
      congr 1
      push_cast
      omega
theorem dsc_rev (n : Nat) : (rng 0 n).reverse = dsc n := by
  unfold rng
  rw [show ((n : Int) - 0).toNat = n by omega]
  induction n with
  | zero => rfl
  | succ n ih =>
    rw [List.range_succ, List.map_append, List.reverse_append, ih]
    show _ :: _ = _ :: _
    congr 1
    simp
theorem rows_at {rows : List D} {k : Nat} (h : k < rows.length) : atI rows (k : Int) = some rows[k] := atI_lit k (List.getElem?_eq_getElem h)
theorem row_word {h : Int} {r : D} (hr : RowOk h r) : ixD r (.int 4) = some (wordD r) := by
  obtain ⟨b, e, dd, kk, ww, rfl, _⟩ := hr
  simp only [ixD_t, atI_4, wordD]
theorem told_at_eq {h tick : Int} {rows : List D} {kind : D} {fs : List Int} (hh : HoursOk h) (hl : rows.length ≤ 12) (hr : ∀ r ∈ rows, RowOk h r) (hk : KindOk kind) :
    F_told_at [.tuple [.int h, .tuple rows], kind, .int tick, .tuple (fs.map PyData.int)] = .ok (toldN h rows kind tick (fs.map PyData.int) rows.length) [] := by
  refine fo_eq ?_
  unfold F_told_at
  rw [fwp_mk]
  have hrg : rg3 [.int ((rows.length : Int) - 1), .int (-1), .int (-1)] = some (dsc rows.length) := by
    simp only [rg3, rOk_s (a := (rows.length : Int) - 1) (by omega), rOk_s (a := -1) (by omega), and_self, if_true]
    rw [show ((rows.length : Int) - 1 - -1).toNat = rows.length by omega, dsc_rngC]
  simp -implicitDefEqProofs only [owp_ok, fwp_ok, onS_s, onS_n, gR_f, gQ_f, gQ_o, gL_f, gL_o, gO_o, opL_op, wp_ret, kE_ap, kSet_ap, ifM_t, ifM_f, wp_vr, wp_vq, wp_vl, wp_vo, kBin2_ap, kBin1_ap, wp_bin, kUna_ap, wp_una, kBL2_ap, kBL1_ap, kBL0_ap, wp_binL, wp_seq0, kS2_ap, kS1_ap, wp_seq1, kTup_ap, wp_tup, kLst_ap, wp_lst, wp_seqP0, kP3_ap, kP2_ap, kP1_ap, wp_seqP1, wp_noX, kDsp_ap, wp_dsp, kBool_ap, wp_boolOf, kN_ap, kNN_ap, wp_isN, wp_isNN, kC4_ap, kC3_ap, wp_bl, kC2_ap, kC1_ap, wp_chn, kTru_ap, wp_truM, kNot_ap, wp_notM, kIf_ap, wp_andM, wp_orM, wp_ite, wp_if, kAndV2_ap, kAndV_ap, wp_andV, kOrV2_ap, kOrV_ap, wp_orV, kNotV2_ap, kNotV_ap, wp_notV, wp_part0, kPart_ap, wp_part1, kSl2_ap, kSl1_ap, kSl0_ap, wp_sl, kSL3_ap, kSL2_ap, kSL1_ap, kSL0_ap, wp_slL, wp_evA0, kA1_ap, wp_evAv, kA2_ap, wp_evAio, kCall4_ap, kCall3_ap, kCall2_ap, kCall1_ap, wp_call, kK2_ap, kK1_ap, wp_callK, wp_nx, wp_bk, wp_ct, wp_no, kSeq_nx, kSeq_rt, kSeq_ro, kSeq_bk, kSeq_ct, wp_seq, kNx_ap, kExp_ap, kRt_ap, kRo_ap, wp_expr, wp_rt, wp_rtN, wp_ro, kAsg_ap, wp_asg, wp_asgO, kI3_ap, kI2_ap, kI1_ap, kI0b_ap, kI0_ap, wp_setIx, kM2_ap, kM1_ap, kM0_ap, wp_mt, kIt_ap, kIts_ap, wp_walkA, wp_range1, wp_range2, wp_range3, wp_zipM, wp_enumM, kFor_ap, wp_for, kTurn_nx, kTurn_ct, kTurn_bk, kTurn_rt, kTurn_ro, kElt_ap, kCond_t, kCond_f, wp_lc, endF_rt, endF_nx, endO_ro, kBody_ap, addD_i, addD_s, addD_t, addD_l, subD_i, mulD_i, modD_i, ltD_i, ltD_s, leD_i, gtD_i, geD_i, negD_i, isBD_b, isnBD_b, truD_b, truD_i, truD_n, truD_l, truD_t, lenD_l, lenD_t, lenD_s, intD_i, intD_b, absD_i, listD_l, listD_t, tupD_l, tupD_t, max2D_i, min2D_i, isiD_d, revD_l, slD_l, slD_t, itemsA_l, itemsA_t, itemsA_s, ixD_l, ixD_t, zpD_l, zpD_t, setT_t, setTr_t, setNs_0, setNs_1, setN_z, setN_s, setO_z, setO_s, atI_z, atI_1, atI_2, atI_3, atI_4, setIx_0, setIx_1, setIx_2, sumD_map, rg1_i, rg2_i, eqD_i, neD_i, isi_int_n, isi_int_b, isi_int_i, isi_int_s, isi_int_l, isi_int_t, isi_int_d, isi_bool_n, isi_bool_b, isi_bool_i, isi_bool_s, isi_bool_l, isi_bool_t, isi_bool_d, isi_str_n, isi_str_b, isi_str_i, isi_str_s, isi_str_l, isi_str_t, isi_str_d, isi_list_n, isi_list_b, isi_list_i, isi_list_s, isi_list_l, isi_list_t, isi_list_d, isi_tuple_n, isi_tuple_b, isi_tuple_i, isi_tuple_s, isi_tuple_l, isi_tuple_t, isi_tuple_d, isi_dict_n, isi_dict_b, isi_dict_i, isi_dict_s, isi_dict_l, isi_dict_t, isi_dict_d, notD_b, isNone_n, isNone_s, isNone_i, isNone_t, isNone_l, kPure_ap, pickD_1, pickD_2, pickD_3, pickD_4, appD_l, extD_l, List.getElem?_cons_zero, List.getElem?_cons_succ, List.set_cons_zero, List.set_cons_succ, initE, Option.map_some, List.replicate, posT, getO, fillA, putA, Bool.not_true, Bool.not_false, if_true, if_false, Bool.false_eq_true, Option.bind_some, wipeE, restE, reduceIte, List.length_cons, List.length_nil, fwp_mk, fwp_mko, Nat.reduceAdd, Nat.reduceSub, List.append_nil, List.nil_append, List.cons_append, List.reverse_cons, List.reverse_nil, Int.reduceLT, Int.reduceLE, Int.reduceAdd, Int.reduceMul, Int.reduceNeg, decide_true, decide_false, decide_eq_true_eq, Int.reduceEq, Option.map_none, and_self, and_true, true_and, Bool.true_and, Bool.false_and, Bool.or_true, Bool.or_false, List.isEmpty_nil, List.isEmpty_cons, List.getElem?_nil, Option.isSome_some, Int.cast_ofNat_Int, Bool.not_eq_true, Bool.and_true, Bool.and_self, Bool.true_or, Bool.false_or, Bool.and_false, Int.reduceSub, Int.natCast_zero, Int.reduceGT, Int.reduceGE, ne_eq, not_true_eq_false, not_false_eq_true, B_told_at, hrg]
  refine wp_forL (fun ds e => ∃ (k : Nat) (s : Sl), k ≤ rows.length ∧ ds = dsc k ∧ e = [.fz (.tuple [.int h, .tuple rows]), .fz kind, .fz (.int tick), .fz (.tuple (fs.map PyData.int)), .fz (.int h), .fz (.tuple rows), s] ∧ toldN h rows kind tick (fs.map PyData.int) k = toldN h rows kind tick (fs.map PyData.int) rows.length) ?_ ?_ _ _ ⟨_, _, Nat.le_refl _, rfl, rfl, rfl⟩
  · rintro d rest _ ⟨k, s, hkl, hd, rfl, ht⟩
    cases k with
    | zero => cases hd
    | succ k =>
      cases hd
      have hlt : k < rows.length := by omega
      have hrow := hr rows[k] (List.getElem_mem hlt)
      have htold : toldN h rows kind tick (fs.map PyData.int) (k + 1) = if rowB h rows[k] kind tick (fs.map PyData.int) = true then .tuple [wordD rows[k], .int (k : Nat)] else toldN h rows kind tick (fs.map PyData.int) k := by
        simp only [toldN, List.getElem?_eq_getElem hlt]
      simp -implicitDefEqProofs only [owp_ok, fwp_ok, onS_s, onS_n, gR_f, gQ_f, gQ_o, gL_f, gL_o, gO_o, opL_op, wp_ret, kE_ap, kSet_ap, ifM_t, ifM_f, wp_vr, wp_vq, wp_vl, wp_vo, kBin2_ap, kBin1_ap, wp_bin, kUna_ap, wp_una, kBL2_ap, kBL1_ap, kBL0_ap, wp_binL, wp_seq0, kS2_ap, kS1_ap, wp_seq1, kTup_ap, wp_tup, kLst_ap, wp_lst, wp_seqP0, kP3_ap, kP2_ap, kP1_ap, wp_seqP1, wp_noX, kDsp_ap, wp_dsp, kBool_ap, wp_boolOf, kN_ap, kNN_ap, wp_isN, wp_isNN, kC4_ap, kC3_ap, wp_bl, kC2_ap, kC1_ap, wp_chn, kTru_ap, wp_truM, kNot_ap, wp_notM, kIf_ap, wp_andM, wp_orM, wp_ite, wp_if, kAndV2_ap, kAndV_ap, wp_andV, kOrV2_ap, kOrV_ap, wp_orV, kNotV2_ap, kNotV_ap, wp_notV, wp_part0, kPart_ap, wp_part1, kSl2_ap, kSl1_ap, kSl0_ap, wp_sl, kSL3_ap, kSL2_ap, kSL1_ap, kSL0_ap, wp_slL, wp_evA0, kA1_ap, wp_evAv, kA2_ap, wp_evAio, kCall4_ap, kCall3_ap, kCall2_ap, kCall1_ap, wp_call, kK2_ap, kK1_ap, wp_callK, wp_nx, wp_bk, wp_ct, wp_no, kSeq_nx, kSeq_rt, kSeq_ro, kSeq_bk, kSeq_ct, wp_seq, kNx_ap, kExp_ap, kRt_ap, kRo_ap, wp_expr, wp_rt, wp_rtN, wp_ro, kAsg_ap, wp_asg, wp_asgO, kI3_ap, kI2_ap, kI1_ap, kI0b_ap, kI0_ap, wp_setIx, kM2_ap, kM1_ap, kM0_ap, wp_mt, kIt_ap, kIts_ap, wp_walkA, wp_range1, wp_range2, wp_range3, wp_zipM, wp_enumM, kFor_ap, wp_for, kTurn_nx, kTurn_ct, kTurn_bk, kTurn_rt, kTurn_ro, kElt_ap, kCond_t, kCond_f, wp_lc, endF_rt, endF_nx, endO_ro, kBody_ap, addD_i, addD_s, addD_t, addD_l, subD_i, mulD_i, modD_i, ltD_i, ltD_s, leD_i, gtD_i, geD_i, negD_i, isBD_b, isnBD_b, truD_b, truD_i, truD_n, truD_l, truD_t, lenD_l, lenD_t, lenD_s, intD_i, intD_b, absD_i, listD_l, listD_t, tupD_l, tupD_t, max2D_i, min2D_i, isiD_d, revD_l, slD_l, slD_t, itemsA_l, itemsA_t, itemsA_s, ixD_l, ixD_t, zpD_l, zpD_t, setT_t, setTr_t, setNs_0, setNs_1, setN_z, setN_s, setO_z, setO_s, atI_z, atI_1, atI_2, atI_3, atI_4, setIx_0, setIx_1, setIx_2, sumD_map, rg1_i, rg2_i, eqD_i, neD_i, isi_int_n, isi_int_b, isi_int_i, isi_int_s, isi_int_l, isi_int_t, isi_int_d, isi_bool_n, isi_bool_b, isi_bool_i, isi_bool_s, isi_bool_l, isi_bool_t, isi_bool_d, isi_str_n, isi_str_b, isi_str_i, isi_str_s, isi_str_l, isi_str_t, isi_str_d, isi_list_n, isi_list_b, isi_list_i, isi_list_s, isi_list_l, isi_list_t, isi_list_d, isi_tuple_n, isi_tuple_b, isi_tuple_i, isi_tuple_s, isi_tuple_l, isi_tuple_t, isi_tuple_d, isi_dict_n, isi_dict_b, isi_dict_i, isi_dict_s, isi_dict_l, isi_dict_t, isi_dict_d, notD_b, isNone_n, isNone_s, isNone_i, isNone_t, isNone_l, kPure_ap, pickD_1, pickD_2, pickD_3, pickD_4, appD_l, extD_l, List.getElem?_cons_zero, List.getElem?_cons_succ, List.set_cons_zero, List.set_cons_succ, initE, Option.map_some, List.replicate, posT, getO, fillA, putA, Bool.not_true, Bool.not_false, if_true, if_false, Bool.false_eq_true, Option.bind_some, wipeE, restE, reduceIte, List.length_cons, List.length_nil, fwp_mk, fwp_mko, Nat.reduceAdd, Nat.reduceSub, List.append_nil, List.nil_append, List.cons_append, List.reverse_cons, List.reverse_nil, Int.reduceLT, Int.reduceLE, Int.reduceAdd, Int.reduceMul, Int.reduceNeg, decide_true, decide_false, decide_eq_true_eq, Int.reduceEq, Option.map_none, and_self, and_true, true_and, Bool.true_and, Bool.false_and, Bool.or_true, Bool.or_false, List.isEmpty_nil, List.isEmpty_cons, List.getElem?_nil, Option.isSome_some, Int.cast_ofNat_Int, Bool.not_eq_true, Bool.and_true, Bool.and_self, Bool.true_or, Bool.false_or, Bool.and_false, Int.reduceSub, Int.natCast_zero, Int.reduceGT, Int.reduceGE, ne_eq, not_true_eq_false, not_false_eq_true, rows_at hlt, bear_eq hh hrow hk]
      cases hb : rowB h rows[k] kind tick (fs.map PyData.int) with
      | true =>
        rw [hb, if_pos rfl] at htold
        simp -implicitDefEqProofs only [owp_ok, fwp_ok, onS_s, onS_n, gR_f, gQ_f, gQ_o, gL_f, gL_o, gO_o, opL_op, wp_ret, kE_ap, kSet_ap, ifM_t, ifM_f, wp_vr, wp_vq, wp_vl, wp_vo, kBin2_ap, kBin1_ap, wp_bin, kUna_ap, wp_una, kBL2_ap, kBL1_ap, kBL0_ap, wp_binL, wp_seq0, kS2_ap, kS1_ap, wp_seq1, kTup_ap, wp_tup, kLst_ap, wp_lst, wp_seqP0, kP3_ap, kP2_ap, kP1_ap, wp_seqP1, wp_noX, kDsp_ap, wp_dsp, kBool_ap, wp_boolOf, kN_ap, kNN_ap, wp_isN, wp_isNN, kC4_ap, kC3_ap, wp_bl, kC2_ap, kC1_ap, wp_chn, kTru_ap, wp_truM, kNot_ap, wp_notM, kIf_ap, wp_andM, wp_orM, wp_ite, wp_if, kAndV2_ap, kAndV_ap, wp_andV, kOrV2_ap, kOrV_ap, wp_orV, kNotV2_ap, kNotV_ap, wp_notV, wp_part0, kPart_ap, wp_part1, kSl2_ap, kSl1_ap, kSl0_ap, wp_sl, kSL3_ap, kSL2_ap, kSL1_ap, kSL0_ap, wp_slL, wp_evA0, kA1_ap, wp_evAv, kA2_ap, wp_evAio, kCall4_ap, kCall3_ap, kCall2_ap, kCall1_ap, wp_call, kK2_ap, kK1_ap, wp_callK, wp_nx, wp_bk, wp_ct, wp_no, kSeq_nx, kSeq_rt, kSeq_ro, kSeq_bk, kSeq_ct, wp_seq, kNx_ap, kExp_ap, kRt_ap, kRo_ap, wp_expr, wp_rt, wp_rtN, wp_ro, kAsg_ap, wp_asg, wp_asgO, kI3_ap, kI2_ap, kI1_ap, kI0b_ap, kI0_ap, wp_setIx, kM2_ap, kM1_ap, kM0_ap, wp_mt, kIt_ap, kIts_ap, wp_walkA, wp_range1, wp_range2, wp_range3, wp_zipM, wp_enumM, kFor_ap, wp_for, kTurn_nx, kTurn_ct, kTurn_bk, kTurn_rt, kTurn_ro, kElt_ap, kCond_t, kCond_f, wp_lc, endF_rt, endF_nx, endO_ro, kBody_ap, addD_i, addD_s, addD_t, addD_l, subD_i, mulD_i, modD_i, ltD_i, ltD_s, leD_i, gtD_i, geD_i, negD_i, isBD_b, isnBD_b, truD_b, truD_i, truD_n, truD_l, truD_t, lenD_l, lenD_t, lenD_s, intD_i, intD_b, absD_i, listD_l, listD_t, tupD_l, tupD_t, max2D_i, min2D_i, isiD_d, revD_l, slD_l, slD_t, itemsA_l, itemsA_t, itemsA_s, ixD_l, ixD_t, zpD_l, zpD_t, setT_t, setTr_t, setNs_0, setNs_1, setN_z, setN_s, setO_z, setO_s, atI_z, atI_1, atI_2, atI_3, atI_4, setIx_0, setIx_1, setIx_2, sumD_map, rg1_i, rg2_i, eqD_i, neD_i, isi_int_n, isi_int_b, isi_int_i, isi_int_s, isi_int_l, isi_int_t, isi_int_d, isi_bool_n, isi_bool_b, isi_bool_i, isi_bool_s, isi_bool_l, isi_bool_t, isi_bool_d, isi_str_n, isi_str_b, isi_str_i, isi_str_s, isi_str_l, isi_str_t, isi_str_d, isi_list_n, isi_list_b, isi_list_i, isi_list_s, isi_list_l, isi_list_t, isi_list_d, isi_tuple_n, isi_tuple_b, isi_tuple_i, isi_tuple_s, isi_tuple_l, isi_tuple_t, isi_tuple_d, isi_dict_n, isi_dict_b, isi_dict_i, isi_dict_s, isi_dict_l, isi_dict_t, isi_dict_d, notD_b, isNone_n, isNone_s, isNone_i, isNone_t, isNone_l, kPure_ap, pickD_1, pickD_2, pickD_3, pickD_4, appD_l, extD_l, List.getElem?_cons_zero, List.getElem?_cons_succ, List.set_cons_zero, List.set_cons_succ, initE, Option.map_some, List.replicate, posT, getO, fillA, putA, Bool.not_true, Bool.not_false, if_true, if_false, Bool.false_eq_true, Option.bind_some, wipeE, restE, reduceIte, List.length_cons, List.length_nil, fwp_mk, fwp_mko, Nat.reduceAdd, Nat.reduceSub, List.append_nil, List.nil_append, List.cons_append, List.reverse_cons, List.reverse_nil, Int.reduceLT, Int.reduceLE, Int.reduceAdd, Int.reduceMul, Int.reduceNeg, decide_true, decide_false, decide_eq_true_eq, Int.reduceEq, Option.map_none, and_self, and_true, true_and, Bool.true_and, Bool.false_and, Bool.or_true, Bool.or_false, List.isEmpty_nil, List.isEmpty_cons, List.getElem?_nil, Option.isSome_some, Int.cast_ofNat_Int, Bool.not_eq_true, Bool.and_true, Bool.and_self, Bool.true_or, Bool.false_or, Bool.and_false, Int.reduceSub, Int.natCast_zero, Int.reduceGT, Int.reduceGE, ne_eq, not_true_eq_false, not_false_eq_true, rows_at hlt, row_word hrow, kTurn_rt]
        rw [← ht, htold]
      | false =>
        rw [hb, if_neg Bool.false_ne_true] at htold
        simp -implicitDefEqProofs only [owp_ok, fwp_ok, onS_s, onS_n, gR_f, gQ_f, gQ_o, gL_f, gL_o, gO_o, opL_op, wp_ret, kE_ap, kSet_ap, ifM_t, ifM_f, wp_vr, wp_vq, wp_vl, wp_vo, kBin2_ap, kBin1_ap, wp_bin, kUna_ap, wp_una, kBL2_ap, kBL1_ap, kBL0_ap, wp_binL, wp_seq0, kS2_ap, kS1_ap, wp_seq1, kTup_ap, wp_tup, kLst_ap, wp_lst, wp_seqP0, kP3_ap, kP2_ap, kP1_ap, wp_seqP1, wp_noX, kDsp_ap, wp_dsp, kBool_ap, wp_boolOf, kN_ap, kNN_ap, wp_isN, wp_isNN, kC4_ap, kC3_ap, wp_bl, kC2_ap, kC1_ap, wp_chn, kTru_ap, wp_truM, kNot_ap, wp_notM, kIf_ap, wp_andM, wp_orM, wp_ite, wp_if, kAndV2_ap, kAndV_ap, wp_andV, kOrV2_ap, kOrV_ap, wp_orV, kNotV2_ap, kNotV_ap, wp_notV, wp_part0, kPart_ap, wp_part1, kSl2_ap, kSl1_ap, kSl0_ap, wp_sl, kSL3_ap, kSL2_ap, kSL1_ap, kSL0_ap, wp_slL, wp_evA0, kA1_ap, wp_evAv, kA2_ap, wp_evAio, kCall4_ap, kCall3_ap, kCall2_ap, kCall1_ap, wp_call, kK2_ap, kK1_ap, wp_callK, wp_nx, wp_bk, wp_ct, wp_no, kSeq_nx, kSeq_rt, kSeq_ro, kSeq_bk, kSeq_ct, wp_seq, kNx_ap, kExp_ap, kRt_ap, kRo_ap, wp_expr, wp_rt, wp_rtN, wp_ro, kAsg_ap, wp_asg, wp_asgO, kI3_ap, kI2_ap, kI1_ap, kI0b_ap, kI0_ap, wp_setIx, kM2_ap, kM1_ap, kM0_ap, wp_mt, kIt_ap, kIts_ap, wp_walkA, wp_range1, wp_range2, wp_range3, wp_zipM, wp_enumM, kFor_ap, wp_for, kTurn_nx, kTurn_ct, kTurn_bk, kTurn_rt, kTurn_ro, kElt_ap, kCond_t, kCond_f, wp_lc, endF_rt, endF_nx, endO_ro, kBody_ap, addD_i, addD_s, addD_t, addD_l, subD_i, mulD_i, modD_i, ltD_i, ltD_s, leD_i, gtD_i, geD_i, negD_i, isBD_b, isnBD_b, truD_b, truD_i, truD_n, truD_l, truD_t, lenD_l, lenD_t, lenD_s, intD_i, intD_b, absD_i, listD_l, listD_t, tupD_l, tupD_t, max2D_i, min2D_i, isiD_d, revD_l, slD_l, slD_t, itemsA_l, itemsA_t, itemsA_s, ixD_l, ixD_t, zpD_l, zpD_t, setT_t, setTr_t, setNs_0, setNs_1, setN_z, setN_s, setO_z, setO_s, atI_z, atI_1, atI_2, atI_3, atI_4, setIx_0, setIx_1, setIx_2, sumD_map, rg1_i, rg2_i, eqD_i, neD_i, isi_int_n, isi_int_b, isi_int_i, isi_int_s, isi_int_l, isi_int_t, isi_int_d, isi_bool_n, isi_bool_b, isi_bool_i, isi_bool_s, isi_bool_l, isi_bool_t, isi_bool_d, isi_str_n, isi_str_b, isi_str_i, isi_str_s, isi_str_l, isi_str_t, isi_str_d, isi_list_n, isi_list_b, isi_list_i, isi_list_s, isi_list_l, isi_list_t, isi_list_d, isi_tuple_n, isi_tuple_b, isi_tuple_i, isi_tuple_s, isi_tuple_l, isi_tuple_t, isi_tuple_d, isi_dict_n, isi_dict_b, isi_dict_i, isi_dict_s, isi_dict_l, isi_dict_t, isi_dict_d, notD_b, isNone_n, isNone_s, isNone_i, isNone_t, isNone_l, kPure_ap, pickD_1, pickD_2, pickD_3, pickD_4, appD_l, extD_l, List.getElem?_cons_zero, List.getElem?_cons_succ, List.set_cons_zero, List.set_cons_succ, initE, Option.map_some, List.replicate, posT, getO, fillA, putA, Bool.not_true, Bool.not_false, if_true, if_false, Bool.false_eq_true, Option.bind_some, wipeE, restE, reduceIte, List.length_cons, List.length_nil, fwp_mk, fwp_mko, Nat.reduceAdd, Nat.reduceSub, List.append_nil, List.nil_append, List.cons_append, List.reverse_cons, List.reverse_nil, Int.reduceLT, Int.reduceLE, Int.reduceAdd, Int.reduceMul, Int.reduceNeg, decide_true, decide_false, decide_eq_true_eq, Int.reduceEq, Option.map_none, and_self, and_true, true_and, Bool.true_and, Bool.false_and, Bool.or_true, Bool.or_false, List.isEmpty_nil, List.isEmpty_cons, List.getElem?_nil, Option.isSome_some, Int.cast_ofNat_Int, Bool.not_eq_true, Bool.and_true, Bool.and_self, Bool.true_or, Bool.false_or, Bool.and_false, Int.reduceSub, Int.natCast_zero, Int.reduceGT, Int.reduceGE, ne_eq, not_true_eq_false, not_false_eq_true, kTurn_nx]
        exact ⟨k, _, by omega, rfl, rfl, by rw [← htold, ht]⟩
  · rintro _ ⟨k, s, hkl, hd, rfl, ht⟩
    cases k with
    | succ k => cases hd
    | zero =>
      simp -implicitDefEqProofs only [owp_ok, fwp_ok, onS_s, onS_n, gR_f, gQ_f, gQ_o, gL_f, gL_o, gO_o, opL_op, wp_ret, kE_ap, kSet_ap, ifM_t, ifM_f, wp_vr, wp_vq, wp_vl, wp_vo, kBin2_ap, kBin1_ap, wp_bin, kUna_ap, wp_una, kBL2_ap, kBL1_ap, kBL0_ap, wp_binL, wp_seq0, kS2_ap, kS1_ap, wp_seq1, kTup_ap, wp_tup, kLst_ap, wp_lst, wp_seqP0, kP3_ap, kP2_ap, kP1_ap, wp_seqP1, wp_noX, kDsp_ap, wp_dsp, kBool_ap, wp_boolOf, kN_ap, kNN_ap, wp_isN, wp_isNN, kC4_ap, kC3_ap, wp_bl, kC2_ap, kC1_ap, wp_chn, kTru_ap, wp_truM, kNot_ap, wp_notM, kIf_ap, wp_andM, wp_orM, wp_ite, wp_if, kAndV2_ap, kAndV_ap, wp_andV, kOrV2_ap, kOrV_ap, wp_orV, kNotV2_ap, kNotV_ap, wp_notV, wp_part0, kPart_ap, wp_part1, kSl2_ap, kSl1_ap, kSl0_ap, wp_sl, kSL3_ap, kSL2_ap, kSL1_ap, kSL0_ap, wp_slL, wp_evA0, kA1_ap, wp_evAv, kA2_ap, wp_evAio, kCall4_ap, kCall3_ap, kCall2_ap, kCall1_ap, wp_call, kK2_ap, kK1_ap, wp_callK, wp_nx, wp_bk, wp_ct, wp_no, kSeq_nx, kSeq_rt, kSeq_ro, kSeq_bk, kSeq_ct, wp_seq, kNx_ap, kExp_ap, kRt_ap, kRo_ap, wp_expr, wp_rt, wp_rtN, wp_ro, kAsg_ap, wp_asg, wp_asgO, kI3_ap, kI2_ap, kI1_ap, kI0b_ap, kI0_ap, wp_setIx, kM2_ap, kM1_ap, kM0_ap, wp_mt, kIt_ap, kIts_ap, wp_walkA, wp_range1, wp_range2, wp_range3, wp_zipM, wp_enumM, kFor_ap, wp_for, kTurn_nx, kTurn_ct, kTurn_bk, kTurn_rt, kTurn_ro, kElt_ap, kCond_t, kCond_f, wp_lc, endF_rt, endF_nx, endO_ro, kBody_ap, addD_i, addD_s, addD_t, addD_l, subD_i, mulD_i, modD_i, ltD_i, ltD_s, leD_i, gtD_i, geD_i, negD_i, isBD_b, isnBD_b, truD_b, truD_i, truD_n, truD_l, truD_t, lenD_l, lenD_t, lenD_s, intD_i, intD_b, absD_i, listD_l, listD_t, tupD_l, tupD_t, max2D_i, min2D_i, isiD_d, revD_l, slD_l, slD_t, itemsA_l, itemsA_t, itemsA_s, ixD_l, ixD_t, zpD_l, zpD_t, setT_t, setTr_t, setNs_0, setNs_1, setN_z, setN_s, setO_z, setO_s, atI_z, atI_1, atI_2, atI_3, atI_4, setIx_0, setIx_1, setIx_2, sumD_map, rg1_i, rg2_i, eqD_i, neD_i, isi_int_n, isi_int_b, isi_int_i, isi_int_s, isi_int_l, isi_int_t, isi_int_d, isi_bool_n, isi_bool_b, isi_bool_i, isi_bool_s, isi_bool_l, isi_bool_t, isi_bool_d, isi_str_n, isi_str_b, isi_str_i, isi_str_s, isi_str_l, isi_str_t, isi_str_d, isi_list_n, isi_list_b, isi_list_i, isi_list_s, isi_list_l, isi_list_t, isi_list_d, isi_tuple_n, isi_tuple_b, isi_tuple_i, isi_tuple_s, isi_tuple_l, isi_tuple_t, isi_tuple_d, isi_dict_n, isi_dict_b, isi_dict_i, isi_dict_s, isi_dict_l, isi_dict_t, isi_dict_d, notD_b, isNone_n, isNone_s, isNone_i, isNone_t, isNone_l, kPure_ap, pickD_1, pickD_2, pickD_3, pickD_4, appD_l, extD_l, List.getElem?_cons_zero, List.getElem?_cons_succ, List.set_cons_zero, List.set_cons_succ, initE, Option.map_some, List.replicate, posT, getO, fillA, putA, Bool.not_true, Bool.not_false, if_true, if_false, Bool.false_eq_true, Option.bind_some, wipeE, restE, reduceIte, List.length_cons, List.length_nil, fwp_mk, fwp_mko, Nat.reduceAdd, Nat.reduceSub, List.append_nil, List.nil_append, List.cons_append, List.reverse_cons, List.reverse_nil, Int.reduceLT, Int.reduceLE, Int.reduceAdd, Int.reduceMul, Int.reduceNeg, decide_true, decide_false, decide_eq_true_eq, Int.reduceEq, Option.map_none, and_self, and_true, true_and, Bool.true_and, Bool.false_and, Bool.or_true, Bool.or_false, List.isEmpty_nil, List.isEmpty_cons, List.getElem?_nil, Option.isSome_some, Int.cast_ofNat_Int, Bool.not_eq_true, Bool.and_true, Bool.and_self, Bool.true_or, Bool.false_or, Bool.and_false, Int.reduceSub, Int.natCast_zero, Int.reduceGT, Int.reduceGE, ne_eq, not_true_eq_false, not_false_eq_true]
      rw [← ht]; rfl
end Vk10

namespace Vk10
open PySem PySem.Spec PyProof.Rows L2 ZZ
theorem fits_dict (a b c d : D) : dspD [(.str "any", a), (.str "plain", b), (.str "feast", c), (.str "eve", d)] = some (.dict [(.str "any", a), (.str "plain", b), (.str "feast", c), (.str "eve", d)]) := by
  rfl
def fitV (dd : D) (x y : Bool) : Bool := if strI dd "plain" then !x else if strI dd "feast" then x else strI dd "any" || y
theorem fit_ix {dd : D} (hd : DaysOk dd) (x y : Bool) : ixD (.dict [(.str "any", .bool true), (.str "plain", .bool !x), (.str "feast", .bool x), (.str "eve", .bool y)]) dd = some (.bool (fitV dd x y)) := by
  rcases hd with rfl | rfl | rfl | rfl <;> cases x <;> cases y <;> exact of_bIs (by decide +kernel)
theorem fitB_eq (dd : D) (day : Int) (fs : List D) : fitB dd day fs = fitV dd (hasD fs (.int day)) (hasD fs (.int (day + 1))) := rfl
theorem law_told_eq {h tick : Int} {rows : List D} {kind : D} {fs : List Int} (hh : HoursOk h) (hl : rows.length ≤ 12) (hr : ∀ r ∈ rows, RowOk h r) (hk : KindOk kind) :
    F__law_told [.tuple [.int h, .tuple rows], kind, .int tick, .tuple (fs.map PyData.int)] = .ok (toldN h rows kind tick (fs.map PyData.int) rows.length) [] := by
  refine fo_eq ?_
  unfold F__law_told
  rw [fwp_mk]
  simp -implicitDefEqProofs only [owp_ok, fwp_ok, onS_s, onS_n, gR_f, gQ_f, gQ_o, gL_f, gL_o, gO_o, opL_op, wp_ret, kE_ap, kSet_ap, ifM_t, ifM_f, wp_vr, wp_vq, wp_vl, wp_vo, kBin2_ap, kBin1_ap, wp_bin, kUna_ap, wp_una, kBL2_ap, kBL1_ap, kBL0_ap, wp_binL, wp_seq0, kS2_ap, kS1_ap, wp_seq1, kTup_ap, wp_tup, kLst_ap, wp_lst, wp_seqP0, kP3_ap, kP2_ap, kP1_ap, wp_seqP1, wp_noX, kDsp_ap, wp_dsp, kBool_ap, wp_boolOf, kN_ap, kNN_ap, wp_isN, wp_isNN, kC4_ap, kC3_ap, wp_bl, kC2_ap, kC1_ap, wp_chn, kTru_ap, wp_truM, kNot_ap, wp_notM, kIf_ap, wp_andM, wp_orM, wp_ite, wp_if, kAndV2_ap, kAndV_ap, wp_andV, kOrV2_ap, kOrV_ap, wp_orV, kNotV2_ap, kNotV_ap, wp_notV, wp_part0, kPart_ap, wp_part1, kSl2_ap, kSl1_ap, kSl0_ap, wp_sl, kSL3_ap, kSL2_ap, kSL1_ap, kSL0_ap, wp_slL, wp_evA0, kA1_ap, wp_evAv, kA2_ap, wp_evAio, kCall4_ap, kCall3_ap, kCall2_ap, kCall1_ap, wp_call, kK2_ap, kK1_ap, wp_callK, wp_nx, wp_bk, wp_ct, wp_no, kSeq_nx, kSeq_rt, kSeq_ro, kSeq_bk, kSeq_ct, wp_seq, kNx_ap, kExp_ap, kRt_ap, kRo_ap, wp_expr, wp_rt, wp_rtN, wp_ro, kAsg_ap, wp_asg, wp_asgO, kI3_ap, kI2_ap, kI1_ap, kI0b_ap, kI0_ap, wp_setIx, kM2_ap, kM1_ap, kM0_ap, wp_mt, kIt_ap, kIts_ap, wp_walkA, wp_range1, wp_range2, wp_range3, wp_zipM, wp_enumM, kFor_ap, wp_for, kTurn_nx, kTurn_ct, kTurn_bk, kTurn_rt, kTurn_ro, kElt_ap, kCond_t, kCond_f, wp_lc, endF_rt, endF_nx, endO_ro, kBody_ap, addD_i, addD_s, addD_t, addD_l, subD_i, mulD_i, modD_i, ltD_i, ltD_s, leD_i, gtD_i, geD_i, negD_i, isBD_b, isnBD_b, truD_b, truD_i, truD_n, truD_l, truD_t, lenD_l, lenD_t, lenD_s, intD_i, intD_b, absD_i, listD_l, listD_t, tupD_l, tupD_t, max2D_i, min2D_i, isiD_d, revD_l, slD_l, slD_t, itemsA_l, itemsA_t, itemsA_s, ixD_l, ixD_t, zpD_l, zpD_t, setT_t, setTr_t, setNs_0, setNs_1, setN_z, setN_s, setO_z, setO_s, atI_z, atI_1, atI_2, atI_3, atI_4, setIx_0, setIx_1, setIx_2, sumD_map, rg1_i, rg2_i, eqD_i, neD_i, isi_int_n, isi_int_b, isi_int_i, isi_int_s, isi_int_l, isi_int_t, isi_int_d, isi_bool_n, isi_bool_b, isi_bool_i, isi_bool_s, isi_bool_l, isi_bool_t, isi_bool_d, isi_str_n, isi_str_b, isi_str_i, isi_str_s, isi_str_l, isi_str_t, isi_str_d, isi_list_n, isi_list_b, isi_list_i, isi_list_s, isi_list_l, isi_list_t, isi_list_d, isi_tuple_n, isi_tuple_b, isi_tuple_i, isi_tuple_s, isi_tuple_l, isi_tuple_t, isi_tuple_d, isi_dict_n, isi_dict_b, isi_dict_i, isi_dict_s, isi_dict_l, isi_dict_t, isi_dict_d, notD_b, isNone_n, isNone_s, isNone_i, isNone_t, isNone_l, kPure_ap, pickD_1, pickD_2, pickD_3, pickD_4, appD_l, extD_l, List.getElem?_cons_zero, List.getElem?_cons_succ, List.set_cons_zero, List.set_cons_succ, initE, Option.map_some, List.replicate, posT, getO, fillA, putA, Bool.not_true, Bool.not_false, if_true, if_false, Bool.false_eq_true, Option.bind_some, wipeE, restE, reduceIte, List.length_cons, List.length_nil, fwp_mk, fwp_mko, Nat.reduceAdd, Nat.reduceSub, List.append_nil, List.nil_append, List.cons_append, List.reverse_cons, List.reverse_nil, Int.reduceLT, Int.reduceLE, Int.reduceAdd, Int.reduceMul, Int.reduceNeg, decide_true, decide_false, decide_eq_true_eq, Int.reduceEq, Option.map_none, and_self, and_true, true_and, Bool.true_and, Bool.false_and, Bool.or_true, Bool.or_false, List.isEmpty_nil, List.isEmpty_cons, List.getElem?_nil, Option.isSome_some, Int.cast_ofNat_Int, Bool.not_eq_true, Bool.and_true, Bool.and_self, Bool.true_or, Bool.false_or, Bool.and_false, Int.reduceSub, Int.natCast_zero, Int.reduceGT, Int.reduceGE, ne_eq, not_true_eq_false, not_false_eq_true, B__law_told, lrgD_s PyData.list (a := 0) (b := rows.length) (by omega), dsc_rev]
  refine wp_forL (fun ds e => ∃ (k : Nat) (s6 s7 s8 s9 s10 s11 s12 s13 s14 : Sl), k ≤ rows.length ∧ ds = dsc k ∧ e = [.fz (.tuple [.int h, .tuple rows]), .fz kind, .fz (.int tick), .fz (.tuple (fs.map PyData.int)), .fz (.int h), .fz (.tuple rows), s6, s7, s8, s9, s10, s11, s12, s13, s14] ∧ toldN h rows kind tick (fs.map PyData.int) k = toldN h rows kind tick (fs.map PyData.int) rows.length) ?_ ?_ _ _ ⟨_, _, _, _, _, _, _, _, _, _, Nat.le_refl _, rfl, rfl, rfl⟩
  · rintro d rest _ ⟨k, s6, s7, s8, s9, s10, s11, s12, s13, s14, hkl, hd, rfl, ht⟩
    cases k with
    | zero => cases hd
    | succ k =>
      cases hd
      have hlt : k < rows.length := by omega
      have hrow := hr rows[k] (List.getElem_mem hlt)
      have htold : toldN h rows kind tick (fs.map PyData.int) (k + 1) = if rowB h rows[k] kind tick (fs.map PyData.int) = true then .tuple [wordD rows[k], .int (k : Nat)] else toldN h rows kind tick (fs.map PyData.int) k := by
        simp only [toldN, List.getElem?_eq_getElem hlt]
      rw [ht] at htold
      have hat := rows_at hlt
      have hb := hours_b hh
      revert hrow hat htold
      generalize rows[k] = r
      intro hrow htold hat
      obtain ⟨b, e, dd, kk, ww, rfl, b0, b1, e0, e1, be, hd, hkk, hw⟩ := hrow
      have hnext : rowB h (.tuple [.int b, .int e, dd, kk, ww]) kind tick (fs.map PyData.int) = false → toldN h rows kind tick (fs.map PyData.int) k = toldN h rows kind tick (fs.map PyData.int) rows.length := fun z => by
        rw [z, if_neg Bool.false_ne_true] at htold; exact htold.symm
      have hyes : rowB h (.tuple [.int b, .int e, dd, kk, ww]) kind tick (fs.map PyData.int) = true → toldN h rows kind tick (fs.map PyData.int) rows.length = .tuple [ww, .int (k : Nat)] := fun z => by
        rw [z, if_pos rfl] at htold; exact htold
      by_cases hbe : b = e
      · have hd1 : decide (b = e) = true := decide_eq_true hbe
        have hago : agoI h b e tick = 0 := by unfold agoI; rw [if_pos hbe]
        have hd2 : decide (b ≠ e) = false := decide_eq_false (fun n => n hbe)
        have hrb : rowB h (.tuple [.int b, .int e, dd, kk, ww]) kind tick (fs.map PyData.int) = (!(np kk && nq kind kk) && fitV dd (hasD (fs.map PyData.int) (.int ((tick - 0) / h))) (hasD (fs.map PyData.int) (.int ((tick - 0) / h + 1)))) := by
          simp only [rowB, bearB, hd2, hago, fitB_eq, Bool.false_and, Bool.not_false, Bool.true_and]
        cases hnp : np kk <;> cases hnq : nq kind kk <;> cases hfv : fitV dd (hasD (fs.map PyData.int) (.int ((tick - 0) / h))) (hasD (fs.map PyData.int) (.int ((tick - 0) / h + 1))) <;>
          rw [hnp, hnq, hfv] at hrb <;>
          first
            | (have hno := hnext hrb
               simp -implicitDefEqProofs only [owp_ok, fwp_ok, onS_s, onS_n, gR_f, gQ_f, gQ_o, gL_f, gL_o, gO_o, opL_op, wp_ret, kE_ap, kSet_ap, ifM_t, ifM_f, wp_vr, wp_vq, wp_vl, wp_vo, kBin2_ap, kBin1_ap, wp_bin, kUna_ap, wp_una, kBL2_ap, kBL1_ap, kBL0_ap, wp_binL, wp_seq0, kS2_ap, kS1_ap, wp_seq1, kTup_ap, wp_tup, kLst_ap, wp_lst, wp_seqP0, kP3_ap, kP2_ap, kP1_ap, wp_seqP1, wp_noX, kDsp_ap, wp_dsp, kBool_ap, wp_boolOf, kN_ap, kNN_ap, wp_isN, wp_isNN, kC4_ap, kC3_ap, wp_bl, kC2_ap, kC1_ap, wp_chn, kTru_ap, wp_truM, kNot_ap, wp_notM, kIf_ap, wp_andM, wp_orM, wp_ite, wp_if, kAndV2_ap, kAndV_ap, wp_andV, kOrV2_ap, kOrV_ap, wp_orV, kNotV2_ap, kNotV_ap, wp_notV, wp_part0, kPart_ap, wp_part1, kSl2_ap, kSl1_ap, kSl0_ap, wp_sl, kSL3_ap, kSL2_ap, kSL1_ap, kSL0_ap, wp_slL, wp_evA0, kA1_ap, wp_evAv, kA2_ap, wp_evAio, kCall4_ap, kCall3_ap, kCall2_ap, kCall1_ap, wp_call, kK2_ap, kK1_ap, wp_callK, wp_nx, wp_bk, wp_ct, wp_no, kSeq_nx, kSeq_rt, kSeq_ro, kSeq_bk, kSeq_ct, wp_seq, kNx_ap, kExp_ap, kRt_ap, kRo_ap, wp_expr, wp_rt, wp_rtN, wp_ro, kAsg_ap, wp_asg, wp_asgO, kI3_ap, kI2_ap, kI1_ap, kI0b_ap, kI0_ap, wp_setIx, kM2_ap, kM1_ap, kM0_ap, wp_mt, kIt_ap, kIts_ap, wp_walkA, wp_range1, wp_range2, wp_range3, wp_zipM, wp_enumM, kFor_ap, wp_for, kTurn_nx, kTurn_ct, kTurn_bk, kTurn_rt, kTurn_ro, kElt_ap, kCond_t, kCond_f, wp_lc, endF_rt, endF_nx, endO_ro, kBody_ap, addD_i, addD_s, addD_t, addD_l, subD_i, mulD_i, modD_i, ltD_i, ltD_s, leD_i, gtD_i, geD_i, negD_i, isBD_b, isnBD_b, truD_b, truD_i, truD_n, truD_l, truD_t, lenD_l, lenD_t, lenD_s, intD_i, intD_b, absD_i, listD_l, listD_t, tupD_l, tupD_t, max2D_i, min2D_i, isiD_d, revD_l, slD_l, slD_t, itemsA_l, itemsA_t, itemsA_s, ixD_l, ixD_t, zpD_l, zpD_t, setT_t, setTr_t, setNs_0, setNs_1, setN_z, setN_s, setO_z, setO_s, atI_z, atI_1, atI_2, atI_3, atI_4, setIx_0, setIx_1, setIx_2, sumD_map, rg1_i, rg2_i, eqD_i, neD_i, isi_int_n, isi_int_b, isi_int_i, isi_int_s, isi_int_l, isi_int_t, isi_int_d, isi_bool_n, isi_bool_b, isi_bool_i, isi_bool_s, isi_bool_l, isi_bool_t, isi_bool_d, isi_str_n, isi_str_b, isi_str_i, isi_str_s, isi_str_l, isi_str_t, isi_str_d, isi_list_n, isi_list_b, isi_list_i, isi_list_s, isi_list_l, isi_list_t, isi_list_d, isi_tuple_n, isi_tuple_b, isi_tuple_i, isi_tuple_s, isi_tuple_l, isi_tuple_t, isi_tuple_d, isi_dict_n, isi_dict_b, isi_dict_i, isi_dict_s, isi_dict_l, isi_dict_t, isi_dict_d, notD_b, isNone_n, isNone_s, isNone_i, isNone_t, isNone_l, kPure_ap, pickD_1, pickD_2, pickD_3, pickD_4, appD_l, extD_l, List.getElem?_cons_zero, List.getElem?_cons_succ, List.set_cons_zero, List.set_cons_succ, initE, Option.map_some, List.replicate, posT, getO, fillA, putA, Bool.not_true, Bool.not_false, if_true, if_false, Bool.false_eq_true, Option.bind_some, wipeE, restE, reduceIte, List.length_cons, List.length_nil, fwp_mk, fwp_mko, Nat.reduceAdd, Nat.reduceSub, List.append_nil, List.nil_append, List.cons_append, List.reverse_cons, List.reverse_nil, Int.reduceLT, Int.reduceLE, Int.reduceAdd, Int.reduceMul, Int.reduceNeg, decide_true, decide_false, decide_eq_true_eq, Int.reduceEq, Option.map_none, and_self, and_true, true_and, Bool.true_and, Bool.false_and, Bool.or_true, Bool.or_false, List.isEmpty_nil, List.isEmpty_cons, List.getElem?_nil, Option.isSome_some, Int.cast_ofNat_Int, Bool.not_eq_true, Bool.and_true, Bool.and_self, Bool.true_or, Bool.false_or, Bool.and_false, Int.reduceSub, Int.natCast_zero, Int.reduceGT, Int.reduceGE, ne_eq, not_true_eq_false, not_false_eq_true, hat, hd1, np_eq hkk, hnp, nq_eq hkk hk, hnq, divD_i (j := h) (by omega), in_ints, nin_ints, fits_dict, fit_ix hd, hfv, kTurn_ct, kTurn_nx]
               exact ⟨k, _, _, _, _, _, _, _, _, _, by omega, rfl, rfl, hno⟩)
            | (have hye := hyes hrb
               simp -implicitDefEqProofs only [owp_ok, fwp_ok, onS_s, onS_n, gR_f, gQ_f, gQ_o, gL_f, gL_o, gO_o, opL_op, wp_ret, kE_ap, kSet_ap, ifM_t, ifM_f, wp_vr, wp_vq, wp_vl, wp_vo, kBin2_ap, kBin1_ap, wp_bin, kUna_ap, wp_una, kBL2_ap, kBL1_ap, kBL0_ap, wp_binL, wp_seq0, kS2_ap, kS1_ap, wp_seq1, kTup_ap, wp_tup, kLst_ap, wp_lst, wp_seqP0, kP3_ap, kP2_ap, kP1_ap, wp_seqP1, wp_noX, kDsp_ap, wp_dsp, kBool_ap, wp_boolOf, kN_ap, kNN_ap, wp_isN, wp_isNN, kC4_ap, kC3_ap, wp_bl, kC2_ap, kC1_ap, wp_chn, kTru_ap, wp_truM, kNot_ap, wp_notM, kIf_ap, wp_andM, wp_orM, wp_ite, wp_if, kAndV2_ap, kAndV_ap, wp_andV, kOrV2_ap, kOrV_ap, wp_orV, kNotV2_ap, kNotV_ap, wp_notV, wp_part0, kPart_ap, wp_part1, kSl2_ap, kSl1_ap, kSl0_ap, wp_sl, kSL3_ap, kSL2_ap, kSL1_ap, kSL0_ap, wp_slL, wp_evA0, kA1_ap, wp_evAv, kA2_ap, wp_evAio, kCall4_ap, kCall3_ap, kCall2_ap, kCall1_ap, wp_call, kK2_ap, kK1_ap, wp_callK, wp_nx, wp_bk, wp_ct, wp_no, kSeq_nx, kSeq_rt, kSeq_ro, kSeq_bk, kSeq_ct, wp_seq, kNx_ap, kExp_ap, kRt_ap, kRo_ap, wp_expr, wp_rt, wp_rtN, wp_ro, kAsg_ap, wp_asg, wp_asgO, kI3_ap, kI2_ap, kI1_ap, kI0b_ap, kI0_ap, wp_setIx, kM2_ap, kM1_ap, kM0_ap, wp_mt, kIt_ap, kIts_ap, wp_walkA, wp_range1, wp_range2, wp_range3, wp_zipM, wp_enumM, kFor_ap, wp_for, kTurn_nx, kTurn_ct, kTurn_bk, kTurn_rt, kTurn_ro, kElt_ap, kCond_t, kCond_f, wp_lc, endF_rt, endF_nx, endO_ro, kBody_ap, addD_i, addD_s, addD_t, addD_l, subD_i, mulD_i, modD_i, ltD_i, ltD_s, leD_i, gtD_i, geD_i, negD_i, isBD_b, isnBD_b, truD_b, truD_i, truD_n, truD_l, truD_t, lenD_l, lenD_t, lenD_s, intD_i, intD_b, absD_i, listD_l, listD_t, tupD_l, tupD_t, max2D_i, min2D_i, isiD_d, revD_l, slD_l, slD_t, itemsA_l, itemsA_t, itemsA_s, ixD_l, ixD_t, zpD_l, zpD_t, setT_t, setTr_t, setNs_0, setNs_1, setN_z, setN_s, setO_z, setO_s, atI_z, atI_1, atI_2, atI_3, atI_4, setIx_0, setIx_1, setIx_2, sumD_map, rg1_i, rg2_i, eqD_i, neD_i, isi_int_n, isi_int_b, isi_int_i, isi_int_s, isi_int_l, isi_int_t, isi_int_d, isi_bool_n, isi_bool_b, isi_bool_i, isi_bool_s, isi_bool_l, isi_bool_t, isi_bool_d, isi_str_n, isi_str_b, isi_str_i, isi_str_s, isi_str_l, isi_str_t, isi_str_d, isi_list_n, isi_list_b, isi_list_i, isi_list_s, isi_list_l, isi_list_t, isi_list_d, isi_tuple_n, isi_tuple_b, isi_tuple_i, isi_tuple_s, isi_tuple_l, isi_tuple_t, isi_tuple_d, isi_dict_n, isi_dict_b, isi_dict_i, isi_dict_s, isi_dict_l, isi_dict_t, isi_dict_d, notD_b, isNone_n, isNone_s, isNone_i, isNone_t, isNone_l, kPure_ap, pickD_1, pickD_2, pickD_3, pickD_4, appD_l, extD_l, List.getElem?_cons_zero, List.getElem?_cons_succ, List.set_cons_zero, List.set_cons_succ, initE, Option.map_some, List.replicate, posT, getO, fillA, putA, Bool.not_true, Bool.not_false, if_true, if_false, Bool.false_eq_true, Option.bind_some, wipeE, restE, reduceIte, List.length_cons, List.length_nil, fwp_mk, fwp_mko, Nat.reduceAdd, Nat.reduceSub, List.append_nil, List.nil_append, List.cons_append, List.reverse_cons, List.reverse_nil, Int.reduceLT, Int.reduceLE, Int.reduceAdd, Int.reduceMul, Int.reduceNeg, decide_true, decide_false, decide_eq_true_eq, Int.reduceEq, Option.map_none, and_self, and_true, true_and, Bool.true_and, Bool.false_and, Bool.or_true, Bool.or_false, List.isEmpty_nil, List.isEmpty_cons, List.getElem?_nil, Option.isSome_some, Int.cast_ofNat_Int, Bool.not_eq_true, Bool.and_true, Bool.and_self, Bool.true_or, Bool.false_or, Bool.and_false, Int.reduceSub, Int.natCast_zero, Int.reduceGT, Int.reduceGE, ne_eq, not_true_eq_false, not_false_eq_true, hat, hd1, np_eq hkk, hnp, nq_eq hkk hk, hnq, divD_i (j := h) (by omega), in_ints, nin_ints, fits_dict, fit_ix hd, hfv, kTurn_rt]
               exact hye.symm)
      · have hd1 : decide (b = e) = false := decide_eq_false hbe
        have hago : agoI h b e tick = (tick - b) % (7 * h) := by unfold agoI; rw [if_neg hbe]
        have hd2 : decide (b ≠ e) = true := decide_eq_true hbe
        have hrb : rowB h (.tuple [.int b, .int e, dd, kk, ww]) kind tick (fs.map PyData.int) = (!(np kk && nq kind kk) && (!decide ((e - b) % (7 * h) ≤ (tick - b) % (7 * h)) && fitV dd (hasD (fs.map PyData.int) (.int ((tick - (tick - b) % (7 * h)) / h))) (hasD (fs.map PyData.int) (.int ((tick - (tick - b) % (7 * h)) / h + 1))))) := by
          simp only [rowB, bearB, hd2, hago, fitB_eq, Bool.true_and]
        have h7 : 0 < 7 * h := by omega
        cases hc1 : decide ((e - b) % (7 * h) ≤ (tick - b) % (7 * h)) <;> cases hnp : np kk <;> cases hnq : nq kind kk <;> cases hfv : fitV dd (hasD (fs.map PyData.int) (.int ((tick - (tick - b) % (7 * h)) / h))) (hasD (fs.map PyData.int) (.int ((tick - (tick - b) % (7 * h)) / h + 1))) <;>
          rw [hc1, hnp, hnq, hfv] at hrb <;>
          first
            | (have hno := hnext hrb
               simp -implicitDefEqProofs only [owp_ok, fwp_ok, onS_s, onS_n, gR_f, gQ_f, gQ_o, gL_f, gL_o, gO_o, opL_op, wp_ret, kE_ap, kSet_ap, ifM_t, ifM_f, wp_vr, wp_vq, wp_vl, wp_vo, kBin2_ap, kBin1_ap, wp_bin, kUna_ap, wp_una, kBL2_ap, kBL1_ap, kBL0_ap, wp_binL, wp_seq0, kS2_ap, kS1_ap, wp_seq1, kTup_ap, wp_tup, kLst_ap, wp_lst, wp_seqP0, kP3_ap, kP2_ap, kP1_ap, wp_seqP1, wp_noX, kDsp_ap, wp_dsp, kBool_ap, wp_boolOf, kN_ap, kNN_ap, wp_isN, wp_isNN, kC4_ap, kC3_ap, wp_bl, kC2_ap, kC1_ap, wp_chn, kTru_ap, wp_truM, kNot_ap, wp_notM, kIf_ap, wp_andM, wp_orM, wp_ite, wp_if, kAndV2_ap, kAndV_ap, wp_andV, kOrV2_ap, kOrV_ap, wp_orV, kNotV2_ap, kNotV_ap, wp_notV, wp_part0, kPart_ap, wp_part1, kSl2_ap, kSl1_ap, kSl0_ap, wp_sl, kSL3_ap, kSL2_ap, kSL1_ap, kSL0_ap, wp_slL, wp_evA0, kA1_ap, wp_evAv, kA2_ap, wp_evAio, kCall4_ap, kCall3_ap, kCall2_ap, kCall1_ap, wp_call, kK2_ap, kK1_ap, wp_callK, wp_nx, wp_bk, wp_ct, wp_no, kSeq_nx, kSeq_rt, kSeq_ro, kSeq_bk, kSeq_ct, wp_seq, kNx_ap, kExp_ap, kRt_ap, kRo_ap, wp_expr, wp_rt, wp_rtN, wp_ro, kAsg_ap, wp_asg, wp_asgO, kI3_ap, kI2_ap, kI1_ap, kI0b_ap, kI0_ap, wp_setIx, kM2_ap, kM1_ap, kM0_ap, wp_mt, kIt_ap, kIts_ap, wp_walkA, wp_range1, wp_range2, wp_range3, wp_zipM, wp_enumM, kFor_ap, wp_for, kTurn_nx, kTurn_ct, kTurn_bk, kTurn_rt, kTurn_ro, kElt_ap, kCond_t, kCond_f, wp_lc, endF_rt, endF_nx, endO_ro, kBody_ap, addD_i, addD_s, addD_t, addD_l, subD_i, mulD_i, modD_i, ltD_i, ltD_s, leD_i, gtD_i, geD_i, negD_i, isBD_b, isnBD_b, truD_b, truD_i, truD_n, truD_l, truD_t, lenD_l, lenD_t, lenD_s, intD_i, intD_b, absD_i, listD_l, listD_t, tupD_l, tupD_t, max2D_i, min2D_i, isiD_d, revD_l, slD_l, slD_t, itemsA_l, itemsA_t, itemsA_s, ixD_l, ixD_t, zpD_l, zpD_t, setT_t, setTr_t, setNs_0, setNs_1, setN_z, setN_s, setO_z, setO_s, atI_z, atI_1, atI_2, atI_3, atI_4, setIx_0, setIx_1, setIx_2, sumD_map, rg1_i, rg2_i, eqD_i, neD_i, isi_int_n, isi_int_b, isi_int_i, isi_int_s, isi_int_l, isi_int_t, isi_int_d, isi_bool_n, isi_bool_b, isi_bool_i, isi_bool_s, isi_bool_l, isi_bool_t, isi_bool_d, isi_str_n, isi_str_b, isi_str_i, isi_str_s, isi_str_l, isi_str_t, isi_str_d, isi_list_n, isi_list_b, isi_list_i, isi_list_s, isi_list_l, isi_list_t, isi_list_d, isi_tuple_n, isi_tuple_b, isi_tuple_i, isi_tuple_s, isi_tuple_l, isi_tuple_t, isi_tuple_d, isi_dict_n, isi_dict_b, isi_dict_i, isi_dict_s, isi_dict_l, isi_dict_t, isi_dict_d, notD_b, isNone_n, isNone_s, isNone_i, isNone_t, isNone_l, kPure_ap, pickD_1, pickD_2, pickD_3, pickD_4, appD_l, extD_l, List.getElem?_cons_zero, List.getElem?_cons_succ, List.set_cons_zero, List.set_cons_succ, initE, Option.map_some, List.replicate, posT, getO, fillA, putA, Bool.not_true, Bool.not_false, if_true, if_false, Bool.false_eq_true, Option.bind_some, wipeE, restE, reduceIte, List.length_cons, List.length_nil, fwp_mk, fwp_mko, Nat.reduceAdd, Nat.reduceSub, List.append_nil, List.nil_append, List.cons_append, List.reverse_cons, List.reverse_nil, Int.reduceLT, Int.reduceLE, Int.reduceAdd, Int.reduceMul, Int.reduceNeg, decide_true, decide_false, decide_eq_true_eq, Int.reduceEq, Option.map_none, and_self, and_true, true_and, Bool.true_and, Bool.false_and, Bool.or_true, Bool.or_false, List.isEmpty_nil, List.isEmpty_cons, List.getElem?_nil, Option.isSome_some, Int.cast_ofNat_Int, Bool.not_eq_true, Bool.and_true, Bool.and_self, Bool.true_or, Bool.false_or, Bool.and_false, Int.reduceSub, Int.natCast_zero, Int.reduceGT, Int.reduceGE, ne_eq, not_true_eq_false, not_false_eq_true, hat, hd1, hc1, h7, mulOk_l (i := 7) (j := h) (by omega), np_eq hkk, hnp, nq_eq hkk hk, hnq, divD_i (j := h) (by omega), in_ints, nin_ints, fits_dict, fit_ix hd, hfv, kTurn_ct, kTurn_nx]
               exact ⟨k, _, _, _, _, _, _, _, _, _, by omega, rfl, rfl, hno⟩)
            | (have hye := hyes hrb
               simp -implicitDefEqProofs only [owp_ok, fwp_ok, onS_s, onS_n, gR_f, gQ_f, gQ_o, gL_f, gL_o, gO_o, opL_op, wp_ret, kE_ap, kSet_ap, ifM_t, ifM_f, wp_vr, wp_vq, wp_vl, wp_vo, kBin2_ap, kBin1_ap, wp_bin, kUna_ap, wp_una, kBL2_ap, kBL1_ap, kBL0_ap, wp_binL, wp_seq0, kS2_ap, kS1_ap, wp_seq1, kTup_ap, wp_tup, kLst_ap, wp_lst, wp_seqP0, kP3_ap, kP2_ap, kP1_ap, wp_seqP1, wp_noX, kDsp_ap, wp_dsp, kBool_ap, wp_boolOf, kN_ap, kNN_ap, wp_isN, wp_isNN, kC4_ap, kC3_ap, wp_bl, kC2_ap, kC1_ap, wp_chn, kTru_ap, wp_truM, kNot_ap, wp_notM, kIf_ap, wp_andM, wp_orM, wp_ite, wp_if, kAndV2_ap, kAndV_ap, wp_andV, kOrV2_ap, kOrV_ap, wp_orV, kNotV2_ap, kNotV_ap, wp_notV, wp_part0, kPart_ap, wp_part1, kSl2_ap, kSl1_ap, kSl0_ap, wp_sl, kSL3_ap, kSL2_ap, kSL1_ap, kSL0_ap, wp_slL, wp_evA0, kA1_ap, wp_evAv, kA2_ap, wp_evAio, kCall4_ap, kCall3_ap, kCall2_ap, kCall1_ap, wp_call, kK2_ap, kK1_ap, wp_callK, wp_nx, wp_bk, wp_ct, wp_no, kSeq_nx, kSeq_rt, kSeq_ro, kSeq_bk, kSeq_ct, wp_seq, kNx_ap, kExp_ap, kRt_ap, kRo_ap, wp_expr, wp_rt, wp_rtN, wp_ro, kAsg_ap, wp_asg, wp_asgO, kI3_ap, kI2_ap, kI1_ap, kI0b_ap, kI0_ap, wp_setIx, kM2_ap, kM1_ap, kM0_ap, wp_mt, kIt_ap, kIts_ap, wp_walkA, wp_range1, wp_range2, wp_range3, wp_zipM, wp_enumM, kFor_ap, wp_for, kTurn_nx, kTurn_ct, kTurn_bk, kTurn_rt, kTurn_ro, kElt_ap, kCond_t, kCond_f, wp_lc, endF_rt, endF_nx, endO_ro, kBody_ap, addD_i, addD_s, addD_t, addD_l, subD_i, mulD_i, modD_i, ltD_i, ltD_s, leD_i, gtD_i, geD_i, negD_i, isBD_b, isnBD_b, truD_b, truD_i, truD_n, truD_l, truD_t, lenD_l, lenD_t, lenD_s, intD_i, intD_b, absD_i, listD_l, listD_t, tupD_l, tupD_t, max2D_i, min2D_i, isiD_d, revD_l, slD_l, slD_t, itemsA_l, itemsA_t, itemsA_s, ixD_l, ixD_t, zpD_l, zpD_t, setT_t, setTr_t, setNs_0, setNs_1, setN_z, setN_s, setO_z, setO_s, atI_z, atI_1, atI_2, atI_3, atI_4, setIx_0, setIx_1, setIx_2, sumD_map, rg1_i, rg2_i, eqD_i, neD_i, isi_int_n, isi_int_b, isi_int_i, isi_int_s, isi_int_l, isi_int_t, isi_int_d, isi_bool_n, isi_bool_b, isi_bool_i, isi_bool_s, isi_bool_l, isi_bool_t, isi_bool_d, isi_str_n, isi_str_b, isi_str_i, isi_str_s, isi_str_l, isi_str_t, isi_str_d, isi_list_n, isi_list_b, isi_list_i, isi_list_s, isi_list_l, isi_list_t, isi_list_d, isi_tuple_n, isi_tuple_b, isi_tuple_i, isi_tuple_s, isi_tuple_l, isi_tuple_t, isi_tuple_d, isi_dict_n, isi_dict_b, isi_dict_i, isi_dict_s, isi_dict_l, isi_dict_t, isi_dict_d, notD_b, isNone_n, isNone_s, isNone_i, isNone_t, isNone_l, kPure_ap, pickD_1, pickD_2, pickD_3, pickD_4, appD_l, extD_l, List.getElem?_cons_zero, List.getElem?_cons_succ, List.set_cons_zero, List.set_cons_succ, initE, Option.map_some, List.replicate, posT, getO, fillA, putA, Bool.not_true, Bool.not_false, if_true, if_false, Bool.false_eq_true, Option.bind_some, wipeE, restE, reduceIte, List.length_cons, List.length_nil, fwp_mk, fwp_mko, Nat.reduceAdd, Nat.reduceSub, List.append_nil, List.nil_append, List.cons_append, List.reverse_cons, List.reverse_nil, Int.reduceLT, Int.reduceLE, Int.reduceAdd, Int.reduceMul, Int.reduceNeg, decide_true, decide_false, decide_eq_true_eq, Int.reduceEq, Option.map_none, and_self, and_true, true_and, Bool.true_and, Bool.false_and, Bool.or_true, Bool.or_false, List.isEmpty_nil, List.isEmpty_cons, List.getElem?_nil, Option.isSome_some, Int.cast_ofNat_Int, Bool.not_eq_true, Bool.and_true, Bool.and_self, Bool.true_or, Bool.false_or, Bool.and_false, Int.reduceSub, Int.natCast_zero, Int.reduceGT, Int.reduceGE, ne_eq, not_true_eq_false, not_false_eq_true, hat, hd1, hc1, h7, mulOk_l (i := 7) (j := h) (by omega), np_eq hkk, hnp, nq_eq hkk hk, hnq, divD_i (j := h) (by omega), in_ints, nin_ints, fits_dict, fit_ix hd, hfv, kTurn_rt]
               exact hye.symm)
  · rintro _ ⟨k, s6, s7, s8, s9, s10, s11, s12, s13, s14, hkl, hd, rfl, ht⟩
    cases k with
    | succ k => cases hd
    | zero =>
      simp -implicitDefEqProofs only [owp_ok, fwp_ok, onS_s, onS_n, gR_f, gQ_f, gQ_o, gL_f, gL_o, gO_o, opL_op, wp_ret, kE_ap, kSet_ap, ifM_t, ifM_f, wp_vr, wp_vq, wp_vl, wp_vo, kBin2_ap, kBin1_ap, wp_bin, kUna_ap, wp_una, kBL2_ap, kBL1_ap, kBL0_ap, wp_binL, wp_seq0, kS2_ap, kS1_ap, wp_seq1, kTup_ap, wp_tup, kLst_ap, wp_lst, wp_seqP0, kP3_ap, kP2_ap, kP1_ap, wp_seqP1, wp_noX, kDsp_ap, wp_dsp, kBool_ap, wp_boolOf, kN_ap, kNN_ap, wp_isN, wp_isNN, kC4_ap, kC3_ap, wp_bl, kC2_ap, kC1_ap, wp_chn, kTru_ap, wp_truM, kNot_ap, wp_notM, kIf_ap, wp_andM, wp_orM, wp_ite, wp_if, kAndV2_ap, kAndV_ap, wp_andV, kOrV2_ap, kOrV_ap, wp_orV, kNotV2_ap, kNotV_ap, wp_notV, wp_part0, kPart_ap, wp_part1, kSl2_ap, kSl1_ap, kSl0_ap, wp_sl, kSL3_ap, kSL2_ap, kSL1_ap, kSL0_ap, wp_slL, wp_evA0, kA1_ap, wp_evAv, kA2_ap, wp_evAio, kCall4_ap, kCall3_ap, kCall2_ap, kCall1_ap, wp_call, kK2_ap, kK1_ap, wp_callK, wp_nx, wp_bk, wp_ct, wp_no, kSeq_nx, kSeq_rt, kSeq_ro, kSeq_bk, kSeq_ct, wp_seq, kNx_ap, kExp_ap, kRt_ap, kRo_ap, wp_expr, wp_rt, wp_rtN, wp_ro, kAsg_ap, wp_asg, wp_asgO, kI3_ap, kI2_ap, kI1_ap, kI0b_ap, kI0_ap, wp_setIx, kM2_ap, kM1_ap, kM0_ap, wp_mt, kIt_ap, kIts_ap, wp_walkA, wp_range1, wp_range2, wp_range3, wp_zipM, wp_enumM, kFor_ap, wp_for, kTurn_nx, kTurn_ct, kTurn_bk, kTurn_rt, kTurn_ro, kElt_ap, kCond_t, kCond_f, wp_lc, endF_rt, endF_nx, endO_ro, kBody_ap, addD_i, addD_s, addD_t, addD_l, subD_i, mulD_i, modD_i, ltD_i, ltD_s, leD_i, gtD_i, geD_i, negD_i, isBD_b, isnBD_b, truD_b, truD_i, truD_n, truD_l, truD_t, lenD_l, lenD_t, lenD_s, intD_i, intD_b, absD_i, listD_l, listD_t, tupD_l, tupD_t, max2D_i, min2D_i, isiD_d, revD_l, slD_l, slD_t, itemsA_l, itemsA_t, itemsA_s, ixD_l, ixD_t, zpD_l, zpD_t, setT_t, setTr_t, setNs_0, setNs_1, setN_z, setN_s, setO_z, setO_s, atI_z, atI_1, atI_2, atI_3, atI_4, setIx_0, setIx_1, setIx_2, sumD_map, rg1_i, rg2_i, eqD_i, neD_i, isi_int_n, isi_int_b, isi_int_i, isi_int_s, isi_int_l, isi_int_t, isi_int_d, isi_bool_n, isi_bool_b, isi_bool_i, isi_bool_s, isi_bool_l, isi_bool_t, isi_bool_d, isi_str_n, isi_str_b, isi_str_i, isi_str_s, isi_str_l, isi_str_t, isi_str_d, isi_list_n, isi_list_b, isi_list_i, isi_list_s, isi_list_l, isi_list_t, isi_list_d, isi_tuple_n, isi_tuple_b, isi_tuple_i, isi_tuple_s, isi_tuple_l, isi_tuple_t, isi_tuple_d, isi_dict_n, isi_dict_b, isi_dict_i, isi_dict_s, isi_dict_l, isi_dict_t, isi_dict_d, notD_b, isNone_n, isNone_s, isNone_i, isNone_t, isNone_l, kPure_ap, pickD_1, pickD_2, pickD_3, pickD_4, appD_l, extD_l, List.getElem?_cons_zero, List.getElem?_cons_succ, List.set_cons_zero, List.set_cons_succ, initE, Option.map_some, List.replicate, posT, getO, fillA, putA, Bool.not_true, Bool.not_false, if_true, if_false, Bool.false_eq_true, Option.bind_some, wipeE, restE, reduceIte, List.length_cons, List.length_nil, fwp_mk, fwp_mko, Nat.reduceAdd, Nat.reduceSub, List.append_nil, List.nil_append, List.cons_append, List.reverse_cons, List.reverse_nil, Int.reduceLT, Int.reduceLE, Int.reduceAdd, Int.reduceMul, Int.reduceNeg, decide_true, decide_false, decide_eq_true_eq, Int.reduceEq, Option.map_none, and_self, and_true, true_and, Bool.true_and, Bool.false_and, Bool.or_true, Bool.or_false, List.isEmpty_nil, List.isEmpty_cons, List.getElem?_nil, Option.isSome_some, Int.cast_ofNat_Int, Bool.not_eq_true, Bool.and_true, Bool.and_self, Bool.true_or, Bool.false_or, Bool.and_false, Int.reduceSub, Int.natCast_zero, Int.reduceGT, Int.reduceGE, ne_eq, not_true_eq_false, not_false_eq_true]
      rw [← ht]; rfl
end Vk10

namespace Vk10
open PySem PySem.Spec PyProof.Rows L2 ZZ
theorem toldN_sh {h tick : Int} {rows : List D} {kind : D} {fs : List D} (hr : ∀ r ∈ rows, RowOk h r) : ∀ k : Nat, k ≤ rows.length → ∃ w n, toldN h rows kind tick fs k = .tuple [w, n] ∧ WordOk w
  | 0, _ => ⟨_, _, rfl, .inl rfl⟩
  | k + 1, hk => by
    have hlt : k < rows.length := by omega
    have hrow := hr rows[k] (List.getElem_mem hlt)
    simp only [toldN, List.getElem?_eq_getElem hlt]
    split
    · obtain ⟨b, e, dd, kk, ww, e1, _, _, _, _, _, _, _, hw⟩ := hrow
      rw [e1]
      exact ⟨_, _, rfl, hw⟩
    · exact toldN_sh hr k (by omega)
def wordA (h : Int) (rows : List D) (kind : D) (fs : List D) (tick : Int) : D := match toldN h rows kind tick fs rows.length with
  | .tuple [w, _] => w
  | _ => .none
theorem told_w {h tick : Int} {rows : List D} {kind : D} {fs : List D} (hr : ∀ r ∈ rows, RowOk h r) : ixD (toldN h rows kind tick fs rows.length) (.int 0) = some (wordA h rows kind fs tick) ∧ WordOk (wordA h rows kind fs tick) := by
  obtain ⟨w, n, e, hw⟩ := toldN_sh (h := h) (tick := tick) (kind := kind) (fs := fs) hr rows.length (Nat.le_refl _)
  unfold wordA
  rw [e]
  exact ⟨by simp only [ixD_t, atI_z], hw⟩
def wordsL : List D := [.str "free", .str "barred", .str "load"] ++ ((List.range 10).map fun a => (List.range 7).map fun b => PyData.tuple [.int (a : Nat), .int (b : Nat)]).flatten
def repOk (w : D) : Bool := match reprD w with | some (.str _) => true | _ => false
def ne2 (v w : D) : Bool := bIs true (neD v w)
theorem words_in {w : D} (h : WordOk w) : w ∈ wordsL := by
  unfold wordsL
  rcases h with rfl | rfl | rfl | ⟨a, b, rfl, h1, h2, h3, h4⟩
  · simp
  · simp
  · simp
  · refine List.mem_append_right _ (List.mem_flatten.mpr ⟨_, List.mem_map.mpr ⟨a.toNat, List.mem_range.mpr (by omega), rfl⟩, List.mem_map.mpr ⟨b.toNat, List.mem_range.mpr (by omega), ?_⟩⟩)
    rw [Int.toNat_of_nonneg (by omega), Int.toNat_of_nonneg (by omega)]
theorem words_rep : ∀ w ∈ wordsL, repOk w = true := by
  have : wordsL.all repOk = true := by decide +kernel
  exact List.all_eq_true.mp this
theorem word_repr {w : D} (h : WordOk w) : ∃ z, reprD w = some (.str z) := by
  have := words_rep w (words_in h)
  unfold repOk at this
  split at this
  · rename_i z e; exact ⟨z, e⟩
  · cases this
theorem words_ne : ∀ v ∈ wordsL, ∀ w ∈ wordsL, isBo (neD v w) = true := by
  have : (wordsL.all fun v => wordsL.all fun w => isBo (neD v w)) = true := by decide +kernel
  intro v hv w hw
  exact List.all_eq_true.mp (List.all_eq_true.mp this v hv) w hw
theorem word_ne {v w : D} (h : WordOk v) (h2 : WordOk w) : neD v w = some (.bool (ne2 v w)) := of_isBo (words_ne v (words_in h) w (words_in h2))
theorem answer_eq {h tick : Int} {rows : List D} {kind : D} {fs : List Int} (hh : HoursOk h) (hs : SignOk h (.tuple [.int h, .tuple rows])) (hk : KindOk kind) (hf : FeastsOk (.tuple (fs.map PyData.int))) (h0 : 0 ≤ tick) (h1 : tick ≤ 9999) :
    F_answer [.tuple [.int h, .tuple rows], kind, .int tick, .tuple (fs.map PyData.int)] = .ok (wordA h rows kind (fs.map PyData.int) tick) [] := by
  obtain ⟨rows', e, hl, hr⟩ := id hs
  cases e
  refine fo_eq ?_
  unfold F_answer
  rw [fwp_mk]
  simp -implicitDefEqProofs only [owp_ok, fwp_ok, onS_s, onS_n, gR_f, gQ_f, gQ_o, gL_f, gL_o, gO_o, opL_op, wp_ret, kE_ap, kSet_ap, ifM_t, ifM_f, wp_vr, wp_vq, wp_vl, wp_vo, kBin2_ap, kBin1_ap, wp_bin, kUna_ap, wp_una, kBL2_ap, kBL1_ap, kBL0_ap, wp_binL, wp_seq0, kS2_ap, kS1_ap, wp_seq1, kTup_ap, wp_tup, kLst_ap, wp_lst, wp_seqP0, kP3_ap, kP2_ap, kP1_ap, wp_seqP1, wp_noX, kDsp_ap, wp_dsp, kBool_ap, wp_boolOf, kN_ap, kNN_ap, wp_isN, wp_isNN, kC4_ap, kC3_ap, wp_bl, kC2_ap, kC1_ap, wp_chn, kTru_ap, wp_truM, kNot_ap, wp_notM, kIf_ap, wp_andM, wp_orM, wp_ite, wp_if, kAndV2_ap, kAndV_ap, wp_andV, kOrV2_ap, kOrV_ap, wp_orV, kNotV2_ap, kNotV_ap, wp_notV, wp_part0, kPart_ap, wp_part1, kSl2_ap, kSl1_ap, kSl0_ap, wp_sl, kSL3_ap, kSL2_ap, kSL1_ap, kSL0_ap, wp_slL, wp_evA0, kA1_ap, wp_evAv, kA2_ap, wp_evAio, kCall4_ap, kCall3_ap, kCall2_ap, kCall1_ap, wp_call, kK2_ap, kK1_ap, wp_callK, wp_nx, wp_bk, wp_ct, wp_no, kSeq_nx, kSeq_rt, kSeq_ro, kSeq_bk, kSeq_ct, wp_seq, kNx_ap, kExp_ap, kRt_ap, kRo_ap, wp_expr, wp_rt, wp_rtN, wp_ro, kAsg_ap, wp_asg, wp_asgO, kI3_ap, kI2_ap, kI1_ap, kI0b_ap, kI0_ap, wp_setIx, kM2_ap, kM1_ap, kM0_ap, wp_mt, kIt_ap, kIts_ap, wp_walkA, wp_range1, wp_range2, wp_range3, wp_zipM, wp_enumM, kFor_ap, wp_for, kTurn_nx, kTurn_ct, kTurn_bk, kTurn_rt, kTurn_ro, kElt_ap, kCond_t, kCond_f, wp_lc, endF_rt, endF_nx, endO_ro, kBody_ap, addD_i, addD_s, addD_t, addD_l, subD_i, mulD_i, modD_i, ltD_i, ltD_s, leD_i, gtD_i, geD_i, negD_i, isBD_b, isnBD_b, truD_b, truD_i, truD_n, truD_l, truD_t, lenD_l, lenD_t, lenD_s, intD_i, intD_b, absD_i, listD_l, listD_t, tupD_l, tupD_t, max2D_i, min2D_i, isiD_d, revD_l, slD_l, slD_t, itemsA_l, itemsA_t, itemsA_s, ixD_l, ixD_t, zpD_l, zpD_t, setT_t, setTr_t, setNs_0, setNs_1, setN_z, setN_s, setO_z, setO_s, atI_z, atI_1, atI_2, atI_3, atI_4, setIx_0, setIx_1, setIx_2, sumD_map, rg1_i, rg2_i, eqD_i, neD_i, isi_int_n, isi_int_b, isi_int_i, isi_int_s, isi_int_l, isi_int_t, isi_int_d, isi_bool_n, isi_bool_b, isi_bool_i, isi_bool_s, isi_bool_l, isi_bool_t, isi_bool_d, isi_str_n, isi_str_b, isi_str_i, isi_str_s, isi_str_l, isi_str_t, isi_str_d, isi_list_n, isi_list_b, isi_list_i, isi_list_s, isi_list_l, isi_list_t, isi_list_d, isi_tuple_n, isi_tuple_b, isi_tuple_i, isi_tuple_s, isi_tuple_l, isi_tuple_t, isi_tuple_d, isi_dict_n, isi_dict_b, isi_dict_i, isi_dict_s, isi_dict_l, isi_dict_t, isi_dict_d, notD_b, isNone_n, isNone_s, isNone_i, isNone_t, isNone_l, kPure_ap, pickD_1, pickD_2, pickD_3, pickD_4, appD_l, extD_l, List.getElem?_cons_zero, List.getElem?_cons_succ, List.set_cons_zero, List.set_cons_succ, initE, Option.map_some, List.replicate, posT, getO, fillA, putA, Bool.not_true, Bool.not_false, if_true, if_false, Bool.false_eq_true, Option.bind_some, wipeE, restE, reduceIte, List.length_cons, List.length_nil, fwp_mk, fwp_mko, Nat.reduceAdd, Nat.reduceSub, List.append_nil, List.nil_append, List.cons_append, List.reverse_cons, List.reverse_nil, Int.reduceLT, Int.reduceLE, Int.reduceAdd, Int.reduceMul, Int.reduceNeg, decide_true, decide_false, decide_eq_true_eq, Int.reduceEq, Option.map_none, and_self, and_true, true_and, Bool.true_and, Bool.false_and, Bool.or_true, Bool.or_false, List.isEmpty_nil, List.isEmpty_cons, List.getElem?_nil, Option.isSome_some, Int.cast_ofNat_Int, Bool.not_eq_true, Bool.and_true, Bool.and_self, Bool.true_or, Bool.false_or, Bool.and_false, Int.reduceSub, Int.natCast_zero, Int.reduceGT, Int.reduceGE, ne_eq, not_true_eq_false, not_false_eq_true, B_answer, chk_sign hh hs, chk_kind hk, chk_tick h0 h1, chk_feasts hf, told_at_eq hh hl hr hk, (told_w hr).1]
end Vk10

namespace Vk10
open PySem PySem.Spec PyProof.Rows L2 ZZ
def ofI (f : Int → D) : D → D
  | .int t => f t
  | _ => .none
def ofB (p : Int → Bool) : D → Bool
  | .int t => p t
  | _ => false
theorem rng_mem {a b : Int} {d : D} (h : d ∈ rng a b) : ∃ t : Int, d = .int t ∧ a ≤ t ∧ t < b := by
  unfold rng at h
  obtain ⟨i, hi, rfl⟩ := List.mem_map.mp h
  have := List.mem_range.mp hi
  exact ⟨a + i, rfl, by omega, by omega⟩
theorem rng_at {a b : Int} {k : Int} (h0 : 0 ≤ k) (h1 : k < b - a) (f : Int → D) : atI ((rng a b).map (ofI f)) k = some (f (a + k)) := by
  refine atI_nn h0 ?_
  rw [List.getElem?_map]
  have hl : k.toNat < (rng a b).length := by rw [rng_len]; omega
  rw [List.getElem?_eq_getElem hl, rng_get (List.getElem?_eq_getElem hl)]
  show some (f (a + (k.toNat : Int))) = _
  rw [Int.toNat_of_nonneg h0]
theorem shift_rng (low : Int) (n : Nat) (p q : Int → Bool) (hpq : ∀ i : Int, 1 ≤ i → p i = q (low + i)) : ((rng 1 (n + 1)).filter (ofB p)).map (ofI fun i => .int (low + i)) = (rng (low + 1) (low + 1 + n)).filter (ofB q) := by
  unfold rng
  rw [show ((n : Int) + 1 - 1).toNat = n by omega, show (low + 1 + n - (low + 1)).toNat = n by omega, List.filter_map, List.filter_map, List.map_map]
  have e1 : (ofB p ∘ fun i : Nat => PyData.int (1 + (i : Int))) = (ofB q ∘ fun i : Nat => PyData.int (low + 1 + (i : Int))) := by
    funext i
    show p (1 + (i : Int)) = q (low + 1 + i)
    rw [hpq _ (by omega)]
    congr 1; omega
  rw [e1]
  apply List.map_congr_left
  intro i _
  show PyData.int _ = PyData.int _
  congr 1; omega
def chg (W : Int → D) (low high : Int) : List D := (rng (low + 1) (high + 1)).filter (ofB fun t => ne2 (W t) (W (t - 1)))
theorem changes_eq {h low high : Int} {rows : List D} {kind : D} {fs : List Int} (hh : HoursOk h) (hs : SignOk h (.tuple [.int h, .tuple rows])) (hk : KindOk kind) (hf : FeastsOk (.tuple (fs.map PyData.int))) (l0 : 0 ≤ low) (l1 : low ≤ 9999) (h0 : 0 ≤ high) (h1 : high ≤ 9999) :
    F_changes [.tuple [.int h, .tuple rows], kind, .tuple (fs.map PyData.int), .int low, .int high] = .ok (.tuple (chg (wordA h rows kind (fs.map PyData.int)) low high)) [] := by
  obtain ⟨rows', e, hl, hr⟩ := id hs
  cases e
  have hW : ∀ t, WordOk (wordA h rows kind (fs.map PyData.int) t) := fun t => (told_w hr).2
  refine fo_eq ?_
  unfold F_changes
  rw [fwp_mk]
  simp -implicitDefEqProofs only [owp_ok, fwp_ok, onS_s, onS_n, gR_f, gQ_f, gQ_o, gL_f, gL_o, gO_o, opL_op, wp_ret, kE_ap, kSet_ap, ifM_t, ifM_f, wp_vr, wp_vq, wp_vl, wp_vo, kBin2_ap, kBin1_ap, wp_bin, kUna_ap, wp_una, kBL2_ap, kBL1_ap, kBL0_ap, wp_binL, wp_seq0, kS2_ap, kS1_ap, wp_seq1, kTup_ap, wp_tup, kLst_ap, wp_lst, wp_seqP0, kP3_ap, kP2_ap, kP1_ap, wp_seqP1, wp_noX, kDsp_ap, wp_dsp, kBool_ap, wp_boolOf, kN_ap, kNN_ap, wp_isN, wp_isNN, kC4_ap, kC3_ap, wp_bl, kC2_ap, kC1_ap, wp_chn, kTru_ap, wp_truM, kNot_ap, wp_notM, kIf_ap, wp_andM, wp_orM, wp_ite, wp_if, kAndV2_ap, kAndV_ap, wp_andV, kOrV2_ap, kOrV_ap, wp_orV, kNotV2_ap, kNotV_ap, wp_notV, wp_part0, kPart_ap, wp_part1, kSl2_ap, kSl1_ap, kSl0_ap, wp_sl, kSL3_ap, kSL2_ap, kSL1_ap, kSL0_ap, wp_slL, wp_evA0, kA1_ap, wp_evAv, kA2_ap, wp_evAio, kCall4_ap, kCall3_ap, kCall2_ap, kCall1_ap, wp_call, kK2_ap, kK1_ap, wp_callK, wp_nx, wp_bk, wp_ct, wp_no, kSeq_nx, kSeq_rt, kSeq_ro, kSeq_bk, kSeq_ct, wp_seq, kNx_ap, kExp_ap, kRt_ap, kRo_ap, wp_expr, wp_rt, wp_rtN, wp_ro, kAsg_ap, wp_asg, wp_asgO, kI3_ap, kI2_ap, kI1_ap, kI0b_ap, kI0_ap, wp_setIx, kM2_ap, kM1_ap, kM0_ap, wp_mt, kIt_ap, kIts_ap, wp_walkA, wp_range1, wp_range2, wp_range3, wp_zipM, wp_enumM, kFor_ap, wp_for, kTurn_nx, kTurn_ct, kTurn_bk, kTurn_rt, kTurn_ro, kElt_ap, kCond_t, kCond_f, wp_lc, endF_rt, endF_nx, endO_ro, kBody_ap, addD_i, addD_s, addD_t, addD_l, subD_i, mulD_i, modD_i, ltD_i, ltD_s, leD_i, gtD_i, geD_i, negD_i, isBD_b, isnBD_b, truD_b, truD_i, truD_n, truD_l, truD_t, lenD_l, lenD_t, lenD_s, intD_i, intD_b, absD_i, listD_l, listD_t, tupD_l, tupD_t, max2D_i, min2D_i, isiD_d, revD_l, slD_l, slD_t, itemsA_l, itemsA_t, itemsA_s, ixD_l, ixD_t, zpD_l, zpD_t, setT_t, setTr_t, setNs_0, setNs_1, setN_z, setN_s, setO_z, setO_s, atI_z, atI_1, atI_2, atI_3, atI_4, setIx_0, setIx_1, setIx_2, sumD_map, rg1_i, rg2_i, eqD_i, neD_i, isi_int_n, isi_int_b, isi_int_i, isi_int_s, isi_int_l, isi_int_t, isi_int_d, isi_bool_n, isi_bool_b, isi_bool_i, isi_bool_s, isi_bool_l, isi_bool_t, isi_bool_d, isi_str_n, isi_str_b, isi_str_i, isi_str_s, isi_str_l, isi_str_t, isi_str_d, isi_list_n, isi_list_b, isi_list_i, isi_list_s, isi_list_l, isi_list_t, isi_list_d, isi_tuple_n, isi_tuple_b, isi_tuple_i, isi_tuple_s, isi_tuple_l, isi_tuple_t, isi_tuple_d, isi_dict_n, isi_dict_b, isi_dict_i, isi_dict_s, isi_dict_l, isi_dict_t, isi_dict_d, notD_b, isNone_n, isNone_s, isNone_i, isNone_t, isNone_l, kPure_ap, pickD_1, pickD_2, pickD_3, pickD_4, appD_l, extD_l, List.getElem?_cons_zero, List.getElem?_cons_succ, List.set_cons_zero, List.set_cons_succ, initE, Option.map_some, List.replicate, posT, getO, fillA, putA, Bool.not_true, Bool.not_false, if_true, if_false, Bool.false_eq_true, Option.bind_some, wipeE, restE, reduceIte, List.length_cons, List.length_nil, fwp_mk, fwp_mko, Nat.reduceAdd, Nat.reduceSub, List.append_nil, List.nil_append, List.cons_append, List.reverse_cons, List.reverse_nil, Int.reduceLT, Int.reduceLE, Int.reduceAdd, Int.reduceMul, Int.reduceNeg, decide_true, decide_false, decide_eq_true_eq, Int.reduceEq, Option.map_none, and_self, and_true, true_and, Bool.true_and, Bool.false_and, Bool.or_true, Bool.or_false, List.isEmpty_nil, List.isEmpty_cons, List.getElem?_nil, Option.isSome_some, Int.cast_ofNat_Int, Bool.not_eq_true, Bool.and_true, Bool.and_self, Bool.true_or, Bool.false_or, Bool.and_false, Int.reduceSub, Int.natCast_zero, Int.reduceGT, Int.reduceGE, ne_eq, not_true_eq_false, not_false_eq_true, B_changes, chk_sign hh hs, chk_kind hk, chk_tick l0 l1, chk_tick h0 h1, chk_feasts hf, rOk_s (a := low) (by omega), rOk_s (a := high + 1) (by omega)]
  refine kLc_map (ofI (wordA h rows kind (fs.map PyData.int))) (fun d hd => ?_) (by rw [sizeLine_eq, rng_len]; omega) ?_
  · obtain ⟨t, rfl, ht0, ht1⟩ := rng_mem hd
    simp -implicitDefEqProofs only [owp_ok, fwp_ok, onS_s, onS_n, gR_f, gQ_f, gQ_o, gL_f, gL_o, gO_o, opL_op, wp_ret, kE_ap, kSet_ap, ifM_t, ifM_f, wp_vr, wp_vq, wp_vl, wp_vo, kBin2_ap, kBin1_ap, wp_bin, kUna_ap, wp_una, kBL2_ap, kBL1_ap, kBL0_ap, wp_binL, wp_seq0, kS2_ap, kS1_ap, wp_seq1, kTup_ap, wp_tup, kLst_ap, wp_lst, wp_seqP0, kP3_ap, kP2_ap, kP1_ap, wp_seqP1, wp_noX, kDsp_ap, wp_dsp, kBool_ap, wp_boolOf, kN_ap, kNN_ap, wp_isN, wp_isNN, kC4_ap, kC3_ap, wp_bl, kC2_ap, kC1_ap, wp_chn, kTru_ap, wp_truM, kNot_ap, wp_notM, kIf_ap, wp_andM, wp_orM, wp_ite, wp_if, kAndV2_ap, kAndV_ap, wp_andV, kOrV2_ap, kOrV_ap, wp_orV, kNotV2_ap, kNotV_ap, wp_notV, wp_part0, kPart_ap, wp_part1, kSl2_ap, kSl1_ap, kSl0_ap, wp_sl, kSL3_ap, kSL2_ap, kSL1_ap, kSL0_ap, wp_slL, wp_evA0, kA1_ap, wp_evAv, kA2_ap, wp_evAio, kCall4_ap, kCall3_ap, kCall2_ap, kCall1_ap, wp_call, kK2_ap, kK1_ap, wp_callK, wp_nx, wp_bk, wp_ct, wp_no, kSeq_nx, kSeq_rt, kSeq_ro, kSeq_bk, kSeq_ct, wp_seq, kNx_ap, kExp_ap, kRt_ap, kRo_ap, wp_expr, wp_rt, wp_rtN, wp_ro, kAsg_ap, wp_asg, wp_asgO, kI3_ap, kI2_ap, kI1_ap, kI0b_ap, kI0_ap, wp_setIx, kM2_ap, kM1_ap, kM0_ap, wp_mt, kIt_ap, kIts_ap, wp_walkA, wp_range1, wp_range2, wp_range3, wp_zipM, wp_enumM, kFor_ap, wp_for, kTurn_nx, kTurn_ct, kTurn_bk, kTurn_rt, kTurn_ro, kElt_ap, kCond_t, kCond_f, wp_lc, endF_rt, endF_nx, endO_ro, kBody_ap, addD_i, addD_s, addD_t, addD_l, subD_i, mulD_i, modD_i, ltD_i, ltD_s, leD_i, gtD_i, geD_i, negD_i, isBD_b, isnBD_b, truD_b, truD_i, truD_n, truD_l, truD_t, lenD_l, lenD_t, lenD_s, intD_i, intD_b, absD_i, listD_l, listD_t, tupD_l, tupD_t, max2D_i, min2D_i, isiD_d, revD_l, slD_l, slD_t, itemsA_l, itemsA_t, itemsA_s, ixD_l, ixD_t, zpD_l, zpD_t, setT_t, setTr_t, setNs_0, setNs_1, setN_z, setN_s, setO_z, setO_s, atI_z, atI_1, atI_2, atI_3, atI_4, setIx_0, setIx_1, setIx_2, sumD_map, rg1_i, rg2_i, eqD_i, neD_i, isi_int_n, isi_int_b, isi_int_i, isi_int_s, isi_int_l, isi_int_t, isi_int_d, isi_bool_n, isi_bool_b, isi_bool_i, isi_bool_s, isi_bool_l, isi_bool_t, isi_bool_d, isi_str_n, isi_str_b, isi_str_i, isi_str_s, isi_str_l, isi_str_t, isi_str_d, isi_list_n, isi_list_b, isi_list_i, isi_list_s, isi_list_l, isi_list_t, isi_list_d, isi_tuple_n, isi_tuple_b, isi_tuple_i, isi_tuple_s, isi_tuple_l, isi_tuple_t, isi_tuple_d, isi_dict_n, isi_dict_b, isi_dict_i, isi_dict_s, isi_dict_l, isi_dict_t, isi_dict_d, notD_b, isNone_n, isNone_s, isNone_i, isNone_t, isNone_l, kPure_ap, pickD_1, pickD_2, pickD_3, pickD_4, appD_l, extD_l, List.getElem?_cons_zero, List.getElem?_cons_succ, List.set_cons_zero, List.set_cons_succ, initE, Option.map_some, List.replicate, posT, getO, fillA, putA, Bool.not_true, Bool.not_false, if_true, if_false, Bool.false_eq_true, Option.bind_some, wipeE, restE, reduceIte, List.length_cons, List.length_nil, fwp_mk, fwp_mko, Nat.reduceAdd, Nat.reduceSub, List.append_nil, List.nil_append, List.cons_append, List.reverse_cons, List.reverse_nil, Int.reduceLT, Int.reduceLE, Int.reduceAdd, Int.reduceMul, Int.reduceNeg, decide_true, decide_false, decide_eq_true_eq, Int.reduceEq, Option.map_none, and_self, and_true, true_and, Bool.true_and, Bool.false_and, Bool.or_true, Bool.or_false, List.isEmpty_nil, List.isEmpty_cons, List.getElem?_nil, Option.isSome_some, Int.cast_ofNat_Int, Bool.not_eq_true, Bool.and_true, Bool.and_self, Bool.true_or, Bool.false_or, Bool.and_false, Int.reduceSub, Int.natCast_zero, Int.reduceGT, Int.reduceGE, ne_eq, not_true_eq_false, not_false_eq_true, told_at_eq hh hl hr hk, (told_w hr).1]
    rfl
  · have hlen : (((rng low (high + 1)).map (ofI (wordA h rows kind (fs.map PyData.int)))).length : Int) = ((high + 1 - low).toNat : Int) := by rw [List.length_map, rng_len]
    simp -implicitDefEqProofs only [owp_ok, fwp_ok, onS_s, onS_n, gR_f, gQ_f, gQ_o, gL_f, gL_o, gO_o, opL_op, wp_ret, kE_ap, kSet_ap, ifM_t, ifM_f, wp_vr, wp_vq, wp_vl, wp_vo, kBin2_ap, kBin1_ap, wp_bin, kUna_ap, wp_una, kBL2_ap, kBL1_ap, kBL0_ap, wp_binL, wp_seq0, kS2_ap, kS1_ap, wp_seq1, kTup_ap, wp_tup, kLst_ap, wp_lst, wp_seqP0, kP3_ap, kP2_ap, kP1_ap, wp_seqP1, wp_noX, kDsp_ap, wp_dsp, kBool_ap, wp_boolOf, kN_ap, kNN_ap, wp_isN, wp_isNN, kC4_ap, kC3_ap, wp_bl, kC2_ap, kC1_ap, wp_chn, kTru_ap, wp_truM, kNot_ap, wp_notM, kIf_ap, wp_andM, wp_orM, wp_ite, wp_if, kAndV2_ap, kAndV_ap, wp_andV, kOrV2_ap, kOrV_ap, wp_orV, kNotV2_ap, kNotV_ap, wp_notV, wp_part0, kPart_ap, wp_part1, kSl2_ap, kSl1_ap, kSl0_ap, wp_sl, kSL3_ap, kSL2_ap, kSL1_ap, kSL0_ap, wp_slL, wp_evA0, kA1_ap, wp_evAv, kA2_ap, wp_evAio, kCall4_ap, kCall3_ap, kCall2_ap, kCall1_ap, wp_call, kK2_ap, kK1_ap, wp_callK, wp_nx, wp_bk, wp_ct, wp_no, kSeq_nx, kSeq_rt, kSeq_ro, kSeq_bk, kSeq_ct, wp_seq, kNx_ap, kExp_ap, kRt_ap, kRo_ap, wp_expr, wp_rt, wp_rtN, wp_ro, kAsg_ap, wp_asg, wp_asgO, kI3_ap, kI2_ap, kI1_ap, kI0b_ap, kI0_ap, wp_setIx, kM2_ap, kM1_ap, kM0_ap, wp_mt, kIt_ap, kIts_ap, wp_walkA, wp_range1, wp_range2, wp_range3, wp_zipM, wp_enumM, kFor_ap, wp_for, kTurn_nx, kTurn_ct, kTurn_bk, kTurn_rt, kTurn_ro, kElt_ap, kCond_t, kCond_f, wp_lc, endF_rt, endF_nx, endO_ro, kBody_ap, addD_i, addD_s, addD_t, addD_l, subD_i, mulD_i, modD_i, ltD_i, ltD_s, leD_i, gtD_i, geD_i, negD_i, isBD_b, isnBD_b, truD_b, truD_i, truD_n, truD_l, truD_t, lenD_l, lenD_t, lenD_s, intD_i, intD_b, absD_i, listD_l, listD_t, tupD_l, tupD_t, max2D_i, min2D_i, isiD_d, revD_l, slD_l, slD_t, itemsA_l, itemsA_t, itemsA_s, ixD_l, ixD_t, zpD_l, zpD_t, setT_t, setTr_t, setNs_0, setNs_1, setN_z, setN_s, setO_z, setO_s, atI_z, atI_1, atI_2, atI_3, atI_4, setIx_0, setIx_1, setIx_2, sumD_map, rg1_i, rg2_i, eqD_i, neD_i, isi_int_n, isi_int_b, isi_int_i, isi_int_s, isi_int_l, isi_int_t, isi_int_d, isi_bool_n, isi_bool_b, isi_bool_i, isi_bool_s, isi_bool_l, isi_bool_t, isi_bool_d, isi_str_n, isi_str_b, isi_str_i, isi_str_s, isi_str_l, isi_str_t, isi_str_d, isi_list_n, isi_list_b, isi_list_i, isi_list_s, isi_list_l, isi_list_t, isi_list_d, isi_tuple_n, isi_tuple_b, isi_tuple_i, isi_tuple_s, isi_tuple_l, isi_tuple_t, isi_tuple_d, isi_dict_n, isi_dict_b, isi_dict_i, isi_dict_s, isi_dict_l, isi_dict_t, isi_dict_d, notD_b, isNone_n, isNone_s, isNone_i, isNone_t, isNone_l, kPure_ap, pickD_1, pickD_2, pickD_3, pickD_4, appD_l, extD_l, List.getElem?_cons_zero, List.getElem?_cons_succ, List.set_cons_zero, List.set_cons_succ, initE, Option.map_some, List.replicate, posT, getO, fillA, putA, Bool.not_true, Bool.not_false, if_true, if_false, Bool.false_eq_true, Option.bind_some, wipeE, restE, reduceIte, List.length_cons, List.length_nil, fwp_mk, fwp_mko, Nat.reduceAdd, Nat.reduceSub, List.append_nil, List.nil_append, List.cons_append, List.reverse_cons, List.reverse_nil, Int.reduceLT, Int.reduceLE, Int.reduceAdd, Int.reduceMul, Int.reduceNeg, decide_true, decide_false, decide_eq_true_eq, Int.reduceEq, Option.map_none, and_self, and_true, true_and, Bool.true_and, Bool.false_and, Bool.or_true, Bool.or_false, List.isEmpty_nil, List.isEmpty_cons, List.getElem?_nil, Option.isSome_some, Int.cast_ofNat_Int, Bool.not_eq_true, Bool.and_true, Bool.and_self, Bool.true_or, Bool.false_or, Bool.and_false, Int.reduceSub, Int.natCast_zero, Int.reduceGT, Int.reduceGE, ne_eq, not_true_eq_false, not_false_eq_true, hlen, rOk_s (a := 1) (by omega), rOk_s (a := ((high + 1 - low).toNat : Int)) (by omega)]
    refine kLc_filter (ofB fun i => ne2 (wordA h rows kind (fs.map PyData.int) (low + i)) (wordA h rows kind (fs.map PyData.int) (low + (i - 1)))) (ofI fun i => .int (low + i)) (fun d hd => ?_) (by rw [sizeLine_eq, rng_len]; omega) ?_
    · obtain ⟨t, rfl, ht0, ht1⟩ := rng_mem hd
      simp -implicitDefEqProofs only [owp_ok, fwp_ok, onS_s, onS_n, gR_f, gQ_f, gQ_o, gL_f, gL_o, gO_o, opL_op, wp_ret, kE_ap, kSet_ap, ifM_t, ifM_f, wp_vr, wp_vq, wp_vl, wp_vo, kBin2_ap, kBin1_ap, wp_bin, kUna_ap, wp_una, kBL2_ap, kBL1_ap, kBL0_ap, wp_binL, wp_seq0, kS2_ap, kS1_ap, wp_seq1, kTup_ap, wp_tup, kLst_ap, wp_lst, wp_seqP0, kP3_ap, kP2_ap, kP1_ap, wp_seqP1, wp_noX, kDsp_ap, wp_dsp, kBool_ap, wp_boolOf, kN_ap, kNN_ap, wp_isN, wp_isNN, kC4_ap, kC3_ap, wp_bl, kC2_ap, kC1_ap, wp_chn, kTru_ap, wp_truM, kNot_ap, wp_notM, kIf_ap, wp_andM, wp_orM, wp_ite, wp_if, kAndV2_ap, kAndV_ap, wp_andV, kOrV2_ap, kOrV_ap, wp_orV, kNotV2_ap, kNotV_ap, wp_notV, wp_part0, kPart_ap, wp_part1, kSl2_ap, kSl1_ap, kSl0_ap, wp_sl, kSL3_ap, kSL2_ap, kSL1_ap, kSL0_ap, wp_slL, wp_evA0, kA1_ap, wp_evAv, kA2_ap, wp_evAio, kCall4_ap, kCall3_ap, kCall2_ap, kCall1_ap, wp_call, kK2_ap, kK1_ap, wp_callK, wp_nx, wp_bk, wp_ct, wp_no, kSeq_nx, kSeq_rt, kSeq_ro, kSeq_bk, kSeq_ct, wp_seq, kNx_ap, kExp_ap, kRt_ap, kRo_ap, wp_expr, wp_rt, wp_rtN, wp_ro, kAsg_ap, wp_asg, wp_asgO, kI3_ap, kI2_ap, kI1_ap, kI0b_ap, kI0_ap, wp_setIx, kM2_ap, kM1_ap, kM0_ap, wp_mt, kIt_ap, kIts_ap, wp_walkA, wp_range1, wp_range2, wp_range3, wp_zipM, wp_enumM, kFor_ap, wp_for, kTurn_nx, kTurn_ct, kTurn_bk, kTurn_rt, kTurn_ro, kElt_ap, kCond_t, kCond_f, wp_lc, endF_rt, endF_nx, endO_ro, kBody_ap, addD_i, addD_s, addD_t, addD_l, subD_i, mulD_i, modD_i, ltD_i, ltD_s, leD_i, gtD_i, geD_i, negD_i, isBD_b, isnBD_b, truD_b, truD_i, truD_n, truD_l, truD_t, lenD_l, lenD_t, lenD_s, intD_i, intD_b, absD_i, listD_l, listD_t, tupD_l, tupD_t, max2D_i, min2D_i, isiD_d, revD_l, slD_l, slD_t, itemsA_l, itemsA_t, itemsA_s, ixD_l, ixD_t, zpD_l, zpD_t, setT_t, setTr_t, setNs_0, setNs_1, setN_z, setN_s, setO_z, setO_s, atI_z, atI_1, atI_2, atI_3, atI_4, setIx_0, setIx_1, setIx_2, sumD_map, rg1_i, rg2_i, eqD_i, neD_i, isi_int_n, isi_int_b, isi_int_i, isi_int_s, isi_int_l, isi_int_t, isi_int_d, isi_bool_n, isi_bool_b, isi_bool_i, isi_bool_s, isi_bool_l, isi_bool_t, isi_bool_d, isi_str_n, isi_str_b, isi_str_i, isi_str_s, isi_str_l, isi_str_t, isi_str_d, isi_list_n, isi_list_b, isi_list_i, isi_list_s, isi_list_l, isi_list_t, isi_list_d, isi_tuple_n, isi_tuple_b, isi_tuple_i, isi_tuple_s, isi_tuple_l, isi_tuple_t, isi_tuple_d, isi_dict_n, isi_dict_b, isi_dict_i, isi_dict_s, isi_dict_l, isi_dict_t, isi_dict_d, notD_b, isNone_n, isNone_s, isNone_i, isNone_t, isNone_l, kPure_ap, pickD_1, pickD_2, pickD_3, pickD_4, appD_l, extD_l, List.getElem?_cons_zero, List.getElem?_cons_succ, List.set_cons_zero, List.set_cons_succ, initE, Option.map_some, List.replicate, posT, getO, fillA, putA, Bool.not_true, Bool.not_false, if_true, if_false, Bool.false_eq_true, Option.bind_some, wipeE, restE, reduceIte, List.length_cons, List.length_nil, fwp_mk, fwp_mko, Nat.reduceAdd, Nat.reduceSub, List.append_nil, List.nil_append, List.cons_append, List.reverse_cons, List.reverse_nil, Int.reduceLT, Int.reduceLE, Int.reduceAdd, Int.reduceMul, Int.reduceNeg, decide_true, decide_false, decide_eq_true_eq, Int.reduceEq, Option.map_none, and_self, and_true, true_and, Bool.true_and, Bool.false_and, Bool.or_true, Bool.or_false, List.isEmpty_nil, List.isEmpty_cons, List.getElem?_nil, Option.isSome_some, Int.cast_ofNat_Int, Bool.not_eq_true, Bool.and_true, Bool.and_self, Bool.true_or, Bool.false_or, Bool.and_false, Int.reduceSub, Int.natCast_zero, Int.reduceGT, Int.reduceGE, ne_eq, not_true_eq_false, not_false_eq_true, rng_at (a := low) (b := high + 1) (k := t) (by omega) (by omega), rng_at (a := low) (b := high + 1) (k := t - 1) (by omega) (by omega), word_ne (hW _) (hW _), ofB, kPure_ap, ofI, implies_true]
    · simp -implicitDefEqProofs only [owp_ok, fwp_ok, onS_s, onS_n, gR_f, gQ_f, gQ_o, gL_f, gL_o, gO_o, opL_op, wp_ret, kE_ap, kSet_ap, ifM_t, ifM_f, wp_vr, wp_vq, wp_vl, wp_vo, kBin2_ap, kBin1_ap, wp_bin, kUna_ap, wp_una, kBL2_ap, kBL1_ap, kBL0_ap, wp_binL, wp_seq0, kS2_ap, kS1_ap, wp_seq1, kTup_ap, wp_tup, kLst_ap, wp_lst, wp_seqP0, kP3_ap, kP2_ap, kP1_ap, wp_seqP1, wp_noX, kDsp_ap, wp_dsp, kBool_ap, wp_boolOf, kN_ap, kNN_ap, wp_isN, wp_isNN, kC4_ap, kC3_ap, wp_bl, kC2_ap, kC1_ap, wp_chn, kTru_ap, wp_truM, kNot_ap, wp_notM, kIf_ap, wp_andM, wp_orM, wp_ite, wp_if, kAndV2_ap, kAndV_ap, wp_andV, kOrV2_ap, kOrV_ap, wp_orV, kNotV2_ap, kNotV_ap, wp_notV, wp_part0, kPart_ap, wp_part1, kSl2_ap, kSl1_ap, kSl0_ap, wp_sl, kSL3_ap, kSL2_ap, kSL1_ap, kSL0_ap, wp_slL, wp_evA0, kA1_ap, wp_evAv, kA2_ap, wp_evAio, kCall4_ap, kCall3_ap, kCall2_ap, kCall1_ap, wp_call, kK2_ap, kK1_ap, wp_callK, wp_nx, wp_bk, wp_ct, wp_no, kSeq_nx, kSeq_rt, kSeq_ro, kSeq_bk, kSeq_ct, wp_seq, kNx_ap, kExp_ap, kRt_ap, kRo_ap, wp_expr, wp_rt, wp_rtN, wp_ro, kAsg_ap, wp_asg, wp_asgO, kI3_ap, kI2_ap, kI1_ap, kI0b_ap, kI0_ap, wp_setIx, kM2_ap, kM1_ap, kM0_ap, wp_mt, kIt_ap, kIts_ap, wp_walkA, wp_range1, wp_range2, wp_range3, wp_zipM, wp_enumM, kFor_ap, wp_for, kTurn_nx, kTurn_ct, kTurn_bk, kTurn_rt, kTurn_ro, kElt_ap, kCond_t, kCond_f, wp_lc, endF_rt, endF_nx, endO_ro, kBody_ap, addD_i, addD_s, addD_t, addD_l, subD_i, mulD_i, modD_i, ltD_i, ltD_s, leD_i, gtD_i, geD_i, negD_i, isBD_b, isnBD_b, truD_b, truD_i, truD_n, truD_l, truD_t, lenD_l, lenD_t, lenD_s, intD_i, intD_b, absD_i, listD_l, listD_t, tupD_l, tupD_t, max2D_i, min2D_i, isiD_d, revD_l, slD_l, slD_t, itemsA_l, itemsA_t, itemsA_s, ixD_l, ixD_t, zpD_l, zpD_t, setT_t, setTr_t, setNs_0, setNs_1, setN_z, setN_s, setO_z, setO_s, atI_z, atI_1, atI_2, atI_3, atI_4, setIx_0, setIx_1, setIx_2, sumD_map, rg1_i, rg2_i, eqD_i, neD_i, isi_int_n, isi_int_b, isi_int_i, isi_int_s, isi_int_l, isi_int_t, isi_int_d, isi_bool_n, isi_bool_b, isi_bool_i, isi_bool_s, isi_bool_l, isi_bool_t, isi_bool_d, isi_str_n, isi_str_b, isi_str_i, isi_str_s, isi_str_l, isi_str_t, isi_str_d, isi_list_n, isi_list_b, isi_list_i, isi_list_s, isi_list_l, isi_list_t, isi_list_d, isi_tuple_n, isi_tuple_b, isi_tuple_i, isi_tuple_s, isi_tuple_l, isi_tuple_t, isi_tuple_d, isi_dict_n, isi_dict_b, isi_dict_i, isi_dict_s, isi_dict_l, isi_dict_t, isi_dict_d, notD_b, isNone_n, isNone_s, isNone_i, isNone_t, isNone_l, kPure_ap, pickD_1, pickD_2, pickD_3, pickD_4, appD_l, extD_l, List.getElem?_cons_zero, List.getElem?_cons_succ, List.set_cons_zero, List.set_cons_succ, initE, Option.map_some, List.replicate, posT, getO, fillA, putA, Bool.not_true, Bool.not_false, if_true, if_false, Bool.false_eq_true, Option.bind_some, wipeE, restE, reduceIte, List.length_cons, List.length_nil, fwp_mk, fwp_mko, Nat.reduceAdd, Nat.reduceSub, List.append_nil, List.nil_append, List.cons_append, List.reverse_cons, List.reverse_nil, Int.reduceLT, Int.reduceLE, Int.reduceAdd, Int.reduceMul, Int.reduceNeg, decide_true, decide_false, decide_eq_true_eq, Int.reduceEq, Option.map_none, and_self, and_true, true_and, Bool.true_and, Bool.false_and, Bool.or_true, Bool.or_false, List.isEmpty_nil, List.isEmpty_cons, List.getElem?_nil, Option.isSome_some, Int.cast_ofNat_Int, Bool.not_eq_true, Bool.and_true, Bool.and_self, Bool.true_or, Bool.false_or, Bool.and_false, Int.reduceSub, Int.natCast_zero, Int.reduceGT, Int.reduceGE, ne_eq, not_true_eq_false, not_false_eq_true]
      unfold chg
      congr 1
      by_cases hlh : low ≤ high
      · have e1 : ((high + 1 - low).toNat : Int) = ((high - low).toNat : Int) + 1 := by omega
        have e2 : high + 1 = low + 1 + ((high - low).toNat : Int) := by omega
        rw [e1, shift_rng low _ _ (fun t => ne2 (wordA h rows kind (fs.map PyData.int) t) (wordA h rows kind (fs.map PyData.int) (t - 1))) (fun i _ => by rw [show low + (i - 1) = low + i - 1 by omega]), ← e2]
      · have e1 : rng 1 ((high + 1 - low).toNat : Int) = [] := by
          rw [← List.length_eq_zero_iff, rng_len]; omega
        have e2 : rng (low + 1) (high + 1) = [] := by
          rw [← List.length_eq_zero_iff, rng_len]; omega
        rw [e1, e2]; rfl
theorem chg_ints (W : Int → D) (low high : Int) : ∃ ts : List Int, chg W low high = ts.map PyData.int ∧ (∀ t ∈ ts, low + 1 ≤ t ∧ t < high + 1) ∧ ts.length ≤ (high - low).toNat := by
  unfold chg rng
  rw [List.filter_map]
  refine ⟨((List.range (high + 1 - (low + 1)).toNat).filter (ofB (fun t => ne2 (W t) (W (t - 1))) ∘ fun i : Nat => PyData.int (low + 1 + (i : Int)))).map (fun i : Nat => low + 1 + (i : Int)), by rw [List.map_map]; rfl, fun t ht => ?_, ?_⟩
  · obtain ⟨i, hi, rfl⟩ := List.mem_map.mp ht
    have := List.mem_range.mp (List.mem_filter.mp hi).1
    omega
  · rw [List.length_map]
    refine Nat.le_trans (List.length_filter_le _ _) ?_
    rw [List.length_range]; omega
seal Wp Owp Fwp onS
theorem right_ok {n h : Int} {p : D} {rows : List D} {fs : List Int} (hp : PotOk n p) (hn : n ≤ 100000000000000000) (hh : HoursOk h) (hs : SignOk h (.tuple [.int h, .tuple rows])) (hf : FeastsOk (.tuple (fs.map PyData.int))) :
    Fwp (F__law_are_answers_right [p, .tuple [.int h, .tuple rows], .tuple (fs.map PyData.int)]) fun d outs => ∃ p', d = .bool true ∧ outs = [p'] ∧ PotOk (n + 10) p' := by
  have hb := hours_b hh
  obtain ⟨rows', e, hl, hr⟩ := id hs
  cases e
  unfold F__law_are_answers_right
  rw [fwp_mk]
  simp -implicitDefEqProofs only [owp_ok, fwp_ok, onS_s, onS_n, gR_f, gQ_f, gQ_o, gL_f, gL_o, gO_o, opL_op, wp_ret, kE_ap, kSet_ap, ifM_t, ifM_f, wp_vr, wp_vq, wp_vl, wp_vo, kBin2_ap, kBin1_ap, wp_bin, kUna_ap, wp_una, kBL2_ap, kBL1_ap, kBL0_ap, wp_binL, wp_seq0, kS2_ap, kS1_ap, wp_seq1, kTup_ap, wp_tup, kLst_ap, wp_lst, wp_seqP0, kP3_ap, kP2_ap, kP1_ap, wp_seqP1, wp_noX, kDsp_ap, wp_dsp, kBool_ap, wp_boolOf, kN_ap, kNN_ap, wp_isN, wp_isNN, kC4_ap, kC3_ap, wp_bl, kC2_ap, kC1_ap, wp_chn, kTru_ap, wp_truM, kNot_ap, wp_notM, kIf_ap, wp_andM, wp_orM, wp_ite, wp_if, kAndV2_ap, kAndV_ap, wp_andV, kOrV2_ap, kOrV_ap, wp_orV, kNotV2_ap, kNotV_ap, wp_notV, wp_part0, kPart_ap, wp_part1, kSl2_ap, kSl1_ap, kSl0_ap, wp_sl, kSL3_ap, kSL2_ap, kSL1_ap, kSL0_ap, wp_slL, wp_evA0, kA1_ap, wp_evAv, kA2_ap, wp_evAio, kCall4_ap, kCall3_ap, kCall2_ap, kCall1_ap, wp_call, kK2_ap, kK1_ap, wp_callK, wp_nx, wp_bk, wp_ct, wp_no, kSeq_nx, kSeq_rt, kSeq_ro, kSeq_bk, kSeq_ct, wp_seq, kNx_ap, kExp_ap, kRt_ap, kRo_ap, wp_expr, wp_rt, wp_rtN, wp_ro, kAsg_ap, wp_asg, wp_asgO, kI3_ap, kI2_ap, kI1_ap, kI0b_ap, kI0_ap, wp_setIx, kM2_ap, kM1_ap, kM0_ap, wp_mt, kIt_ap, kIts_ap, wp_walkA, wp_range1, wp_range2, wp_range3, wp_zipM, wp_enumM, kFor_ap, wp_for, kTurn_nx, kTurn_ct, kTurn_bk, kTurn_rt, kTurn_ro, kElt_ap, kCond_t, kCond_f, wp_lc, endF_rt, endF_nx, endO_ro, kBody_ap, addD_i, addD_s, addD_t, addD_l, subD_i, mulD_i, modD_i, ltD_i, ltD_s, leD_i, gtD_i, geD_i, negD_i, isBD_b, isnBD_b, truD_b, truD_i, truD_n, truD_l, truD_t, lenD_l, lenD_t, lenD_s, intD_i, intD_b, absD_i, listD_l, listD_t, tupD_l, tupD_t, max2D_i, min2D_i, isiD_d, revD_l, slD_l, slD_t, itemsA_l, itemsA_t, itemsA_s, ixD_l, ixD_t, zpD_l, zpD_t, setT_t, setTr_t, setNs_0, setNs_1, setN_z, setN_s, setO_z, setO_s, atI_z, atI_1, atI_2, atI_3, atI_4, setIx_0, setIx_1, setIx_2, sumD_map, rg1_i, rg2_i, eqD_i, neD_i, isi_int_n, isi_int_b, isi_int_i, isi_int_s, isi_int_l, isi_int_t, isi_int_d, isi_bool_n, isi_bool_b, isi_bool_i, isi_bool_s, isi_bool_l, isi_bool_t, isi_bool_d, isi_str_n, isi_str_b, isi_str_i, isi_str_s, isi_str_l, isi_str_t, isi_str_d, isi_list_n, isi_list_b, isi_list_i, isi_list_s, isi_list_l, isi_list_t, isi_list_d, isi_tuple_n, isi_tuple_b, isi_tuple_i, isi_tuple_s, isi_tuple_l, isi_tuple_t, isi_tuple_d, isi_dict_n, isi_dict_b, isi_dict_i, isi_dict_s, isi_dict_l, isi_dict_t, isi_dict_d, notD_b, isNone_n, isNone_s, isNone_i, isNone_t, isNone_l, kPure_ap, pickD_1, pickD_2, pickD_3, pickD_4, appD_l, extD_l, List.getElem?_cons_zero, List.getElem?_cons_succ, List.set_cons_zero, List.set_cons_succ, initE, Option.map_some, List.replicate, posT, getO, fillA, putA, Bool.not_true, Bool.not_false, if_true, if_false, Bool.false_eq_true, Option.bind_some, wipeE, restE, reduceIte, List.length_cons, List.length_nil, fwp_mk, fwp_mko, Nat.reduceAdd, Nat.reduceSub, List.append_nil, List.nil_append, List.cons_append, List.reverse_cons, List.reverse_nil, Int.reduceLT, Int.reduceLE, Int.reduceAdd, Int.reduceMul, Int.reduceNeg, decide_true, decide_false, decide_eq_true_eq, Int.reduceEq, Option.map_none, and_self, and_true, true_and, Bool.true_and, Bool.false_and, Bool.or_true, Bool.or_false, List.isEmpty_nil, List.isEmpty_cons, List.getElem?_nil, Option.isSome_some, Int.cast_ofNat_Int, Bool.not_eq_true, Bool.and_true, Bool.and_self, Bool.true_or, Bool.false_or, Bool.and_false, Int.reduceSub, Int.natCast_zero, Int.reduceGT, Int.reduceGE, ne_eq, not_true_eq_false, not_false_eq_true, B__law_are_answers_right]
  refine (of_ok hp (by omega) (by simp) (by simp)).mono ?_
  rintro kind _ ⟨p1, hkm, rfl, hp1⟩
  have hk : KindOk kind := by
    simp only [List.mem_cons, List.not_mem_nil, or_false] at hkm
    exact hkm
  have hW : ∀ t, WordOk (wordA h rows kind (fs.map PyData.int) t) := fun t => (told_w hr).2
  simp -implicitDefEqProofs only [owp_ok, fwp_ok, onS_s, onS_n, gR_f, gQ_f, gQ_o, gL_f, gL_o, gO_o, opL_op, wp_ret, kE_ap, kSet_ap, ifM_t, ifM_f, wp_vr, wp_vq, wp_vl, wp_vo, kBin2_ap, kBin1_ap, wp_bin, kUna_ap, wp_una, kBL2_ap, kBL1_ap, kBL0_ap, wp_binL, wp_seq0, kS2_ap, kS1_ap, wp_seq1, kTup_ap, wp_tup, kLst_ap, wp_lst, wp_seqP0, kP3_ap, kP2_ap, kP1_ap, wp_seqP1, wp_noX, kDsp_ap, wp_dsp, kBool_ap, wp_boolOf, kN_ap, kNN_ap, wp_isN, wp_isNN, kC4_ap, kC3_ap, wp_bl, kC2_ap, kC1_ap, wp_chn, kTru_ap, wp_truM, kNot_ap, wp_notM, kIf_ap, wp_andM, wp_orM, wp_ite, wp_if, kAndV2_ap, kAndV_ap, wp_andV, kOrV2_ap, kOrV_ap, wp_orV, kNotV2_ap, kNotV_ap, wp_notV, wp_part0, kPart_ap, wp_part1, kSl2_ap, kSl1_ap, kSl0_ap, wp_sl, kSL3_ap, kSL2_ap, kSL1_ap, kSL0_ap, wp_slL, wp_evA0, kA1_ap, wp_evAv, kA2_ap, wp_evAio, kCall4_ap, kCall3_ap, kCall2_ap, kCall1_ap, wp_call, kK2_ap, kK1_ap, wp_callK, wp_nx, wp_bk, wp_ct, wp_no, kSeq_nx, kSeq_rt, kSeq_ro, kSeq_bk, kSeq_ct, wp_seq, kNx_ap, kExp_ap, kRt_ap, kRo_ap, wp_expr, wp_rt, wp_rtN, wp_ro, kAsg_ap, wp_asg, wp_asgO, kI3_ap, kI2_ap, kI1_ap, kI0b_ap, kI0_ap, wp_setIx, kM2_ap, kM1_ap, kM0_ap, wp_mt, kIt_ap, kIts_ap, wp_walkA, wp_range1, wp_range2, wp_range3, wp_zipM, wp_enumM, kFor_ap, wp_for, kTurn_nx, kTurn_ct, kTurn_bk, kTurn_rt, kTurn_ro, kElt_ap, kCond_t, kCond_f, wp_lc, endF_rt, endF_nx, endO_ro, kBody_ap, addD_i, addD_s, addD_t, addD_l, subD_i, mulD_i, modD_i, ltD_i, ltD_s, leD_i, gtD_i, geD_i, negD_i, isBD_b, isnBD_b, truD_b, truD_i, truD_n, truD_l, truD_t, lenD_l, lenD_t, lenD_s, intD_i, intD_b, absD_i, listD_l, listD_t, tupD_l, tupD_t, max2D_i, min2D_i, isiD_d, revD_l, slD_l, slD_t, itemsA_l, itemsA_t, itemsA_s, ixD_l, ixD_t, zpD_l, zpD_t, setT_t, setTr_t, setNs_0, setNs_1, setN_z, setN_s, setO_z, setO_s, atI_z, atI_1, atI_2, atI_3, atI_4, setIx_0, setIx_1, setIx_2, sumD_map, rg1_i, rg2_i, eqD_i, neD_i, isi_int_n, isi_int_b, isi_int_i, isi_int_s, isi_int_l, isi_int_t, isi_int_d, isi_bool_n, isi_bool_b, isi_bool_i, isi_bool_s, isi_bool_l, isi_bool_t, isi_bool_d, isi_str_n, isi_str_b, isi_str_i, isi_str_s, isi_str_l, isi_str_t, isi_str_d, isi_list_n, isi_list_b, isi_list_i, isi_list_s, isi_list_l, isi_list_t, isi_list_d, isi_tuple_n, isi_tuple_b, isi_tuple_i, isi_tuple_s, isi_tuple_l, isi_tuple_t, isi_tuple_d, isi_dict_n, isi_dict_b, isi_dict_i, isi_dict_s, isi_dict_l, isi_dict_t, isi_dict_d, notD_b, isNone_n, isNone_s, isNone_i, isNone_t, isNone_l, kPure_ap, pickD_1, pickD_2, pickD_3, pickD_4, appD_l, extD_l, List.getElem?_cons_zero, List.getElem?_cons_succ, List.set_cons_zero, List.set_cons_succ, initE, Option.map_some, List.replicate, posT, getO, fillA, putA, Bool.not_true, Bool.not_false, if_true, if_false, Bool.false_eq_true, Option.bind_some, wipeE, restE, reduceIte, List.length_cons, List.length_nil, fwp_mk, fwp_mko, Nat.reduceAdd, Nat.reduceSub, List.append_nil, List.nil_append, List.cons_append, List.reverse_cons, List.reverse_nil, Int.reduceLT, Int.reduceLE, Int.reduceAdd, Int.reduceMul, Int.reduceNeg, decide_true, decide_false, decide_eq_true_eq, Int.reduceEq, Option.map_none, and_self, and_true, true_and, Bool.true_and, Bool.false_and, Bool.or_true, Bool.or_false, List.isEmpty_nil, List.isEmpty_cons, List.getElem?_nil, Option.isSome_some, Int.cast_ofNat_Int, Bool.not_eq_true, Bool.and_true, Bool.and_self, Bool.true_or, Bool.false_or, Bool.and_false, Int.reduceSub, Int.natCast_zero, Int.reduceGT, Int.reduceGE, ne_eq, not_true_eq_false, not_false_eq_true]
  refine (take_ok (u := 999) hp1 (by omega) (by omega) (by omega)).mono ?_
  rintro _ _ ⟨a, p2, rfl, rfl, ha0, ha1, hp2⟩
  simp -implicitDefEqProofs only [owp_ok, fwp_ok, onS_s, onS_n, gR_f, gQ_f, gQ_o, gL_f, gL_o, gO_o, opL_op, wp_ret, kE_ap, kSet_ap, ifM_t, ifM_f, wp_vr, wp_vq, wp_vl, wp_vo, kBin2_ap, kBin1_ap, wp_bin, kUna_ap, wp_una, kBL2_ap, kBL1_ap, kBL0_ap, wp_binL, wp_seq0, kS2_ap, kS1_ap, wp_seq1, kTup_ap, wp_tup, kLst_ap, wp_lst, wp_seqP0, kP3_ap, kP2_ap, kP1_ap, wp_seqP1, wp_noX, kDsp_ap, wp_dsp, kBool_ap, wp_boolOf, kN_ap, kNN_ap, wp_isN, wp_isNN, kC4_ap, kC3_ap, wp_bl, kC2_ap, kC1_ap, wp_chn, kTru_ap, wp_truM, kNot_ap, wp_notM, kIf_ap, wp_andM, wp_orM, wp_ite, wp_if, kAndV2_ap, kAndV_ap, wp_andV, kOrV2_ap, kOrV_ap, wp_orV, kNotV2_ap, kNotV_ap, wp_notV, wp_part0, kPart_ap, wp_part1, kSl2_ap, kSl1_ap, kSl0_ap, wp_sl, kSL3_ap, kSL2_ap, kSL1_ap, kSL0_ap, wp_slL, wp_evA0, kA1_ap, wp_evAv, kA2_ap, wp_evAio, kCall4_ap, kCall3_ap, kCall2_ap, kCall1_ap, wp_call, kK2_ap, kK1_ap, wp_callK, wp_nx, wp_bk, wp_ct, wp_no, kSeq_nx, kSeq_rt, kSeq_ro, kSeq_bk, kSeq_ct, wp_seq, kNx_ap, kExp_ap, kRt_ap, kRo_ap, wp_expr, wp_rt, wp_rtN, wp_ro, kAsg_ap, wp_asg, wp_asgO, kI3_ap, kI2_ap, kI1_ap, kI0b_ap, kI0_ap, wp_setIx, kM2_ap, kM1_ap, kM0_ap, wp_mt, kIt_ap, kIts_ap, wp_walkA, wp_range1, wp_range2, wp_range3, wp_zipM, wp_enumM, kFor_ap, wp_for, kTurn_nx, kTurn_ct, kTurn_bk, kTurn_rt, kTurn_ro, kElt_ap, kCond_t, kCond_f, wp_lc, endF_rt, endF_nx, endO_ro, kBody_ap, addD_i, addD_s, addD_t, addD_l, subD_i, mulD_i, modD_i, ltD_i, ltD_s, leD_i, gtD_i, geD_i, negD_i, isBD_b, isnBD_b, truD_b, truD_i, truD_n, truD_l, truD_t, lenD_l, lenD_t, lenD_s, intD_i, intD_b, absD_i, listD_l, listD_t, tupD_l, tupD_t, max2D_i, min2D_i, isiD_d, revD_l, slD_l, slD_t, itemsA_l, itemsA_t, itemsA_s, ixD_l, ixD_t, zpD_l, zpD_t, setT_t, setTr_t, setNs_0, setNs_1, setN_z, setN_s, setO_z, setO_s, atI_z, atI_1, atI_2, atI_3, atI_4, setIx_0, setIx_1, setIx_2, sumD_map, rg1_i, rg2_i, eqD_i, neD_i, isi_int_n, isi_int_b, isi_int_i, isi_int_s, isi_int_l, isi_int_t, isi_int_d, isi_bool_n, isi_bool_b, isi_bool_i, isi_bool_s, isi_bool_l, isi_bool_t, isi_bool_d, isi_str_n, isi_str_b, isi_str_i, isi_str_s, isi_str_l, isi_str_t, isi_str_d, isi_list_n, isi_list_b, isi_list_i, isi_list_s, isi_list_l, isi_list_t, isi_list_d, isi_tuple_n, isi_tuple_b, isi_tuple_i, isi_tuple_s, isi_tuple_l, isi_tuple_t, isi_tuple_d, isi_dict_n, isi_dict_b, isi_dict_i, isi_dict_s, isi_dict_l, isi_dict_t, isi_dict_d, notD_b, isNone_n, isNone_s, isNone_i, isNone_t, isNone_l, kPure_ap, pickD_1, pickD_2, pickD_3, pickD_4, appD_l, extD_l, List.getElem?_cons_zero, List.getElem?_cons_succ, List.set_cons_zero, List.set_cons_succ, initE, Option.map_some, List.replicate, posT, getO, fillA, putA, Bool.not_true, Bool.not_false, if_true, if_false, Bool.false_eq_true, Option.bind_some, wipeE, restE, reduceIte, List.length_cons, List.length_nil, fwp_mk, fwp_mko, Nat.reduceAdd, Nat.reduceSub, List.append_nil, List.nil_append, List.cons_append, List.reverse_cons, List.reverse_nil, Int.reduceLT, Int.reduceLE, Int.reduceAdd, Int.reduceMul, Int.reduceNeg, decide_true, decide_false, decide_eq_true_eq, Int.reduceEq, Option.map_none, and_self, and_true, true_and, Bool.true_and, Bool.false_and, Bool.or_true, Bool.or_false, List.isEmpty_nil, List.isEmpty_cons, List.getElem?_nil, Option.isSome_some, Int.cast_ofNat_Int, Bool.not_eq_true, Bool.and_true, Bool.and_self, Bool.true_or, Bool.false_or, Bool.and_false, Int.reduceSub, Int.natCast_zero, Int.reduceGT, Int.reduceGE, ne_eq, not_true_eq_false, not_false_eq_true]
  refine (take_ok (u := 900) hp2 (by omega) (by omega) (by omega)).mono ?_
  rintro _ _ ⟨b, p3, rfl, rfl, hb0, hb1, hp3⟩
  simp -implicitDefEqProofs only [owp_ok, fwp_ok, onS_s, onS_n, gR_f, gQ_f, gQ_o, gL_f, gL_o, gO_o, opL_op, wp_ret, kE_ap, kSet_ap, ifM_t, ifM_f, wp_vr, wp_vq, wp_vl, wp_vo, kBin2_ap, kBin1_ap, wp_bin, kUna_ap, wp_una, kBL2_ap, kBL1_ap, kBL0_ap, wp_binL, wp_seq0, kS2_ap, kS1_ap, wp_seq1, kTup_ap, wp_tup, kLst_ap, wp_lst, wp_seqP0, kP3_ap, kP2_ap, kP1_ap, wp_seqP1, wp_noX, kDsp_ap, wp_dsp, kBool_ap, wp_boolOf, kN_ap, kNN_ap, wp_isN, wp_isNN, kC4_ap, kC3_ap, wp_bl, kC2_ap, kC1_ap, wp_chn, kTru_ap, wp_truM, kNot_ap, wp_notM, kIf_ap, wp_andM, wp_orM, wp_ite, wp_if, kAndV2_ap, kAndV_ap, wp_andV, kOrV2_ap, kOrV_ap, wp_orV, kNotV2_ap, kNotV_ap, wp_notV, wp_part0, kPart_ap, wp_part1, kSl2_ap, kSl1_ap, kSl0_ap, wp_sl, kSL3_ap, kSL2_ap, kSL1_ap, kSL0_ap, wp_slL, wp_evA0, kA1_ap, wp_evAv, kA2_ap, wp_evAio, kCall4_ap, kCall3_ap, kCall2_ap, kCall1_ap, wp_call, kK2_ap, kK1_ap, wp_callK, wp_nx, wp_bk, wp_ct, wp_no, kSeq_nx, kSeq_rt, kSeq_ro, kSeq_bk, kSeq_ct, wp_seq, kNx_ap, kExp_ap, kRt_ap, kRo_ap, wp_expr, wp_rt, wp_rtN, wp_ro, kAsg_ap, wp_asg, wp_asgO, kI3_ap, kI2_ap, kI1_ap, kI0b_ap, kI0_ap, wp_setIx, kM2_ap, kM1_ap, kM0_ap, wp_mt, kIt_ap, kIts_ap, wp_walkA, wp_range1, wp_range2, wp_range3, wp_zipM, wp_enumM, kFor_ap, wp_for, kTurn_nx, kTurn_ct, kTurn_bk, kTurn_rt, kTurn_ro, kElt_ap, kCond_t, kCond_f, wp_lc, endF_rt, endF_nx, endO_ro, kBody_ap, addD_i, addD_s, addD_t, addD_l, subD_i, mulD_i, modD_i, ltD_i, ltD_s, leD_i, gtD_i, geD_i, negD_i, isBD_b, isnBD_b, truD_b, truD_i, truD_n, truD_l, truD_t, lenD_l, lenD_t, lenD_s, intD_i, intD_b, absD_i, listD_l, listD_t, tupD_l, tupD_t, max2D_i, min2D_i, isiD_d, revD_l, slD_l, slD_t, itemsA_l, itemsA_t, itemsA_s, ixD_l, ixD_t, zpD_l, zpD_t, setT_t, setTr_t, setNs_0, setNs_1, setN_z, setN_s, setO_z, setO_s, atI_z, atI_1, atI_2, atI_3, atI_4, setIx_0, setIx_1, setIx_2, sumD_map, rg1_i, rg2_i, eqD_i, neD_i, isi_int_n, isi_int_b, isi_int_i, isi_int_s, isi_int_l, isi_int_t, isi_int_d, isi_bool_n, isi_bool_b, isi_bool_i, isi_bool_s, isi_bool_l, isi_bool_t, isi_bool_d, isi_str_n, isi_str_b, isi_str_i, isi_str_s, isi_str_l, isi_str_t, isi_str_d, isi_list_n, isi_list_b, isi_list_i, isi_list_s, isi_list_l, isi_list_t, isi_list_d, isi_tuple_n, isi_tuple_b, isi_tuple_i, isi_tuple_s, isi_tuple_l, isi_tuple_t, isi_tuple_d, isi_dict_n, isi_dict_b, isi_dict_i, isi_dict_s, isi_dict_l, isi_dict_t, isi_dict_d, notD_b, isNone_n, isNone_s, isNone_i, isNone_t, isNone_l, kPure_ap, pickD_1, pickD_2, pickD_3, pickD_4, appD_l, extD_l, List.getElem?_cons_zero, List.getElem?_cons_succ, List.set_cons_zero, List.set_cons_succ, initE, Option.map_some, List.replicate, posT, getO, fillA, putA, Bool.not_true, Bool.not_false, if_true, if_false, Bool.false_eq_true, Option.bind_some, wipeE, restE, reduceIte, List.length_cons, List.length_nil, fwp_mk, fwp_mko, Nat.reduceAdd, Nat.reduceSub, List.append_nil, List.nil_append, List.cons_append, List.reverse_cons, List.reverse_nil, Int.reduceLT, Int.reduceLE, Int.reduceAdd, Int.reduceMul, Int.reduceNeg, decide_true, decide_false, decide_eq_true_eq, Int.reduceEq, Option.map_none, and_self, and_true, true_and, Bool.true_and, Bool.false_and, Bool.or_true, Bool.or_false, List.isEmpty_nil, List.isEmpty_cons, List.getElem?_nil, Option.isSome_some, Int.cast_ofNat_Int, Bool.not_eq_true, Bool.and_true, Bool.and_self, Bool.true_or, Bool.false_or, Bool.and_false, Int.reduceSub, Int.natCast_zero, Int.reduceGT, Int.reduceGE, ne_eq, not_true_eq_false, not_false_eq_true, mulOk_l (i := 14) (j := h) (by omega), lrgD_s PyData.list (a := 0) (b := 14 * h) (by omega)]
  have hsz : (rng 0 (14 * h)).length + 3 ≤ sizeLine := by rw [rng_len, sizeLine_eq]; omega
  simp -implicitDefEqProofs only [owp_ok, fwp_ok, onS_s, onS_n, gR_f, gQ_f, gQ_o, gL_f, gL_o, gO_o, opL_op, wp_ret, kE_ap, kSet_ap, ifM_t, ifM_f, wp_vr, wp_vq, wp_vl, wp_vo, kBin2_ap, kBin1_ap, wp_bin, kUna_ap, wp_una, kBL2_ap, kBL1_ap, kBL0_ap, wp_binL, wp_seq0, kS2_ap, kS1_ap, wp_seq1, kTup_ap, wp_tup, kLst_ap, wp_lst, wp_seqP0, kP3_ap, kP2_ap, kP1_ap, wp_seqP1, wp_noX, kDsp_ap, wp_dsp, kBool_ap, wp_boolOf, kN_ap, kNN_ap, wp_isN, wp_isNN, kC4_ap, kC3_ap, wp_bl, kC2_ap, kC1_ap, wp_chn, kTru_ap, wp_truM, kNot_ap, wp_notM, kIf_ap, wp_andM, wp_orM, wp_ite, wp_if, kAndV2_ap, kAndV_ap, wp_andV, kOrV2_ap, kOrV_ap, wp_orV, kNotV2_ap, kNotV_ap, wp_notV, wp_part0, kPart_ap, wp_part1, kSl2_ap, kSl1_ap, kSl0_ap, wp_sl, kSL3_ap, kSL2_ap, kSL1_ap, kSL0_ap, wp_slL, wp_evA0, kA1_ap, wp_evAv, kA2_ap, wp_evAio, kCall4_ap, kCall3_ap, kCall2_ap, kCall1_ap, wp_call, kK2_ap, kK1_ap, wp_callK, wp_nx, wp_bk, wp_ct, wp_no, kSeq_nx, kSeq_rt, kSeq_ro, kSeq_bk, kSeq_ct, wp_seq, kNx_ap, kExp_ap, kRt_ap, kRo_ap, wp_expr, wp_rt, wp_rtN, wp_ro, kAsg_ap, wp_asg, wp_asgO, kI3_ap, kI2_ap, kI1_ap, kI0b_ap, kI0_ap, wp_setIx, kM2_ap, kM1_ap, kM0_ap, wp_mt, kIt_ap, kIts_ap, wp_walkA, wp_range1, wp_range2, wp_range3, wp_zipM, wp_enumM, kFor_ap, wp_for, kTurn_nx, kTurn_ct, kTurn_bk, kTurn_rt, kTurn_ro, kElt_ap, kCond_t, kCond_f, wp_lc, endF_rt, endF_nx, endO_ro, kBody_ap, addD_i, addD_s, addD_t, addD_l, subD_i, mulD_i, modD_i, ltD_i, ltD_s, leD_i, gtD_i, geD_i, negD_i, isBD_b, isnBD_b, truD_b, truD_i, truD_n, truD_l, truD_t, lenD_l, lenD_t, lenD_s, intD_i, intD_b, absD_i, listD_l, listD_t, tupD_l, tupD_t, max2D_i, min2D_i, isiD_d, revD_l, slD_l, slD_t, itemsA_l, itemsA_t, itemsA_s, ixD_l, ixD_t, zpD_l, zpD_t, setT_t, setTr_t, setNs_0, setNs_1, setN_z, setN_s, setO_z, setO_s, atI_z, atI_1, atI_2, atI_3, atI_4, setIx_0, setIx_1, setIx_2, sumD_map, rg1_i, rg2_i, eqD_i, neD_i, isi_int_n, isi_int_b, isi_int_i, isi_int_s, isi_int_l, isi_int_t, isi_int_d, isi_bool_n, isi_bool_b, isi_bool_i, isi_bool_s, isi_bool_l, isi_bool_t, isi_bool_d, isi_str_n, isi_str_b, isi_str_i, isi_str_s, isi_str_l, isi_str_t, isi_str_d, isi_list_n, isi_list_b, isi_list_i, isi_list_s, isi_list_l, isi_list_t, isi_list_d, isi_tuple_n, isi_tuple_b, isi_tuple_i, isi_tuple_s, isi_tuple_l, isi_tuple_t, isi_tuple_d, isi_dict_n, isi_dict_b, isi_dict_i, isi_dict_s, isi_dict_l, isi_dict_t, isi_dict_d, notD_b, isNone_n, isNone_s, isNone_i, isNone_t, isNone_l, kPure_ap, pickD_1, pickD_2, pickD_3, pickD_4, appD_l, extD_l, List.getElem?_cons_zero, List.getElem?_cons_succ, List.set_cons_zero, List.set_cons_succ, initE, Option.map_some, List.replicate, posT, getO, fillA, putA, Bool.not_true, Bool.not_false, if_true, if_false, Bool.false_eq_true, Option.bind_some, wipeE, restE, reduceIte, List.length_cons, List.length_nil, fwp_mk, fwp_mko, Nat.reduceAdd, Nat.reduceSub, List.append_nil, List.nil_append, List.cons_append, List.reverse_cons, List.reverse_nil, Int.reduceLT, Int.reduceLE, Int.reduceAdd, Int.reduceMul, Int.reduceNeg, decide_true, decide_false, decide_eq_true_eq, Int.reduceEq, Option.map_none, and_self, and_true, true_and, Bool.true_and, Bool.false_and, Bool.or_true, Bool.or_false, List.isEmpty_nil, List.isEmpty_cons, List.getElem?_nil, Option.isSome_some, Int.cast_ofNat_Int, Bool.not_eq_true, Bool.and_true, Bool.and_self, Bool.true_or, Bool.false_or, Bool.and_false, Int.reduceSub, Int.natCast_zero, Int.reduceGT, Int.reduceGE, ne_eq, not_true_eq_false, not_false_eq_true, hsz]
  refine wp_forL (fun ds e => (∀ d ∈ ds, ∃ t : Int, d = .int t ∧ 0 ≤ t ∧ t ≤ 9999) ∧ ∃ s6 s7, e = [.op p3, .fz (.tuple [.int h, .tuple rows]), .fz (.tuple (fs.map PyData.int)), .fz (.int h), .fz kind, .fz (.list [.int 9999, .int (9000 + a), .int (100 + b)]), s6, s7, .un, .un]) ?_ ?_ _ _ ⟨fun d hd => ?_, _, _, rfl⟩
  · intro d rest e0 hI
    obtain ⟨hds, s6, s7, he⟩ := hI
    subst he
    obtain ⟨t, ht, t0, t1⟩ := hds d List.mem_cons_self
    rw [ht]
    obtain ⟨z, hz⟩ := word_repr (hW t)
    simp -implicitDefEqProofs only [owp_ok, fwp_ok, onS_s, onS_n, gR_f, gQ_f, gQ_o, gL_f, gL_o, gO_o, opL_op, wp_ret, kE_ap, kSet_ap, ifM_t, ifM_f, wp_vr, wp_vq, wp_vl, wp_vo, kBin2_ap, kBin1_ap, wp_bin, kUna_ap, wp_una, kBL2_ap, kBL1_ap, kBL0_ap, wp_binL, wp_seq0, kS2_ap, kS1_ap, wp_seq1, kTup_ap, wp_tup, kLst_ap, wp_lst, wp_seqP0, kP3_ap, kP2_ap, kP1_ap, wp_seqP1, wp_noX, kDsp_ap, wp_dsp, kBool_ap, wp_boolOf, kN_ap, kNN_ap, wp_isN, wp_isNN, kC4_ap, kC3_ap, wp_bl, kC2_ap, kC1_ap, wp_chn, kTru_ap, wp_truM, kNot_ap, wp_notM, kIf_ap, wp_andM, wp_orM, wp_ite, wp_if, kAndV2_ap, kAndV_ap, wp_andV, kOrV2_ap, kOrV_ap, wp_orV, kNotV2_ap, kNotV_ap, wp_notV, wp_part0, kPart_ap, wp_part1, kSl2_ap, kSl1_ap, kSl0_ap, wp_sl, kSL3_ap, kSL2_ap, kSL1_ap, kSL0_ap, wp_slL, wp_evA0, kA1_ap, wp_evAv, kA2_ap, wp_evAio, kCall4_ap, kCall3_ap, kCall2_ap, kCall1_ap, wp_call, kK2_ap, kK1_ap, wp_callK, wp_nx, wp_bk, wp_ct, wp_no, kSeq_nx, kSeq_rt, kSeq_ro, kSeq_bk, kSeq_ct, wp_seq, kNx_ap, kExp_ap, kRt_ap, kRo_ap, wp_expr, wp_rt, wp_rtN, wp_ro, kAsg_ap, wp_asg, wp_asgO, kI3_ap, kI2_ap, kI1_ap, kI0b_ap, kI0_ap, wp_setIx, kM2_ap, kM1_ap, kM0_ap, wp_mt, kIt_ap, kIts_ap, wp_walkA, wp_range1, wp_range2, wp_range3, wp_zipM, wp_enumM, kFor_ap, wp_for, kTurn_nx, kTurn_ct, kTurn_bk, kTurn_rt, kTurn_ro, kElt_ap, kCond_t, kCond_f, wp_lc, endF_rt, endF_nx, endO_ro, kBody_ap, addD_i, addD_s, addD_t, addD_l, subD_i, mulD_i, modD_i, ltD_i, ltD_s, leD_i, gtD_i, geD_i, negD_i, isBD_b, isnBD_b, truD_b, truD_i, truD_n, truD_l, truD_t, lenD_l, lenD_t, lenD_s, intD_i, intD_b, absD_i, listD_l, listD_t, tupD_l, tupD_t, max2D_i, min2D_i, isiD_d, revD_l, slD_l, slD_t, itemsA_l, itemsA_t, itemsA_s, ixD_l, ixD_t, zpD_l, zpD_t, setT_t, setTr_t, setNs_0, setNs_1, setN_z, setN_s, setO_z, setO_s, atI_z, atI_1, atI_2, atI_3, atI_4, setIx_0, setIx_1, setIx_2, sumD_map, rg1_i, rg2_i, eqD_i, neD_i, isi_int_n, isi_int_b, isi_int_i, isi_int_s, isi_int_l, isi_int_t, isi_int_d, isi_bool_n, isi_bool_b, isi_bool_i, isi_bool_s, isi_bool_l, isi_bool_t, isi_bool_d, isi_str_n, isi_str_b, isi_str_i, isi_str_s, isi_str_l, isi_str_t, isi_str_d, isi_list_n, isi_list_b, isi_list_i, isi_list_s, isi_list_l, isi_list_t, isi_list_d, isi_tuple_n, isi_tuple_b, isi_tuple_i, isi_tuple_s, isi_tuple_l, isi_tuple_t, isi_tuple_d, isi_dict_n, isi_dict_b, isi_dict_i, isi_dict_s, isi_dict_l, isi_dict_t, isi_dict_d, notD_b, isNone_n, isNone_s, isNone_i, isNone_t, isNone_l, kPure_ap, pickD_1, pickD_2, pickD_3, pickD_4, appD_l, extD_l, List.getElem?_cons_zero, List.getElem?_cons_succ, List.set_cons_zero, List.set_cons_succ, initE, Option.map_some, List.replicate, posT, getO, fillA, putA, Bool.not_true, Bool.not_false, if_true, if_false, Bool.false_eq_true, Option.bind_some, wipeE, restE, reduceIte, List.length_cons, List.length_nil, fwp_mk, fwp_mko, Nat.reduceAdd, Nat.reduceSub, List.append_nil, List.nil_append, List.cons_append, List.reverse_cons, List.reverse_nil, Int.reduceLT, Int.reduceLE, Int.reduceAdd, Int.reduceMul, Int.reduceNeg, decide_true, decide_false, decide_eq_true_eq, Int.reduceEq, Option.map_none, and_self, and_true, true_and, Bool.true_and, Bool.false_and, Bool.or_true, Bool.or_false, List.isEmpty_nil, List.isEmpty_cons, List.getElem?_nil, Option.isSome_some, Int.cast_ofNat_Int, Bool.not_eq_true, Bool.and_true, Bool.and_self, Bool.true_or, Bool.false_or, Bool.and_false, Int.reduceSub, Int.natCast_zero, Int.reduceGT, Int.reduceGE, ne_eq, not_true_eq_false, not_false_eq_true, law_told_eq hh hl hr hk, (told_w hr).1, answer_eq hh hs hk hf t0 t1, hz, neD_s, kTurn_nx]
    exact ⟨fun d hd => hds d (List.mem_cons_of_mem _ hd), _, _, rfl⟩
  · rintro _ ⟨_, s6, s7, rfl⟩
    simp -implicitDefEqProofs only [owp_ok, fwp_ok, onS_s, onS_n, gR_f, gQ_f, gQ_o, gL_f, gL_o, gO_o, opL_op, wp_ret, kE_ap, kSet_ap, ifM_t, ifM_f, wp_vr, wp_vq, wp_vl, wp_vo, kBin2_ap, kBin1_ap, wp_bin, kUna_ap, wp_una, kBL2_ap, kBL1_ap, kBL0_ap, wp_binL, wp_seq0, kS2_ap, kS1_ap, wp_seq1, kTup_ap, wp_tup, kLst_ap, wp_lst, wp_seqP0, kP3_ap, kP2_ap, kP1_ap, wp_seqP1, wp_noX, kDsp_ap, wp_dsp, kBool_ap, wp_boolOf, kN_ap, kNN_ap, wp_isN, wp_isNN, kC4_ap, kC3_ap, wp_bl, kC2_ap, kC1_ap, wp_chn, kTru_ap, wp_truM, kNot_ap, wp_notM, kIf_ap, wp_andM, wp_orM, wp_ite, wp_if, kAndV2_ap, kAndV_ap, wp_andV, kOrV2_ap, kOrV_ap, wp_orV, kNotV2_ap, kNotV_ap, wp_notV, wp_part0, kPart_ap, wp_part1, kSl2_ap, kSl1_ap, kSl0_ap, wp_sl, kSL3_ap, kSL2_ap, kSL1_ap, kSL0_ap, wp_slL, wp_evA0, kA1_ap, wp_evAv, kA2_ap, wp_evAio, kCall4_ap, kCall3_ap, kCall2_ap, kCall1_ap, wp_call, kK2_ap, kK1_ap, wp_callK, wp_nx, wp_bk, wp_ct, wp_no, kSeq_nx, kSeq_rt, kSeq_ro, kSeq_bk, kSeq_ct, wp_seq, kNx_ap, kExp_ap, kRt_ap, kRo_ap, wp_expr, wp_rt, wp_rtN, wp_ro, kAsg_ap, wp_asg, wp_asgO, kI3_ap, kI2_ap, kI1_ap, kI0b_ap, kI0_ap, wp_setIx, kM2_ap, kM1_ap, kM0_ap, wp_mt, kIt_ap, kIts_ap, wp_walkA, wp_range1, wp_range2, wp_range3, wp_zipM, wp_enumM, kFor_ap, wp_for, kTurn_nx, kTurn_ct, kTurn_bk, kTurn_rt, kTurn_ro, kElt_ap, kCond_t, kCond_f, wp_lc, endF_rt, endF_nx, endO_ro, kBody_ap, addD_i, addD_s, addD_t, addD_l, subD_i, mulD_i, modD_i, ltD_i, ltD_s, leD_i, gtD_i, geD_i, negD_i, isBD_b, isnBD_b, truD_b, truD_i, truD_n, truD_l, truD_t, lenD_l, lenD_t, lenD_s, intD_i, intD_b, absD_i, listD_l, listD_t, tupD_l, tupD_t, max2D_i, min2D_i, isiD_d, revD_l, slD_l, slD_t, itemsA_l, itemsA_t, itemsA_s, ixD_l, ixD_t, zpD_l, zpD_t, setT_t, setTr_t, setNs_0, setNs_1, setN_z, setN_s, setO_z, setO_s, atI_z, atI_1, atI_2, atI_3, atI_4, setIx_0, setIx_1, setIx_2, sumD_map, rg1_i, rg2_i, eqD_i, neD_i, isi_int_n, isi_int_b, isi_int_i, isi_int_s, isi_int_l, isi_int_t, isi_int_d, isi_bool_n, isi_bool_b, isi_bool_i, isi_bool_s, isi_bool_l, isi_bool_t, isi_bool_d, isi_str_n, isi_str_b, isi_str_i, isi_str_s, isi_str_l, isi_str_t, isi_str_d, isi_list_n, isi_list_b, isi_list_i, isi_list_s, isi_list_l, isi_list_t, isi_list_d, isi_tuple_n, isi_tuple_b, isi_tuple_i, isi_tuple_s, isi_tuple_l, isi_tuple_t, isi_tuple_d, isi_dict_n, isi_dict_b, isi_dict_i, isi_dict_s, isi_dict_l, isi_dict_t, isi_dict_d, notD_b, isNone_n, isNone_s, isNone_i, isNone_t, isNone_l, kPure_ap, pickD_1, pickD_2, pickD_3, pickD_4, appD_l, extD_l, List.getElem?_cons_zero, List.getElem?_cons_succ, List.set_cons_zero, List.set_cons_succ, initE, Option.map_some, List.replicate, posT, getO, fillA, putA, Bool.not_true, Bool.not_false, if_true, if_false, Bool.false_eq_true, Option.bind_some, wipeE, restE, reduceIte, List.length_cons, List.length_nil, fwp_mk, fwp_mko, Nat.reduceAdd, Nat.reduceSub, List.append_nil, List.nil_append, List.cons_append, List.reverse_cons, List.reverse_nil, Int.reduceLT, Int.reduceLE, Int.reduceAdd, Int.reduceMul, Int.reduceNeg, decide_true, decide_false, decide_eq_true_eq, Int.reduceEq, Option.map_none, and_self, and_true, true_and, Bool.true_and, Bool.false_and, Bool.or_true, Bool.or_false, List.isEmpty_nil, List.isEmpty_cons, List.getElem?_nil, Option.isSome_some, Int.cast_ofNat_Int, Bool.not_eq_true, Bool.and_true, Bool.and_self, Bool.true_or, Bool.false_or, Bool.and_false, Int.reduceSub, Int.natCast_zero, Int.reduceGT, Int.reduceGE, ne_eq, not_true_eq_false, not_false_eq_true]
    refine (take_ok (u := 60) hp3 (by omega) (by omega) (by omega)).mono ?_
    rintro _ _ ⟨low, p4, rfl, rfl, l0, l1, hp4⟩
    simp -implicitDefEqProofs only [owp_ok, fwp_ok, onS_s, onS_n, gR_f, gQ_f, gQ_o, gL_f, gL_o, gO_o, opL_op, wp_ret, kE_ap, kSet_ap, ifM_t, ifM_f, wp_vr, wp_vq, wp_vl, wp_vo, kBin2_ap, kBin1_ap, wp_bin, kUna_ap, wp_una, kBL2_ap, kBL1_ap, kBL0_ap, wp_binL, wp_seq0, kS2_ap, kS1_ap, wp_seq1, kTup_ap, wp_tup, kLst_ap, wp_lst, wp_seqP0, kP3_ap, kP2_ap, kP1_ap, wp_seqP1, wp_noX, kDsp_ap, wp_dsp, kBool_ap, wp_boolOf, kN_ap, kNN_ap, wp_isN, wp_isNN, kC4_ap, kC3_ap, wp_bl, kC2_ap, kC1_ap, wp_chn, kTru_ap, wp_truM, kNot_ap, wp_notM, kIf_ap, wp_andM, wp_orM, wp_ite, wp_if, kAndV2_ap, kAndV_ap, wp_andV, kOrV2_ap, kOrV_ap, wp_orV, kNotV2_ap, kNotV_ap, wp_notV, wp_part0, kPart_ap, wp_part1, kSl2_ap, kSl1_ap, kSl0_ap, wp_sl, kSL3_ap, kSL2_ap, kSL1_ap, kSL0_ap, wp_slL, wp_evA0, kA1_ap, wp_evAv, kA2_ap, wp_evAio, kCall4_ap, kCall3_ap, kCall2_ap, kCall1_ap, wp_call, kK2_ap, kK1_ap, wp_callK, wp_nx, wp_bk, wp_ct, wp_no, kSeq_nx, kSeq_rt, kSeq_ro, kSeq_bk, kSeq_ct, wp_seq, kNx_ap, kExp_ap, kRt_ap, kRo_ap, wp_expr, wp_rt, wp_rtN, wp_ro, kAsg_ap, wp_asg, wp_asgO, kI3_ap, kI2_ap, kI1_ap, kI0b_ap, kI0_ap, wp_setIx, kM2_ap, kM1_ap, kM0_ap, wp_mt, kIt_ap, kIts_ap, wp_walkA, wp_range1, wp_range2, wp_range3, wp_zipM, wp_enumM, kFor_ap, wp_for, kTurn_nx, kTurn_ct, kTurn_bk, kTurn_rt, kTurn_ro, kElt_ap, kCond_t, kCond_f, wp_lc, endF_rt, endF_nx, endO_ro, kBody_ap, addD_i, addD_s, addD_t, addD_l, subD_i, mulD_i, modD_i, ltD_i, ltD_s, leD_i, gtD_i, geD_i, negD_i, isBD_b, isnBD_b, truD_b, truD_i, truD_n, truD_l, truD_t, lenD_l, lenD_t, lenD_s, intD_i, intD_b, absD_i, listD_l, listD_t, tupD_l, tupD_t, max2D_i, min2D_i, isiD_d, revD_l, slD_l, slD_t, itemsA_l, itemsA_t, itemsA_s, ixD_l, ixD_t, zpD_l, zpD_t, setT_t, setTr_t, setNs_0, setNs_1, setN_z, setN_s, setO_z, setO_s, atI_z, atI_1, atI_2, atI_3, atI_4, setIx_0, setIx_1, setIx_2, sumD_map, rg1_i, rg2_i, eqD_i, neD_i, isi_int_n, isi_int_b, isi_int_i, isi_int_s, isi_int_l, isi_int_t, isi_int_d, isi_bool_n, isi_bool_b, isi_bool_i, isi_bool_s, isi_bool_l, isi_bool_t, isi_bool_d, isi_str_n, isi_str_b, isi_str_i, isi_str_s, isi_str_l, isi_str_t, isi_str_d, isi_list_n, isi_list_b, isi_list_i, isi_list_s, isi_list_l, isi_list_t, isi_list_d, isi_tuple_n, isi_tuple_b, isi_tuple_i, isi_tuple_s, isi_tuple_l, isi_tuple_t, isi_tuple_d, isi_dict_n, isi_dict_b, isi_dict_i, isi_dict_s, isi_dict_l, isi_dict_t, isi_dict_d, notD_b, isNone_n, isNone_s, isNone_i, isNone_t, isNone_l, kPure_ap, pickD_1, pickD_2, pickD_3, pickD_4, appD_l, extD_l, List.getElem?_cons_zero, List.getElem?_cons_succ, List.set_cons_zero, List.set_cons_succ, initE, Option.map_some, List.replicate, posT, getO, fillA, putA, Bool.not_true, Bool.not_false, if_true, if_false, Bool.false_eq_true, Option.bind_some, wipeE, restE, reduceIte, List.length_cons, List.length_nil, fwp_mk, fwp_mko, Nat.reduceAdd, Nat.reduceSub, List.append_nil, List.nil_append, List.cons_append, List.reverse_cons, List.reverse_nil, Int.reduceLT, Int.reduceLE, Int.reduceAdd, Int.reduceMul, Int.reduceNeg, decide_true, decide_false, decide_eq_true_eq, Int.reduceEq, Option.map_none, and_self, and_true, true_and, Bool.true_and, Bool.false_and, Bool.or_true, Bool.or_false, List.isEmpty_nil, List.isEmpty_cons, List.getElem?_nil, Option.isSome_some, Int.cast_ofNat_Int, Bool.not_eq_true, Bool.and_true, Bool.and_self, Bool.true_or, Bool.false_or, Bool.and_false, Int.reduceSub, Int.natCast_zero, Int.reduceGT, Int.reduceGE, ne_eq, not_true_eq_false, not_false_eq_true]
    refine (take_ok (u := 160) hp4 (by omega) (by omega) (by omega)).mono ?_
    rintro _ _ ⟨high, p5, rfl, rfl, g0, g1, hp5⟩
    simp -implicitDefEqProofs only [owp_ok, fwp_ok, onS_s, onS_n, gR_f, gQ_f, gQ_o, gL_f, gL_o, gO_o, opL_op, wp_ret, kE_ap, kSet_ap, ifM_t, ifM_f, wp_vr, wp_vq, wp_vl, wp_vo, kBin2_ap, kBin1_ap, wp_bin, kUna_ap, wp_una, kBL2_ap, kBL1_ap, kBL0_ap, wp_binL, wp_seq0, kS2_ap, kS1_ap, wp_seq1, kTup_ap, wp_tup, kLst_ap, wp_lst, wp_seqP0, kP3_ap, kP2_ap, kP1_ap, wp_seqP1, wp_noX, kDsp_ap, wp_dsp, kBool_ap, wp_boolOf, kN_ap, kNN_ap, wp_isN, wp_isNN, kC4_ap, kC3_ap, wp_bl, kC2_ap, kC1_ap, wp_chn, kTru_ap, wp_truM, kNot_ap, wp_notM, kIf_ap, wp_andM, wp_orM, wp_ite, wp_if, kAndV2_ap, kAndV_ap, wp_andV, kOrV2_ap, kOrV_ap, wp_orV, kNotV2_ap, kNotV_ap, wp_notV, wp_part0, kPart_ap, wp_part1, kSl2_ap, kSl1_ap, kSl0_ap, wp_sl, kSL3_ap, kSL2_ap, kSL1_ap, kSL0_ap, wp_slL, wp_evA0, kA1_ap, wp_evAv, kA2_ap, wp_evAio, kCall4_ap, kCall3_ap, kCall2_ap, kCall1_ap, wp_call, kK2_ap, kK1_ap, wp_callK, wp_nx, wp_bk, wp_ct, wp_no, kSeq_nx, kSeq_rt, kSeq_ro, kSeq_bk, kSeq_ct, wp_seq, kNx_ap, kExp_ap, kRt_ap, kRo_ap, wp_expr, wp_rt, wp_rtN, wp_ro, kAsg_ap, wp_asg, wp_asgO, kI3_ap, kI2_ap, kI1_ap, kI0b_ap, kI0_ap, wp_setIx, kM2_ap, kM1_ap, kM0_ap, wp_mt, kIt_ap, kIts_ap, wp_walkA, wp_range1, wp_range2, wp_range3, wp_zipM, wp_enumM, kFor_ap, wp_for, kTurn_nx, kTurn_ct, kTurn_bk, kTurn_rt, kTurn_ro, kElt_ap, kCond_t, kCond_f, wp_lc, endF_rt, endF_nx, endO_ro, kBody_ap, addD_i, addD_s, addD_t, addD_l, subD_i, mulD_i, modD_i, ltD_i, ltD_s, leD_i, gtD_i, geD_i, negD_i, isBD_b, isnBD_b, truD_b, truD_i, truD_n, truD_l, truD_t, lenD_l, lenD_t, lenD_s, intD_i, intD_b, absD_i, listD_l, listD_t, tupD_l, tupD_t, max2D_i, min2D_i, isiD_d, revD_l, slD_l, slD_t, itemsA_l, itemsA_t, itemsA_s, ixD_l, ixD_t, zpD_l, zpD_t, setT_t, setTr_t, setNs_0, setNs_1, setN_z, setN_s, setO_z, setO_s, atI_z, atI_1, atI_2, atI_3, atI_4, setIx_0, setIx_1, setIx_2, sumD_map, rg1_i, rg2_i, eqD_i, neD_i, isi_int_n, isi_int_b, isi_int_i, isi_int_s, isi_int_l, isi_int_t, isi_int_d, isi_bool_n, isi_bool_b, isi_bool_i, isi_bool_s, isi_bool_l, isi_bool_t, isi_bool_d, isi_str_n, isi_str_b, isi_str_i, isi_str_s, isi_str_l, isi_str_t, isi_str_d, isi_list_n, isi_list_b, isi_list_i, isi_list_s, isi_list_l, isi_list_t, isi_list_d, isi_tuple_n, isi_tuple_b, isi_tuple_i, isi_tuple_s, isi_tuple_l, isi_tuple_t, isi_tuple_d, isi_dict_n, isi_dict_b, isi_dict_i, isi_dict_s, isi_dict_l, isi_dict_t, isi_dict_d, notD_b, isNone_n, isNone_s, isNone_i, isNone_t, isNone_l, kPure_ap, pickD_1, pickD_2, pickD_3, pickD_4, appD_l, extD_l, List.getElem?_cons_zero, List.getElem?_cons_succ, List.set_cons_zero, List.set_cons_succ, initE, Option.map_some, List.replicate, posT, getO, fillA, putA, Bool.not_true, Bool.not_false, if_true, if_false, Bool.false_eq_true, Option.bind_some, wipeE, restE, reduceIte, List.length_cons, List.length_nil, fwp_mk, fwp_mko, Nat.reduceAdd, Nat.reduceSub, List.append_nil, List.nil_append, List.cons_append, List.reverse_cons, List.reverse_nil, Int.reduceLT, Int.reduceLE, Int.reduceAdd, Int.reduceMul, Int.reduceNeg, decide_true, decide_false, decide_eq_true_eq, Int.reduceEq, Option.map_none, and_self, and_true, true_and, Bool.true_and, Bool.false_and, Bool.or_true, Bool.or_false, List.isEmpty_nil, List.isEmpty_cons, List.getElem?_nil, Option.isSome_some, Int.cast_ofNat_Int, Bool.not_eq_true, Bool.and_true, Bool.and_self, Bool.true_or, Bool.false_or, Bool.and_false, Int.reduceSub, Int.natCast_zero, Int.reduceGT, Int.reduceGE, ne_eq, not_true_eq_false, not_false_eq_true, rOk_s (a := low + 1) (by omega), rOk_s (a := high + 1) (by omega)]
    refine wp_forL (fun ds e => ∃ done s6, done ++ ds = rng (low + 1) (high + 1) ∧ e = [.op p5, .fz (.tuple [.int h, .tuple rows]), .fz (.tuple (fs.map PyData.int)), .fz (.int h), .fz kind, .fz (.list [.int 9999, .int (9000 + a), .int (100 + b)]), s6, .op (.list (done.filter (ofB fun t => ne2 (wordA h rows kind (fs.map PyData.int) t) (wordA h rows kind (fs.map PyData.int) (t - 1))))), .fz (.int low), .fz (.int high)]) ?_ ?_ _ _ ⟨[], _, rfl, rfl⟩
    · intro d rest e0 hI
      obtain ⟨done, s6, hdn, he⟩ := hI
      subst he
      obtain ⟨t, ht, t0, t1⟩ := rng_mem (show d ∈ rng (low + 1) (high + 1) by rw [← hdn]; simp)
      rw [ht] at hdn ⊢
      simp -implicitDefEqProofs only [owp_ok, fwp_ok, onS_s, onS_n, gR_f, gQ_f, gQ_o, gL_f, gL_o, gO_o, opL_op, wp_ret, kE_ap, kSet_ap, ifM_t, ifM_f, wp_vr, wp_vq, wp_vl, wp_vo, kBin2_ap, kBin1_ap, wp_bin, kUna_ap, wp_una, kBL2_ap, kBL1_ap, kBL0_ap, wp_binL, wp_seq0, kS2_ap, kS1_ap, wp_seq1, kTup_ap, wp_tup, kLst_ap, wp_lst, wp_seqP0, kP3_ap, kP2_ap, kP1_ap, wp_seqP1, wp_noX, kDsp_ap, wp_dsp, kBool_ap, wp_boolOf, kN_ap, kNN_ap, wp_isN, wp_isNN, kC4_ap, kC3_ap, wp_bl, kC2_ap, kC1_ap, wp_chn, kTru_ap, wp_truM, kNot_ap, wp_notM, kIf_ap, wp_andM, wp_orM, wp_ite, wp_if, kAndV2_ap, kAndV_ap, wp_andV, kOrV2_ap, kOrV_ap, wp_orV, kNotV2_ap, kNotV_ap, wp_notV, wp_part0, kPart_ap, wp_part1, kSl2_ap, kSl1_ap, kSl0_ap, wp_sl, kSL3_ap, kSL2_ap, kSL1_ap, kSL0_ap, wp_slL, wp_evA0, kA1_ap, wp_evAv, kA2_ap, wp_evAio, kCall4_ap, kCall3_ap, kCall2_ap, kCall1_ap, wp_call, kK2_ap, kK1_ap, wp_callK, wp_nx, wp_bk, wp_ct, wp_no, kSeq_nx, kSeq_rt, kSeq_ro, kSeq_bk, kSeq_ct, wp_seq, kNx_ap, kExp_ap, kRt_ap, kRo_ap, wp_expr, wp_rt, wp_rtN, wp_ro, kAsg_ap, wp_asg, wp_asgO, kI3_ap, kI2_ap, kI1_ap, kI0b_ap, kI0_ap, wp_setIx, kM2_ap, kM1_ap, kM0_ap, wp_mt, kIt_ap, kIts_ap, wp_walkA, wp_range1, wp_range2, wp_range3, wp_zipM, wp_enumM, kFor_ap, wp_for, kTurn_nx, kTurn_ct, kTurn_bk, kTurn_rt, kTurn_ro, kElt_ap, kCond_t, kCond_f, wp_lc, endF_rt, endF_nx, endO_ro, kBody_ap, addD_i, addD_s, addD_t, addD_l, subD_i, mulD_i, modD_i, ltD_i, ltD_s, leD_i, gtD_i, geD_i, negD_i, isBD_b, isnBD_b, truD_b, truD_i, truD_n, truD_l, truD_t, lenD_l, lenD_t, lenD_s, intD_i, intD_b, absD_i, listD_l, listD_t, tupD_l, tupD_t, max2D_i, min2D_i, isiD_d, revD_l, slD_l, slD_t, itemsA_l, itemsA_t, itemsA_s, ixD_l, ixD_t, zpD_l, zpD_t, setT_t, setTr_t, setNs_0, setNs_1, setN_z, setN_s, setO_z, setO_s, atI_z, atI_1, atI_2, atI_3, atI_4, setIx_0, setIx_1, setIx_2, sumD_map, rg1_i, rg2_i, eqD_i, neD_i, isi_int_n, isi_int_b, isi_int_i, isi_int_s, isi_int_l, isi_int_t, isi_int_d, isi_bool_n, isi_bool_b, isi_bool_i, isi_bool_s, isi_bool_l, isi_bool_t, isi_bool_d, isi_str_n, isi_str_b, isi_str_i, isi_str_s, isi_str_l, isi_str_t, isi_str_d, isi_list_n, isi_list_b, isi_list_i, isi_list_s, isi_list_l, isi_list_t, isi_list_d, isi_tuple_n, isi_tuple_b, isi_tuple_i, isi_tuple_s, isi_tuple_l, isi_tuple_t, isi_tuple_d, isi_dict_n, isi_dict_b, isi_dict_i, isi_dict_s, isi_dict_l, isi_dict_t, isi_dict_d, notD_b, isNone_n, isNone_s, isNone_i, isNone_t, isNone_l, kPure_ap, pickD_1, pickD_2, pickD_3, pickD_4, appD_l, extD_l, List.getElem?_cons_zero, List.getElem?_cons_succ, List.set_cons_zero, List.set_cons_succ, initE, Option.map_some, List.replicate, posT, getO, fillA, putA, Bool.not_true, Bool.not_false, if_true, if_false, Bool.false_eq_true, Option.bind_some, wipeE, restE, reduceIte, List.length_cons, List.length_nil, fwp_mk, fwp_mko, Nat.reduceAdd, Nat.reduceSub, List.append_nil, List.nil_append, List.cons_append, List.reverse_cons, List.reverse_nil, Int.reduceLT, Int.reduceLE, Int.reduceAdd, Int.reduceMul, Int.reduceNeg, decide_true, decide_false, decide_eq_true_eq, Int.reduceEq, Option.map_none, and_self, and_true, true_and, Bool.true_and, Bool.false_and, Bool.or_true, Bool.or_false, List.isEmpty_nil, List.isEmpty_cons, List.getElem?_nil, Option.isSome_some, Int.cast_ofNat_Int, Bool.not_eq_true, Bool.and_true, Bool.and_self, Bool.true_or, Bool.false_or, Bool.and_false, Int.reduceSub, Int.natCast_zero, Int.reduceGT, Int.reduceGE, ne_eq, not_true_eq_false, not_false_eq_true, law_told_eq hh hl hr hk, (told_w hr).1, word_ne (hW _) (hW _)]
      have hlen : (done.filter (ofB fun t => ne2 (wordA h rows kind (fs.map PyData.int) t) (wordA h rows kind (fs.map PyData.int) (t - 1)))).length < sizeLine := by
        have h1 := List.length_filter_le (ofB fun t => ne2 (wordA h rows kind (fs.map PyData.int) t) (wordA h rows kind (fs.map PyData.int) (t - 1))) done
        have h2 := congrArg List.length hdn
        rw [List.length_append, rng_len] at h2
        rw [sizeLine_eq]; omega
      cases hb : ne2 (wordA h rows kind (fs.map PyData.int) t) (wordA h rows kind (fs.map PyData.int) (t - 1)) with
      | true =>
        simp -implicitDefEqProofs only [owp_ok, fwp_ok, onS_s, onS_n, gR_f, gQ_f, gQ_o, gL_f, gL_o, gO_o, opL_op, wp_ret, kE_ap, kSet_ap, ifM_t, ifM_f, wp_vr, wp_vq, wp_vl, wp_vo, kBin2_ap, kBin1_ap, wp_bin, kUna_ap, wp_una, kBL2_ap, kBL1_ap, kBL0_ap, wp_binL, wp_seq0, kS2_ap, kS1_ap, wp_seq1, kTup_ap, wp_tup, kLst_ap, wp_lst, wp_seqP0, kP3_ap, kP2_ap, kP1_ap, wp_seqP1, wp_noX, kDsp_ap, wp_dsp, kBool_ap, wp_boolOf, kN_ap, kNN_ap, wp_isN, wp_isNN, kC4_ap, kC3_ap, wp_bl, kC2_ap, kC1_ap, wp_chn, kTru_ap, wp_truM, kNot_ap, wp_notM, kIf_ap, wp_andM, wp_orM, wp_ite, wp_if, kAndV2_ap, kAndV_ap, wp_andV, kOrV2_ap, kOrV_ap, wp_orV, kNotV2_ap, kNotV_ap, wp_notV, wp_part0, kPart_ap, wp_part1, kSl2_ap, kSl1_ap, kSl0_ap, wp_sl, kSL3_ap, kSL2_ap, kSL1_ap, kSL0_ap, wp_slL, wp_evA0, kA1_ap, wp_evAv, kA2_ap, wp_evAio, kCall4_ap, kCall3_ap, kCall2_ap, kCall1_ap, wp_call, kK2_ap, kK1_ap, wp_callK, wp_nx, wp_bk, wp_ct, wp_no, kSeq_nx, kSeq_rt, kSeq_ro, kSeq_bk, kSeq_ct, wp_seq, kNx_ap, kExp_ap, kRt_ap, kRo_ap, wp_expr, wp_rt, wp_rtN, wp_ro, kAsg_ap, wp_asg, wp_asgO, kI3_ap, kI2_ap, kI1_ap, kI0b_ap, kI0_ap, wp_setIx, kM2_ap, kM1_ap, kM0_ap, wp_mt, kIt_ap, kIts_ap, wp_walkA, wp_range1, wp_range2, wp_range3, wp_zipM, wp_enumM, kFor_ap, wp_for, kTurn_nx, kTurn_ct, kTurn_bk, kTurn_rt, kTurn_ro, kElt_ap, kCond_t, kCond_f, wp_lc, endF_rt, endF_nx, endO_ro, kBody_ap, addD_i, addD_s, addD_t, addD_l, subD_i, mulD_i, modD_i, ltD_i, ltD_s, leD_i, gtD_i, geD_i, negD_i, isBD_b, isnBD_b, truD_b, truD_i, truD_n, truD_l, truD_t, lenD_l, lenD_t, lenD_s, intD_i, intD_b, absD_i, listD_l, listD_t, tupD_l, tupD_t, max2D_i, min2D_i, isiD_d, revD_l, slD_l, slD_t, itemsA_l, itemsA_t, itemsA_s, ixD_l, ixD_t, zpD_l, zpD_t, setT_t, setTr_t, setNs_0, setNs_1, setN_z, setN_s, setO_z, setO_s, atI_z, atI_1, atI_2, atI_3, atI_4, setIx_0, setIx_1, setIx_2, sumD_map, rg1_i, rg2_i, eqD_i, neD_i, isi_int_n, isi_int_b, isi_int_i, isi_int_s, isi_int_l, isi_int_t, isi_int_d, isi_bool_n, isi_bool_b, isi_bool_i, isi_bool_s, isi_bool_l, isi_bool_t, isi_bool_d, isi_str_n, isi_str_b, isi_str_i, isi_str_s, isi_str_l, isi_str_t, isi_str_d, isi_list_n, isi_list_b, isi_list_i, isi_list_s, isi_list_l, isi_list_t, isi_list_d, isi_tuple_n, isi_tuple_b, isi_tuple_i, isi_tuple_s, isi_tuple_l, isi_tuple_t, isi_tuple_d, isi_dict_n, isi_dict_b, isi_dict_i, isi_dict_s, isi_dict_l, isi_dict_t, isi_dict_d, notD_b, isNone_n, isNone_s, isNone_i, isNone_t, isNone_l, kPure_ap, pickD_1, pickD_2, pickD_3, pickD_4, appD_l, extD_l, List.getElem?_cons_zero, List.getElem?_cons_succ, List.set_cons_zero, List.set_cons_succ, initE, Option.map_some, List.replicate, posT, getO, fillA, putA, Bool.not_true, Bool.not_false, if_true, if_false, Bool.false_eq_true, Option.bind_some, wipeE, restE, reduceIte, List.length_cons, List.length_nil, fwp_mk, fwp_mko, Nat.reduceAdd, Nat.reduceSub, List.append_nil, List.nil_append, List.cons_append, List.reverse_cons, List.reverse_nil, Int.reduceLT, Int.reduceLE, Int.reduceAdd, Int.reduceMul, Int.reduceNeg, decide_true, decide_false, decide_eq_true_eq, Int.reduceEq, Option.map_none, and_self, and_true, true_and, Bool.true_and, Bool.false_and, Bool.or_true, Bool.or_false, List.isEmpty_nil, List.isEmpty_cons, List.getElem?_nil, Option.isSome_some, Int.cast_ofNat_Int, Bool.not_eq_true, Bool.and_true, Bool.and_self, Bool.true_or, Bool.false_or, Bool.and_false, Int.reduceSub, Int.natCast_zero, Int.reduceGT, Int.reduceGE, ne_eq, not_true_eq_false, not_false_eq_true, hlen, kTurn_nx]
        refine ⟨done ++ [.int t], .fz (.int t), by rw [List.append_assoc]; exact hdn, ?_⟩
        rw [List.filter_append, List.filter_cons, show ofB (fun t => ne2 (wordA h rows kind (fs.map PyData.int) t) (wordA h rows kind (fs.map PyData.int) (t - 1))) (.int t) = true from hb]
        rfl
      | false =>
        simp -implicitDefEqProofs only [owp_ok, fwp_ok, onS_s, onS_n, gR_f, gQ_f, gQ_o, gL_f, gL_o, gO_o, opL_op, wp_ret, kE_ap, kSet_ap, ifM_t, ifM_f, wp_vr, wp_vq, wp_vl, wp_vo, kBin2_ap, kBin1_ap, wp_bin, kUna_ap, wp_una, kBL2_ap, kBL1_ap, kBL0_ap, wp_binL, wp_seq0, kS2_ap, kS1_ap, wp_seq1, kTup_ap, wp_tup, kLst_ap, wp_lst, wp_seqP0, kP3_ap, kP2_ap, kP1_ap, wp_seqP1, wp_noX, kDsp_ap, wp_dsp, kBool_ap, wp_boolOf, kN_ap, kNN_ap, wp_isN, wp_isNN, kC4_ap, kC3_ap, wp_bl, kC2_ap, kC1_ap, wp_chn, kTru_ap, wp_truM, kNot_ap, wp_notM, kIf_ap, wp_andM, wp_orM, wp_ite, wp_if, kAndV2_ap, kAndV_ap, wp_andV, kOrV2_ap, kOrV_ap, wp_orV, kNotV2_ap, kNotV_ap, wp_notV, wp_part0, kPart_ap, wp_part1, kSl2_ap, kSl1_ap, kSl0_ap, wp_sl, kSL3_ap, kSL2_ap, kSL1_ap, kSL0_ap, wp_slL, wp_evA0, kA1_ap, wp_evAv, kA2_ap, wp_evAio, kCall4_ap, kCall3_ap, kCall2_ap, kCall1_ap, wp_call, kK2_ap, kK1_ap, wp_callK, wp_nx, wp_bk, wp_ct, wp_no, kSeq_nx, kSeq_rt, kSeq_ro, kSeq_bk, kSeq_ct, wp_seq, kNx_ap, kExp_ap, kRt_ap, kRo_ap, wp_expr, wp_rt, wp_rtN, wp_ro, kAsg_ap, wp_asg, wp_asgO, kI3_ap, kI2_ap, kI1_ap, kI0b_ap, kI0_ap, wp_setIx, kM2_ap, kM1_ap, kM0_ap, wp_mt, kIt_ap, kIts_ap, wp_walkA, wp_range1, wp_range2, wp_range3, wp_zipM, wp_enumM, kFor_ap, wp_for, kTurn_nx, kTurn_ct, kTurn_bk, kTurn_rt, kTurn_ro, kElt_ap, kCond_t, kCond_f, wp_lc, endF_rt, endF_nx, endO_ro, kBody_ap, addD_i, addD_s, addD_t, addD_l, subD_i, mulD_i, modD_i, ltD_i, ltD_s, leD_i, gtD_i, geD_i, negD_i, isBD_b, isnBD_b, truD_b, truD_i, truD_n, truD_l, truD_t, lenD_l, lenD_t, lenD_s, intD_i, intD_b, absD_i, listD_l, listD_t, tupD_l, tupD_t, max2D_i, min2D_i, isiD_d, revD_l, slD_l, slD_t, itemsA_l, itemsA_t, itemsA_s, ixD_l, ixD_t, zpD_l, zpD_t, setT_t, setTr_t, setNs_0, setNs_1, setN_z, setN_s, setO_z, setO_s, atI_z, atI_1, atI_2, atI_3, atI_4, setIx_0, setIx_1, setIx_2, sumD_map, rg1_i, rg2_i, eqD_i, neD_i, isi_int_n, isi_int_b, isi_int_i, isi_int_s, isi_int_l, isi_int_t, isi_int_d, isi_bool_n, isi_bool_b, isi_bool_i, isi_bool_s, isi_bool_l, isi_bool_t, isi_bool_d, isi_str_n, isi_str_b, isi_str_i, isi_str_s, isi_str_l, isi_str_t, isi_str_d, isi_list_n, isi_list_b, isi_list_i, isi_list_s, isi_list_l, isi_list_t, isi_list_d, isi_tuple_n, isi_tuple_b, isi_tuple_i, isi_tuple_s, isi_tuple_l, isi_tuple_t, isi_tuple_d, isi_dict_n, isi_dict_b, isi_dict_i, isi_dict_s, isi_dict_l, isi_dict_t, isi_dict_d, notD_b, isNone_n, isNone_s, isNone_i, isNone_t, isNone_l, kPure_ap, pickD_1, pickD_2, pickD_3, pickD_4, appD_l, extD_l, List.getElem?_cons_zero, List.getElem?_cons_succ, List.set_cons_zero, List.set_cons_succ, initE, Option.map_some, List.replicate, posT, getO, fillA, putA, Bool.not_true, Bool.not_false, if_true, if_false, Bool.false_eq_true, Option.bind_some, wipeE, restE, reduceIte, List.length_cons, List.length_nil, fwp_mk, fwp_mko, Nat.reduceAdd, Nat.reduceSub, List.append_nil, List.nil_append, List.cons_append, List.reverse_cons, List.reverse_nil, Int.reduceLT, Int.reduceLE, Int.reduceAdd, Int.reduceMul, Int.reduceNeg, decide_true, decide_false, decide_eq_true_eq, Int.reduceEq, Option.map_none, and_self, and_true, true_and, Bool.true_and, Bool.false_and, Bool.or_true, Bool.or_false, List.isEmpty_nil, List.isEmpty_cons, List.getElem?_nil, Option.isSome_some, Int.cast_ofNat_Int, Bool.not_eq_true, Bool.and_true, Bool.and_self, Bool.true_or, Bool.false_or, Bool.and_false, Int.reduceSub, Int.natCast_zero, Int.reduceGT, Int.reduceGE, ne_eq, not_true_eq_false, not_false_eq_true, kTurn_nx]
        refine ⟨done ++ [.int t], .fz (.int t), by rw [List.append_assoc]; exact hdn, ?_⟩
        rw [List.filter_append, List.filter_cons, show ofB (fun t => ne2 (wordA h rows kind (fs.map PyData.int) t) (wordA h rows kind (fs.map PyData.int) (t - 1))) (.int t) = false from hb]
        simp
    · rintro _ ⟨done, s6, hdn, rfl⟩
      rw [List.append_nil] at hdn
      subst hdn
      obtain ⟨ts, hts, hrng, hlen⟩ := chg_ints (wordA h rows kind (fs.map PyData.int)) low high
      obtain ⟨z, hz⟩ := repr_ints (fs := ts) (fun x hx => by have := hrng x hx; omega) (by omega)
      have hc := changes_eq (low := low) (high := high) hh hs hk hf l0 (by omega) g0 (by omega)
      unfold chg at hts hc
      rw [hts] at hc
      simp -implicitDefEqProofs only [owp_ok, fwp_ok, onS_s, onS_n, gR_f, gQ_f, gQ_o, gL_f, gL_o, gO_o, opL_op, wp_ret, kE_ap, kSet_ap, ifM_t, ifM_f, wp_vr, wp_vq, wp_vl, wp_vo, kBin2_ap, kBin1_ap, wp_bin, kUna_ap, wp_una, kBL2_ap, kBL1_ap, kBL0_ap, wp_binL, wp_seq0, kS2_ap, kS1_ap, wp_seq1, kTup_ap, wp_tup, kLst_ap, wp_lst, wp_seqP0, kP3_ap, kP2_ap, kP1_ap, wp_seqP1, wp_noX, kDsp_ap, wp_dsp, kBool_ap, wp_boolOf, kN_ap, kNN_ap, wp_isN, wp_isNN, kC4_ap, kC3_ap, wp_bl, kC2_ap, kC1_ap, wp_chn, kTru_ap, wp_truM, kNot_ap, wp_notM, kIf_ap, wp_andM, wp_orM, wp_ite, wp_if, kAndV2_ap, kAndV_ap, wp_andV, kOrV2_ap, kOrV_ap, wp_orV, kNotV2_ap, kNotV_ap, wp_notV, wp_part0, kPart_ap, wp_part1, kSl2_ap, kSl1_ap, kSl0_ap, wp_sl, kSL3_ap, kSL2_ap, kSL1_ap, kSL0_ap, wp_slL, wp_evA0, kA1_ap, wp_evAv, kA2_ap, wp_evAio, kCall4_ap, kCall3_ap, kCall2_ap, kCall1_ap, wp_call, kK2_ap, kK1_ap, wp_callK, wp_nx, wp_bk, wp_ct, wp_no, kSeq_nx, kSeq_rt, kSeq_ro, kSeq_bk, kSeq_ct, wp_seq, kNx_ap, kExp_ap, kRt_ap, kRo_ap, wp_expr, wp_rt, wp_rtN, wp_ro, kAsg_ap, wp_asg, wp_asgO, kI3_ap, kI2_ap, kI1_ap, kI0b_ap, kI0_ap, wp_setIx, kM2_ap, kM1_ap, kM0_ap, wp_mt, kIt_ap, kIts_ap, wp_walkA, wp_range1, wp_range2, wp_range3, wp_zipM, wp_enumM, kFor_ap, wp_for, kTurn_nx, kTurn_ct, kTurn_bk, kTurn_rt, kTurn_ro, kElt_ap, kCond_t, kCond_f, wp_lc, endF_rt, endF_nx, endO_ro, kBody_ap, addD_i, addD_s, addD_t, addD_l, subD_i, mulD_i, modD_i, ltD_i, ltD_s, leD_i, gtD_i, geD_i, negD_i, isBD_b, isnBD_b, truD_b, truD_i, truD_n, truD_l, truD_t, lenD_l, lenD_t, lenD_s, intD_i, intD_b, absD_i, listD_l, listD_t, tupD_l, tupD_t, max2D_i, min2D_i, isiD_d, revD_l, slD_l, slD_t, itemsA_l, itemsA_t, itemsA_s, ixD_l, ixD_t, zpD_l, zpD_t, setT_t, setTr_t, setNs_0, setNs_1, setN_z, setN_s, setO_z, setO_s, atI_z, atI_1, atI_2, atI_3, atI_4, setIx_0, setIx_1, setIx_2, sumD_map, rg1_i, rg2_i, eqD_i, neD_i, isi_int_n, isi_int_b, isi_int_i, isi_int_s, isi_int_l, isi_int_t, isi_int_d, isi_bool_n, isi_bool_b, isi_bool_i, isi_bool_s, isi_bool_l, isi_bool_t, isi_bool_d, isi_str_n, isi_str_b, isi_str_i, isi_str_s, isi_str_l, isi_str_t, isi_str_d, isi_list_n, isi_list_b, isi_list_i, isi_list_s, isi_list_l, isi_list_t, isi_list_d, isi_tuple_n, isi_tuple_b, isi_tuple_i, isi_tuple_s, isi_tuple_l, isi_tuple_t, isi_tuple_d, isi_dict_n, isi_dict_b, isi_dict_i, isi_dict_s, isi_dict_l, isi_dict_t, isi_dict_d, notD_b, isNone_n, isNone_s, isNone_i, isNone_t, isNone_l, kPure_ap, pickD_1, pickD_2, pickD_3, pickD_4, appD_l, extD_l, List.getElem?_cons_zero, List.getElem?_cons_succ, List.set_cons_zero, List.set_cons_succ, initE, Option.map_some, List.replicate, posT, getO, fillA, putA, Bool.not_true, Bool.not_false, if_true, if_false, Bool.false_eq_true, Option.bind_some, wipeE, restE, reduceIte, List.length_cons, List.length_nil, fwp_mk, fwp_mko, Nat.reduceAdd, Nat.reduceSub, List.append_nil, List.nil_append, List.cons_append, List.reverse_cons, List.reverse_nil, Int.reduceLT, Int.reduceLE, Int.reduceAdd, Int.reduceMul, Int.reduceNeg, decide_true, decide_false, decide_eq_true_eq, Int.reduceEq, Option.map_none, and_self, and_true, true_and, Bool.true_and, Bool.false_and, Bool.or_true, Bool.or_false, List.isEmpty_nil, List.isEmpty_cons, List.getElem?_nil, Option.isSome_some, Int.cast_ofNat_Int, Bool.not_eq_true, Bool.and_true, Bool.and_self, Bool.true_or, Bool.false_or, Bool.and_false, Int.reduceSub, Int.natCast_zero, Int.reduceGT, Int.reduceGE, ne_eq, not_true_eq_false, not_false_eq_true, hc, hts, hz, eqD_s]
      exact ⟨p5, rfl, hp5.mono (by omega)⟩
  · rcases List.mem_append.mp hd with hd | hd
    · obtain ⟨t, rfl, t0, t1⟩ := rng_mem hd
      exact ⟨t, rfl, by omega, by omega⟩
    · simp only [List.mem_cons, List.not_mem_nil, or_false] at hd
      rcases hd with rfl | rfl | rfl
      · exact ⟨_, rfl, by omega, by omega⟩
      · exact ⟨_, rfl, by omega, by omega⟩
      · exact ⟨_, rfl, by omega, by omega⟩
end Vk10

namespace Vk10
open PySem PySem.Spec PyProof.Rows L2 ZZ
def row0 : List D := [.int 0, .int 0, .str "any", .tuple [], .str "barred"]
def kf (d : D) : D := (addD (.str "k") d).getD .none
def odd1 (h : Int) : List D := [.tuple [.int 0, .int 0, .str "any", .tuple []], .list row0, .tuple (row0 ++ [.str "x"]), .tuple ([.int (7 * h), .int 0] ++ row0.drop 2), .tuple ([.int 0, .int (7 * h)] ++ row0.drop 2), .tuple ([.int (-1), .int 0] ++ row0.drop 2)]
def odd2 (h : Int) : List D := [.tuple ([.int 0, .int (h + 1)] ++ row0.drop 2), .tuple ([.bool true, .int 0] ++ row0.drop 2), .tuple ([.int 0, .none] ++ row0.drop 2), .none, .str "row", .int 7]
def daysL : List D := [.str "Any", .str "", .none, .tuple [.str "any"], .str "sunday"]
def lotsL : List D := [.tuple [.str "van", .str "bus"], .tuple [.str "van", .str "van"], .list [.str "van"], .tuple [.str "Van"], .str "van", .none] ++ [.tuple ((chrs "abcdefghijklm").map kf)]
def badL : List D := [.str "", .str "Free", .str "a b", .str "ninesigns", .none, .tuple [.int 0, .int 3], .tuple [.int 3, .int 0], .tuple [.int 10001, .int 3], .tuple [.int 3, .int 10000], .tuple [.int 3], .tuple [.int 3, .int 3, .int 3], .list [.int 3, .int 3]] ++ [.tuple [.bool true, .int 3]]
def fDay (d : D) : D := .tuple ([.int 0, .int 0] ++ [d] ++ [.tuple [], .str "barred"])
def fKin (d : D) : D := .tuple ([.int 0, .int 0, .str "any"] ++ [d] ++ [.str "barred"])
def fBad (d : D) : D := .tuple ([.int 0, .int 0, .str "any", .tuple []] ++ [d])
def oddL (h : Int) : List D := odd1 h ++ odd2 h ++ daysL.map fDay ++ lotsL.map fKin ++ badL.map fBad
theorem odd_bad {h : Int} (hh : HoursOk h) : ∀ x ∈ oddL h, F_is_row [.int h, x] = .ok (.bool false) [] := by
  have : (oddL h).all (fun x => isF (F_is_row [.int h, x])) = true := by
    rcases hh with rfl | rfl | rfl | rfl | rfl <;> decide +kernel
  intro x hx
  exact of_isF (List.all_eq_true.mp this x hx)
theorem sign_nt {d : D} (h : tyD d ≠ "tuple") : F_is_sign [d] = .ok (.bool false) [] := by
  refine fo_eq ?_
  unfold F_is_sign
  rw [fwp_mk]
  cases d <;> first | exact absurd rfl h | simp -implicitDefEqProofs only [owp_ok, fwp_ok, onS_s, onS_n, gR_f, gQ_f, gQ_o, gL_f, gL_o, gO_o, opL_op, wp_ret, kE_ap, kSet_ap, ifM_t, ifM_f, wp_vr, wp_vq, wp_vl, wp_vo, kBin2_ap, kBin1_ap, wp_bin, kUna_ap, wp_una, kBL2_ap, kBL1_ap, kBL0_ap, wp_binL, wp_seq0, kS2_ap, kS1_ap, wp_seq1, kTup_ap, wp_tup, kLst_ap, wp_lst, wp_seqP0, kP3_ap, kP2_ap, kP1_ap, wp_seqP1, wp_noX, kDsp_ap, wp_dsp, kBool_ap, wp_boolOf, kN_ap, kNN_ap, wp_isN, wp_isNN, kC4_ap, kC3_ap, wp_bl, kC2_ap, kC1_ap, wp_chn, kTru_ap, wp_truM, kNot_ap, wp_notM, kIf_ap, wp_andM, wp_orM, wp_ite, wp_if, kAndV2_ap, kAndV_ap, wp_andV, kOrV2_ap, kOrV_ap, wp_orV, kNotV2_ap, kNotV_ap, wp_notV, wp_part0, kPart_ap, wp_part1, kSl2_ap, kSl1_ap, kSl0_ap, wp_sl, kSL3_ap, kSL2_ap, kSL1_ap, kSL0_ap, wp_slL, wp_evA0, kA1_ap, wp_evAv, kA2_ap, wp_evAio, kCall4_ap, kCall3_ap, kCall2_ap, kCall1_ap, wp_call, kK2_ap, kK1_ap, wp_callK, wp_nx, wp_bk, wp_ct, wp_no, kSeq_nx, kSeq_rt, kSeq_ro, kSeq_bk, kSeq_ct, wp_seq, kNx_ap, kExp_ap, kRt_ap, kRo_ap, wp_expr, wp_rt, wp_rtN, wp_ro, kAsg_ap, wp_asg, wp_asgO, kI3_ap, kI2_ap, kI1_ap, kI0b_ap, kI0_ap, wp_setIx, kM2_ap, kM1_ap, kM0_ap, wp_mt, kIt_ap, kIts_ap, wp_walkA, wp_range1, wp_range2, wp_range3, wp_zipM, wp_enumM, kFor_ap, wp_for, kTurn_nx, kTurn_ct, kTurn_bk, kTurn_rt, kTurn_ro, kElt_ap, kCond_t, kCond_f, wp_lc, endF_rt, endF_nx, endO_ro, kBody_ap, addD_i, addD_s, addD_t, addD_l, subD_i, mulD_i, modD_i, ltD_i, ltD_s, leD_i, gtD_i, geD_i, negD_i, isBD_b, isnBD_b, truD_b, truD_i, truD_n, truD_l, truD_t, lenD_l, lenD_t, lenD_s, intD_i, intD_b, absD_i, listD_l, listD_t, tupD_l, tupD_t, max2D_i, min2D_i, isiD_d, revD_l, slD_l, slD_t, itemsA_l, itemsA_t, itemsA_s, ixD_l, ixD_t, zpD_l, zpD_t, setT_t, setTr_t, setNs_0, setNs_1, setN_z, setN_s, setO_z, setO_s, atI_z, atI_1, atI_2, atI_3, atI_4, setIx_0, setIx_1, setIx_2, sumD_map, rg1_i, rg2_i, eqD_i, neD_i, isi_int_n, isi_int_b, isi_int_i, isi_int_s, isi_int_l, isi_int_t, isi_int_d, isi_bool_n, isi_bool_b, isi_bool_i, isi_bool_s, isi_bool_l, isi_bool_t, isi_bool_d, isi_str_n, isi_str_b, isi_str_i, isi_str_s, isi_str_l, isi_str_t, isi_str_d, isi_list_n, isi_list_b, isi_list_i, isi_list_s, isi_list_l, isi_list_t, isi_list_d, isi_tuple_n, isi_tuple_b, isi_tuple_i, isi_tuple_s, isi_tuple_l, isi_tuple_t, isi_tuple_d, isi_dict_n, isi_dict_b, isi_dict_i, isi_dict_s, isi_dict_l, isi_dict_t, isi_dict_d, notD_b, isNone_n, isNone_s, isNone_i, isNone_t, isNone_l, kPure_ap, pickD_1, pickD_2, pickD_3, pickD_4, appD_l, extD_l, List.getElem?_cons_zero, List.getElem?_cons_succ, List.set_cons_zero, List.set_cons_succ, initE, Option.map_some, List.replicate, posT, getO, fillA, putA, Bool.not_true, Bool.not_false, if_true, if_false, Bool.false_eq_true, Option.bind_some, wipeE, restE, reduceIte, List.length_cons, List.length_nil, fwp_mk, fwp_mko, Nat.reduceAdd, Nat.reduceSub, List.append_nil, List.nil_append, List.cons_append, List.reverse_cons, List.reverse_nil, Int.reduceLT, Int.reduceLE, Int.reduceAdd, Int.reduceMul, Int.reduceNeg, decide_true, decide_false, decide_eq_true_eq, Int.reduceEq, Option.map_none, and_self, and_true, true_and, Bool.true_and, Bool.false_and, Bool.or_true, Bool.or_false, List.isEmpty_nil, List.isEmpty_cons, List.getElem?_nil, Option.isSome_some, Int.cast_ofNat_Int, Bool.not_eq_true, Bool.and_true, Bool.and_self, Bool.true_or, Bool.false_or, Bool.and_false, Int.reduceSub, Int.natCast_zero, Int.reduceGT, Int.reduceGE, ne_eq, not_true_eq_false, not_false_eq_true, B_is_sign]
theorem sign_len {ds : List D} (h : ds.length ≠ 2) : F_is_sign [.tuple ds] = .ok (.bool false) [] := by
  refine fo_eq ?_
  unfold F_is_sign
  rw [fwp_mk]
  simp -implicitDefEqProofs only [owp_ok, fwp_ok, onS_s, onS_n, gR_f, gQ_f, gQ_o, gL_f, gL_o, gO_o, opL_op, wp_ret, kE_ap, kSet_ap, ifM_t, ifM_f, wp_vr, wp_vq, wp_vl, wp_vo, kBin2_ap, kBin1_ap, wp_bin, kUna_ap, wp_una, kBL2_ap, kBL1_ap, kBL0_ap, wp_binL, wp_seq0, kS2_ap, kS1_ap, wp_seq1, kTup_ap, wp_tup, kLst_ap, wp_lst, wp_seqP0, kP3_ap, kP2_ap, kP1_ap, wp_seqP1, wp_noX, kDsp_ap, wp_dsp, kBool_ap, wp_boolOf, kN_ap, kNN_ap, wp_isN, wp_isNN, kC4_ap, kC3_ap, wp_bl, kC2_ap, kC1_ap, wp_chn, kTru_ap, wp_truM, kNot_ap, wp_notM, kIf_ap, wp_andM, wp_orM, wp_ite, wp_if, kAndV2_ap, kAndV_ap, wp_andV, kOrV2_ap, kOrV_ap, wp_orV, kNotV2_ap, kNotV_ap, wp_notV, wp_part0, kPart_ap, wp_part1, kSl2_ap, kSl1_ap, kSl0_ap, wp_sl, kSL3_ap, kSL2_ap, kSL1_ap, kSL0_ap, wp_slL, wp_evA0, kA1_ap, wp_evAv, kA2_ap, wp_evAio, kCall4_ap, kCall3_ap, kCall2_ap, kCall1_ap, wp_call, kK2_ap, kK1_ap, wp_callK, wp_nx, wp_bk, wp_ct, wp_no, kSeq_nx, kSeq_rt, kSeq_ro, kSeq_bk, kSeq_ct, wp_seq, kNx_ap, kExp_ap, kRt_ap, kRo_ap, wp_expr, wp_rt, wp_rtN, wp_ro, kAsg_ap, wp_asg, wp_asgO, kI3_ap, kI2_ap, kI1_ap, kI0b_ap, kI0_ap, wp_setIx, kM2_ap, kM1_ap, kM0_ap, wp_mt, kIt_ap, kIts_ap, wp_walkA, wp_range1, wp_range2, wp_range3, wp_zipM, wp_enumM, kFor_ap, wp_for, kTurn_nx, kTurn_ct, kTurn_bk, kTurn_rt, kTurn_ro, kElt_ap, kCond_t, kCond_f, wp_lc, endF_rt, endF_nx, endO_ro, kBody_ap, addD_i, addD_s, addD_t, addD_l, subD_i, mulD_i, modD_i, ltD_i, ltD_s, leD_i, gtD_i, geD_i, negD_i, isBD_b, isnBD_b, truD_b, truD_i, truD_n, truD_l, truD_t, lenD_l, lenD_t, lenD_s, intD_i, intD_b, absD_i, listD_l, listD_t, tupD_l, tupD_t, max2D_i, min2D_i, isiD_d, revD_l, slD_l, slD_t, itemsA_l, itemsA_t, itemsA_s, ixD_l, ixD_t, zpD_l, zpD_t, setT_t, setTr_t, setNs_0, setNs_1, setN_z, setN_s, setO_z, setO_s, atI_z, atI_1, atI_2, atI_3, atI_4, setIx_0, setIx_1, setIx_2, sumD_map, rg1_i, rg2_i, eqD_i, neD_i, isi_int_n, isi_int_b, isi_int_i, isi_int_s, isi_int_l, isi_int_t, isi_int_d, isi_bool_n, isi_bool_b, isi_bool_i, isi_bool_s, isi_bool_l, isi_bool_t, isi_bool_d, isi_str_n, isi_str_b, isi_str_i, isi_str_s, isi_str_l, isi_str_t, isi_str_d, isi_list_n, isi_list_b, isi_list_i, isi_list_s, isi_list_l, isi_list_t, isi_list_d, isi_tuple_n, isi_tuple_b, isi_tuple_i, isi_tuple_s, isi_tuple_l, isi_tuple_t, isi_tuple_d, isi_dict_n, isi_dict_b, isi_dict_i, isi_dict_s, isi_dict_l, isi_dict_t, isi_dict_d, notD_b, isNone_n, isNone_s, isNone_i, isNone_t, isNone_l, kPure_ap, pickD_1, pickD_2, pickD_3, pickD_4, appD_l, extD_l, List.getElem?_cons_zero, List.getElem?_cons_succ, List.set_cons_zero, List.set_cons_succ, initE, Option.map_some, List.replicate, posT, getO, fillA, putA, Bool.not_true, Bool.not_false, if_true, if_false, Bool.false_eq_true, Option.bind_some, wipeE, restE, reduceIte, List.length_cons, List.length_nil, fwp_mk, fwp_mko, Nat.reduceAdd, Nat.reduceSub, List.append_nil, List.nil_append, List.cons_append, List.reverse_cons, List.reverse_nil, Int.reduceLT, Int.reduceLE, Int.reduceAdd, Int.reduceMul, Int.reduceNeg, decide_true, decide_false, decide_eq_true_eq, Int.reduceEq, Option.map_none, and_self, and_true, true_and, Bool.true_and, Bool.false_and, Bool.or_true, Bool.or_false, List.isEmpty_nil, List.isEmpty_cons, List.getElem?_nil, Option.isSome_some, Int.cast_ofNat_Int, Bool.not_eq_true, Bool.and_true, Bool.and_self, Bool.true_or, Bool.false_or, Bool.and_false, Int.reduceSub, Int.natCast_zero, Int.reduceGT, Int.reduceGE, ne_eq, not_true_eq_false, not_false_eq_true, B_is_sign, show decide ((ds.length : Int) = 2) = false from decide_eq_false (by omega)]
theorem sign_list {h : Int} (hh : HoursOk h) (ds : List D) : F_is_sign [.tuple [.int h, .list ds]] = .ok (.bool false) [] := by
  have hb := hours_b hh
  refine fo_eq ?_
  unfold F_is_sign
  rw [fwp_mk]
  simp -implicitDefEqProofs only [owp_ok, fwp_ok, onS_s, onS_n, gR_f, gQ_f, gQ_o, gL_f, gL_o, gO_o, opL_op, wp_ret, kE_ap, kSet_ap, ifM_t, ifM_f, wp_vr, wp_vq, wp_vl, wp_vo, kBin2_ap, kBin1_ap, wp_bin, kUna_ap, wp_una, kBL2_ap, kBL1_ap, kBL0_ap, wp_binL, wp_seq0, kS2_ap, kS1_ap, wp_seq1, kTup_ap, wp_tup, kLst_ap, wp_lst, wp_seqP0, kP3_ap, kP2_ap, kP1_ap, wp_seqP1, wp_noX, kDsp_ap, wp_dsp, kBool_ap, wp_boolOf, kN_ap, kNN_ap, wp_isN, wp_isNN, kC4_ap, kC3_ap, wp_bl, kC2_ap, kC1_ap, wp_chn, kTru_ap, wp_truM, kNot_ap, wp_notM, kIf_ap, wp_andM, wp_orM, wp_ite, wp_if, kAndV2_ap, kAndV_ap, wp_andV, kOrV2_ap, kOrV_ap, wp_orV, kNotV2_ap, kNotV_ap, wp_notV, wp_part0, kPart_ap, wp_part1, kSl2_ap, kSl1_ap, kSl0_ap, wp_sl, kSL3_ap, kSL2_ap, kSL1_ap, kSL0_ap, wp_slL, wp_evA0, kA1_ap, wp_evAv, kA2_ap, wp_evAio, kCall4_ap, kCall3_ap, kCall2_ap, kCall1_ap, wp_call, kK2_ap, kK1_ap, wp_callK, wp_nx, wp_bk, wp_ct, wp_no, kSeq_nx, kSeq_rt, kSeq_ro, kSeq_bk, kSeq_ct, wp_seq, kNx_ap, kExp_ap, kRt_ap, kRo_ap, wp_expr, wp_rt, wp_rtN, wp_ro, kAsg_ap, wp_asg, wp_asgO, kI3_ap, kI2_ap, kI1_ap, kI0b_ap, kI0_ap, wp_setIx, kM2_ap, kM1_ap, kM0_ap, wp_mt, kIt_ap, kIts_ap, wp_walkA, wp_range1, wp_range2, wp_range3, wp_zipM, wp_enumM, kFor_ap, wp_for, kTurn_nx, kTurn_ct, kTurn_bk, kTurn_rt, kTurn_ro, kElt_ap, kCond_t, kCond_f, wp_lc, endF_rt, endF_nx, endO_ro, kBody_ap, addD_i, addD_s, addD_t, addD_l, subD_i, mulD_i, modD_i, ltD_i, ltD_s, leD_i, gtD_i, geD_i, negD_i, isBD_b, isnBD_b, truD_b, truD_i, truD_n, truD_l, truD_t, lenD_l, lenD_t, lenD_s, intD_i, intD_b, absD_i, listD_l, listD_t, tupD_l, tupD_t, max2D_i, min2D_i, isiD_d, revD_l, slD_l, slD_t, itemsA_l, itemsA_t, itemsA_s, ixD_l, ixD_t, zpD_l, zpD_t, setT_t, setTr_t, setNs_0, setNs_1, setN_z, setN_s, setO_z, setO_s, atI_z, atI_1, atI_2, atI_3, atI_4, setIx_0, setIx_1, setIx_2, sumD_map, rg1_i, rg2_i, eqD_i, neD_i, isi_int_n, isi_int_b, isi_int_i, isi_int_s, isi_int_l, isi_int_t, isi_int_d, isi_bool_n, isi_bool_b, isi_bool_i, isi_bool_s, isi_bool_l, isi_bool_t, isi_bool_d, isi_str_n, isi_str_b, isi_str_i, isi_str_s, isi_str_l, isi_str_t, isi_str_d, isi_list_n, isi_list_b, isi_list_i, isi_list_s, isi_list_l, isi_list_t, isi_list_d, isi_tuple_n, isi_tuple_b, isi_tuple_i, isi_tuple_s, isi_tuple_l, isi_tuple_t, isi_tuple_d, isi_dict_n, isi_dict_b, isi_dict_i, isi_dict_s, isi_dict_l, isi_dict_t, isi_dict_d, notD_b, isNone_n, isNone_s, isNone_i, isNone_t, isNone_l, kPure_ap, pickD_1, pickD_2, pickD_3, pickD_4, appD_l, extD_l, List.getElem?_cons_zero, List.getElem?_cons_succ, List.set_cons_zero, List.set_cons_succ, initE, Option.map_some, List.replicate, posT, getO, fillA, putA, Bool.not_true, Bool.not_false, if_true, if_false, Bool.false_eq_true, Option.bind_some, wipeE, restE, reduceIte, List.length_cons, List.length_nil, fwp_mk, fwp_mko, Nat.reduceAdd, Nat.reduceSub, List.append_nil, List.nil_append, List.cons_append, List.reverse_cons, List.reverse_nil, Int.reduceLT, Int.reduceLE, Int.reduceAdd, Int.reduceMul, Int.reduceNeg, decide_true, decide_false, decide_eq_true_eq, Int.reduceEq, Option.map_none, and_self, and_true, true_and, Bool.true_and, Bool.false_and, Bool.or_true, Bool.or_false, List.isEmpty_nil, List.isEmpty_cons, List.getElem?_nil, Option.isSome_some, Int.cast_ofNat_Int, Bool.not_eq_true, Bool.and_true, Bool.and_self, Bool.true_or, Bool.false_or, Bool.and_false, Int.reduceSub, Int.natCast_zero, Int.reduceGT, Int.reduceGE, ne_eq, not_true_eq_false, not_false_eq_true, B_is_sign, is_between_i, hb.1, hb.2]
theorem sign_bad {h : Int} {rows : List D} {x : D} (hh : HoursOk h) (hl : rows.length ≤ 11) (hr : ∀ r ∈ rows, RowOk h r) (hx : F_is_row [.int h, x] = .ok (.bool false) []) : F_is_sign [.tuple [.int h, .tuple (rows ++ [x])]] = .ok (.bool false) [] := by
  have hb := hours_b hh
  refine fo_eq ?_
  unfold F_is_sign
  rw [fwp_mk]
  have hlen : (rows ++ [x]).length = rows.length + 1 := by simp
  simp -implicitDefEqProofs only [owp_ok, fwp_ok, onS_s, onS_n, gR_f, gQ_f, gQ_o, gL_f, gL_o, gO_o, opL_op, wp_ret, kE_ap, kSet_ap, ifM_t, ifM_f, wp_vr, wp_vq, wp_vl, wp_vo, kBin2_ap, kBin1_ap, wp_bin, kUna_ap, wp_una, kBL2_ap, kBL1_ap, kBL0_ap, wp_binL, wp_seq0, kS2_ap, kS1_ap, wp_seq1, kTup_ap, wp_tup, kLst_ap, wp_lst, wp_seqP0, kP3_ap, kP2_ap, kP1_ap, wp_seqP1, wp_noX, kDsp_ap, wp_dsp, kBool_ap, wp_boolOf, kN_ap, kNN_ap, wp_isN, wp_isNN, kC4_ap, kC3_ap, wp_bl, kC2_ap, kC1_ap, wp_chn, kTru_ap, wp_truM, kNot_ap, wp_notM, kIf_ap, wp_andM, wp_orM, wp_ite, wp_if, kAndV2_ap, kAndV_ap, wp_andV, kOrV2_ap, kOrV_ap, wp_orV, kNotV2_ap, kNotV_ap, wp_notV, wp_part0, kPart_ap, wp_part1, kSl2_ap, kSl1_ap, kSl0_ap, wp_sl, kSL3_ap, kSL2_ap, kSL1_ap, kSL0_ap, wp_slL, wp_evA0, kA1_ap, wp_evAv, kA2_ap, wp_evAio, kCall4_ap, kCall3_ap, kCall2_ap, kCall1_ap, wp_call, kK2_ap, kK1_ap, wp_callK, wp_nx, wp_bk, wp_ct, wp_no, kSeq_nx, kSeq_rt, kSeq_ro, kSeq_bk, kSeq_ct, wp_seq, kNx_ap, kExp_ap, kRt_ap, kRo_ap, wp_expr, wp_rt, wp_rtN, wp_ro, kAsg_ap, wp_asg, wp_asgO, kI3_ap, kI2_ap, kI1_ap, kI0b_ap, kI0_ap, wp_setIx, kM2_ap, kM1_ap, kM0_ap, wp_mt, kIt_ap, kIts_ap, wp_walkA, wp_range1, wp_range2, wp_range3, wp_zipM, wp_enumM, kFor_ap, wp_for, kTurn_nx, kTurn_ct, kTurn_bk, kTurn_rt, kTurn_ro, kElt_ap, kCond_t, kCond_f, wp_lc, endF_rt, endF_nx, endO_ro, kBody_ap, addD_i, addD_s, addD_t, addD_l, subD_i, mulD_i, modD_i, ltD_i, ltD_s, leD_i, gtD_i, geD_i, negD_i, isBD_b, isnBD_b, truD_b, truD_i, truD_n, truD_l, truD_t, lenD_l, lenD_t, lenD_s, intD_i, intD_b, absD_i, listD_l, listD_t, tupD_l, tupD_t, max2D_i, min2D_i, isiD_d, revD_l, slD_l, slD_t, itemsA_l, itemsA_t, itemsA_s, ixD_l, ixD_t, zpD_l, zpD_t, setT_t, setTr_t, setNs_0, setNs_1, setN_z, setN_s, setO_z, setO_s, atI_z, atI_1, atI_2, atI_3, atI_4, setIx_0, setIx_1, setIx_2, sumD_map, rg1_i, rg2_i, eqD_i, neD_i, isi_int_n, isi_int_b, isi_int_i, isi_int_s, isi_int_l, isi_int_t, isi_int_d, isi_bool_n, isi_bool_b, isi_bool_i, isi_bool_s, isi_bool_l, isi_bool_t, isi_bool_d, isi_str_n, isi_str_b, isi_str_i, isi_str_s, isi_str_l, isi_str_t, isi_str_d, isi_list_n, isi_list_b, isi_list_i, isi_list_s, isi_list_l, isi_list_t, isi_list_d, isi_tuple_n, isi_tuple_b, isi_tuple_i, isi_tuple_s, isi_tuple_l, isi_tuple_t, isi_tuple_d, isi_dict_n, isi_dict_b, isi_dict_i, isi_dict_s, isi_dict_l, isi_dict_t, isi_dict_d, notD_b, isNone_n, isNone_s, isNone_i, isNone_t, isNone_l, kPure_ap, pickD_1, pickD_2, pickD_3, pickD_4, appD_l, extD_l, List.getElem?_cons_zero, List.getElem?_cons_succ, List.set_cons_zero, List.set_cons_succ, initE, Option.map_some, List.replicate, posT, getO, fillA, putA, Bool.not_true, Bool.not_false, if_true, if_false, Bool.false_eq_true, Option.bind_some, wipeE, restE, reduceIte, List.length_cons, List.length_nil, fwp_mk, fwp_mko, Nat.reduceAdd, Nat.reduceSub, List.append_nil, List.nil_append, List.cons_append, List.reverse_cons, List.reverse_nil, Int.reduceLT, Int.reduceLE, Int.reduceAdd, Int.reduceMul, Int.reduceNeg, decide_true, decide_false, decide_eq_true_eq, Int.reduceEq, Option.map_none, and_self, and_true, true_and, Bool.true_and, Bool.false_and, Bool.or_true, Bool.or_false, List.isEmpty_nil, List.isEmpty_cons, List.getElem?_nil, Option.isSome_some, Int.cast_ofNat_Int, Bool.not_eq_true, Bool.and_true, Bool.and_self, Bool.true_or, Bool.false_or, Bool.and_false, Int.reduceSub, Int.natCast_zero, Int.reduceGT, Int.reduceGE, ne_eq, not_true_eq_false, not_false_eq_true, B_is_sign, is_between_i, hb.1, hb.2, show ¬ ((12 : Int) < ((rows ++ [x]).length : Int)) by omega]
  refine kLc_of (fun rest acc e => e = [.fz (.tuple [.int h, .tuple (rows ++ [x])]), .fz (.int h), .fz (.tuple (rows ++ [x])), .un] ∧ ((∃ l, rest = l ++ [x] ∧ (∀ r ∈ l, RowOk h r) ∧ acc = List.replicate acc.length (.bool true) ∧ acc.length + l.length = rows.length) ∨ rest = [] ∧ ∃ k, k ≤ 11 ∧ acc = List.replicate k (.bool true) ++ [.bool false])) ⟨by simp -implicitDefEqProofs only [owp_ok, fwp_ok, onS_s, onS_n, gR_f, gQ_f, gQ_o, gL_f, gL_o, gO_o, opL_op, wp_ret, kE_ap, kSet_ap, ifM_t, ifM_f, wp_vr, wp_vq, wp_vl, wp_vo, kBin2_ap, kBin1_ap, wp_bin, kUna_ap, wp_una, kBL2_ap, kBL1_ap, kBL0_ap, wp_binL, wp_seq0, kS2_ap, kS1_ap, wp_seq1, kTup_ap, wp_tup, kLst_ap, wp_lst, wp_seqP0, kP3_ap, kP2_ap, kP1_ap, wp_seqP1, wp_noX, kDsp_ap, wp_dsp, kBool_ap, wp_boolOf, kN_ap, kNN_ap, wp_isN, wp_isNN, kC4_ap, kC3_ap, wp_bl, kC2_ap, kC1_ap, wp_chn, kTru_ap, wp_truM, kNot_ap, wp_notM, kIf_ap, wp_andM, wp_orM, wp_ite, wp_if, kAndV2_ap, kAndV_ap, wp_andV, kOrV2_ap, kOrV_ap, wp_orV, kNotV2_ap, kNotV_ap, wp_notV, wp_part0, kPart_ap, wp_part1, kSl2_ap, kSl1_ap, kSl0_ap, wp_sl, kSL3_ap, kSL2_ap, kSL1_ap, kSL0_ap, wp_slL, wp_evA0, kA1_ap, wp_evAv, kA2_ap, wp_evAio, kCall4_ap, kCall3_ap, kCall2_ap, kCall1_ap, wp_call, kK2_ap, kK1_ap, wp_callK, wp_nx, wp_bk, wp_ct, wp_no, kSeq_nx, kSeq_rt, kSeq_ro, kSeq_bk, kSeq_ct, wp_seq, kNx_ap, kExp_ap, kRt_ap, kRo_ap, wp_expr, wp_rt, wp_rtN, wp_ro, kAsg_ap, wp_asg, wp_asgO, kI3_ap, kI2_ap, kI1_ap, kI0b_ap, kI0_ap, wp_setIx, kM2_ap, kM1_ap, kM0_ap, wp_mt, kIt_ap, kIts_ap, wp_walkA, wp_range1, wp_range2, wp_range3, wp_zipM, wp_enumM, kFor_ap, wp_for, kTurn_nx, kTurn_ct, kTurn_bk, kTurn_rt, kTurn_ro, kElt_ap, kCond_t, kCond_f, wp_lc, endF_rt, endF_nx, endO_ro, kBody_ap, addD_i, addD_s, addD_t, addD_l, subD_i, mulD_i, modD_i, ltD_i, ltD_s, leD_i, gtD_i, geD_i, negD_i, isBD_b, isnBD_b, truD_b, truD_i, truD_n, truD_l, truD_t, lenD_l, lenD_t, lenD_s, intD_i, intD_b, absD_i, listD_l, listD_t, tupD_l, tupD_t, max2D_i, min2D_i, isiD_d, revD_l, slD_l, slD_t, itemsA_l, itemsA_t, itemsA_s, ixD_l, ixD_t, zpD_l, zpD_t, setT_t, setTr_t, setNs_0, setNs_1, setN_z, setN_s, setO_z, setO_s, atI_z, atI_1, atI_2, atI_3, atI_4, setIx_0, setIx_1, setIx_2, sumD_map, rg1_i, rg2_i, eqD_i, neD_i, isi_int_n, isi_int_b, isi_int_i, isi_int_s, isi_int_l, isi_int_t, isi_int_d, isi_bool_n, isi_bool_b, isi_bool_i, isi_bool_s, isi_bool_l, isi_bool_t, isi_bool_d, isi_str_n, isi_str_b, isi_str_i, isi_str_s, isi_str_l, isi_str_t, isi_str_d, isi_list_n, isi_list_b, isi_list_i, isi_list_s, isi_list_l, isi_list_t, isi_list_d, isi_tuple_n, isi_tuple_b, isi_tuple_i, isi_tuple_s, isi_tuple_l, isi_tuple_t, isi_tuple_d, isi_dict_n, isi_dict_b, isi_dict_i, isi_dict_s, isi_dict_l, isi_dict_t, isi_dict_d, notD_b, isNone_n, isNone_s, isNone_i, isNone_t, isNone_l, kPure_ap, pickD_1, pickD_2, pickD_3, pickD_4, appD_l, extD_l, List.getElem?_cons_zero, List.getElem?_cons_succ, List.set_cons_zero, List.set_cons_succ, initE, Option.map_some, List.replicate, posT, getO, fillA, putA, Bool.not_true, Bool.not_false, if_true, if_false, Bool.false_eq_true, Option.bind_some, wipeE, restE, reduceIte, List.length_cons, List.length_nil, fwp_mk, fwp_mko, Nat.reduceAdd, Nat.reduceSub, List.append_nil, List.nil_append, List.cons_append, List.reverse_cons, List.reverse_nil, Int.reduceLT, Int.reduceLE, Int.reduceAdd, Int.reduceMul, Int.reduceNeg, decide_true, decide_false, decide_eq_true_eq, Int.reduceEq, Option.map_none, and_self, and_true, true_and, Bool.true_and, Bool.false_and, Bool.or_true, Bool.or_false, List.isEmpty_nil, List.isEmpty_cons, List.getElem?_nil, Option.isSome_some, Int.cast_ofNat_Int, Bool.not_eq_true, Bool.and_true, Bool.and_self, Bool.true_or, Bool.false_or, Bool.and_false, Int.reduceSub, Int.natCast_zero, Int.reduceGT, Int.reduceGE, ne_eq, not_true_eq_false, not_false_eq_true], .inl ⟨rows, rfl, hr, rfl, by simp⟩⟩ ?_ ?_
  · intro d rest acc e0 hI
    obtain ⟨he, hI⟩ := hI
    rw [he]
    rcases hI with ⟨l, hl2, hrl, ha, hn⟩ | ⟨hrest, _⟩
    · cases l with
      | nil =>
        cases hl2
        simp -implicitDefEqProofs only [owp_ok, fwp_ok, onS_s, onS_n, gR_f, gQ_f, gQ_o, gL_f, gL_o, gO_o, opL_op, wp_ret, kE_ap, kSet_ap, ifM_t, ifM_f, wp_vr, wp_vq, wp_vl, wp_vo, kBin2_ap, kBin1_ap, wp_bin, kUna_ap, wp_una, kBL2_ap, kBL1_ap, kBL0_ap, wp_binL, wp_seq0, kS2_ap, kS1_ap, wp_seq1, kTup_ap, wp_tup, kLst_ap, wp_lst, wp_seqP0, kP3_ap, kP2_ap, kP1_ap, wp_seqP1, wp_noX, kDsp_ap, wp_dsp, kBool_ap, wp_boolOf, kN_ap, kNN_ap, wp_isN, wp_isNN, kC4_ap, kC3_ap, wp_bl, kC2_ap, kC1_ap, wp_chn, kTru_ap, wp_truM, kNot_ap, wp_notM, kIf_ap, wp_andM, wp_orM, wp_ite, wp_if, kAndV2_ap, kAndV_ap, wp_andV, kOrV2_ap, kOrV_ap, wp_orV, kNotV2_ap, kNotV_ap, wp_notV, wp_part0, kPart_ap, wp_part1, kSl2_ap, kSl1_ap, kSl0_ap, wp_sl, kSL3_ap, kSL2_ap, kSL1_ap, kSL0_ap, wp_slL, wp_evA0, kA1_ap, wp_evAv, kA2_ap, wp_evAio, kCall4_ap, kCall3_ap, kCall2_ap, kCall1_ap, wp_call, kK2_ap, kK1_ap, wp_callK, wp_nx, wp_bk, wp_ct, wp_no, kSeq_nx, kSeq_rt, kSeq_ro, kSeq_bk, kSeq_ct, wp_seq, kNx_ap, kExp_ap, kRt_ap, kRo_ap, wp_expr, wp_rt, wp_rtN, wp_ro, kAsg_ap, wp_asg, wp_asgO, kI3_ap, kI2_ap, kI1_ap, kI0b_ap, kI0_ap, wp_setIx, kM2_ap, kM1_ap, kM0_ap, wp_mt, kIt_ap, kIts_ap, wp_walkA, wp_range1, wp_range2, wp_range3, wp_zipM, wp_enumM, kFor_ap, wp_for, kTurn_nx, kTurn_ct, kTurn_bk, kTurn_rt, kTurn_ro, kElt_ap, kCond_t, kCond_f, wp_lc, endF_rt, endF_nx, endO_ro, kBody_ap, addD_i, addD_s, addD_t, addD_l, subD_i, mulD_i, modD_i, ltD_i, ltD_s, leD_i, gtD_i, geD_i, negD_i, isBD_b, isnBD_b, truD_b, truD_i, truD_n, truD_l, truD_t, lenD_l, lenD_t, lenD_s, intD_i, intD_b, absD_i, listD_l, listD_t, tupD_l, tupD_t, max2D_i, min2D_i, isiD_d, revD_l, slD_l, slD_t, itemsA_l, itemsA_t, itemsA_s, ixD_l, ixD_t, zpD_l, zpD_t, setT_t, setTr_t, setNs_0, setNs_1, setN_z, setN_s, setO_z, setO_s, atI_z, atI_1, atI_2, atI_3, atI_4, setIx_0, setIx_1, setIx_2, sumD_map, rg1_i, rg2_i, eqD_i, neD_i, isi_int_n, isi_int_b, isi_int_i, isi_int_s, isi_int_l, isi_int_t, isi_int_d, isi_bool_n, isi_bool_b, isi_bool_i, isi_bool_s, isi_bool_l, isi_bool_t, isi_bool_d, isi_str_n, isi_str_b, isi_str_i, isi_str_s, isi_str_l, isi_str_t, isi_str_d, isi_list_n, isi_list_b, isi_list_i, isi_list_s, isi_list_l, isi_list_t, isi_list_d, isi_tuple_n, isi_tuple_b, isi_tuple_i, isi_tuple_s, isi_tuple_l, isi_tuple_t, isi_tuple_d, isi_dict_n, isi_dict_b, isi_dict_i, isi_dict_s, isi_dict_l, isi_dict_t, isi_dict_d, notD_b, isNone_n, isNone_s, isNone_i, isNone_t, isNone_l, kPure_ap, pickD_1, pickD_2, pickD_3, pickD_4, appD_l, extD_l, List.getElem?_cons_zero, List.getElem?_cons_succ, List.set_cons_zero, List.set_cons_succ, initE, Option.map_some, List.replicate, posT, getO, fillA, putA, Bool.not_true, Bool.not_false, if_true, if_false, Bool.false_eq_true, Option.bind_some, wipeE, restE, reduceIte, List.length_cons, List.length_nil, fwp_mk, fwp_mko, Nat.reduceAdd, Nat.reduceSub, List.append_nil, List.nil_append, List.cons_append, List.reverse_cons, List.reverse_nil, Int.reduceLT, Int.reduceLE, Int.reduceAdd, Int.reduceMul, Int.reduceNeg, decide_true, decide_false, decide_eq_true_eq, Int.reduceEq, Option.map_none, and_self, and_true, true_and, Bool.true_and, Bool.false_and, Bool.or_true, Bool.or_false, List.isEmpty_nil, List.isEmpty_cons, List.getElem?_nil, Option.isSome_some, Int.cast_ofNat_Int, Bool.not_eq_true, Bool.and_true, Bool.and_self, Bool.true_or, Bool.false_or, Bool.and_false, Int.reduceSub, Int.natCast_zero, Int.reduceGT, Int.reduceGE, ne_eq, not_true_eq_false, not_false_eq_true, hx, kCond_t, kElt_ap]
        rw [List.length_nil] at hn
        exact .inr ⟨acc.length, by omega, by rw [← ha]⟩
      | cons r l =>
        cases hl2
        rw [List.length_cons] at hn
        simp -implicitDefEqProofs only [owp_ok, fwp_ok, onS_s, onS_n, gR_f, gQ_f, gQ_o, gL_f, gL_o, gO_o, opL_op, wp_ret, kE_ap, kSet_ap, ifM_t, ifM_f, wp_vr, wp_vq, wp_vl, wp_vo, kBin2_ap, kBin1_ap, wp_bin, kUna_ap, wp_una, kBL2_ap, kBL1_ap, kBL0_ap, wp_binL, wp_seq0, kS2_ap, kS1_ap, wp_seq1, kTup_ap, wp_tup, kLst_ap, wp_lst, wp_seqP0, kP3_ap, kP2_ap, kP1_ap, wp_seqP1, wp_noX, kDsp_ap, wp_dsp, kBool_ap, wp_boolOf, kN_ap, kNN_ap, wp_isN, wp_isNN, kC4_ap, kC3_ap, wp_bl, kC2_ap, kC1_ap, wp_chn, kTru_ap, wp_truM, kNot_ap, wp_notM, kIf_ap, wp_andM, wp_orM, wp_ite, wp_if, kAndV2_ap, kAndV_ap, wp_andV, kOrV2_ap, kOrV_ap, wp_orV, kNotV2_ap, kNotV_ap, wp_notV, wp_part0, kPart_ap, wp_part1, kSl2_ap, kSl1_ap, kSl0_ap, wp_sl, kSL3_ap, kSL2_ap, kSL1_ap, kSL0_ap, wp_slL, wp_evA0, kA1_ap, wp_evAv, kA2_ap, wp_evAio, kCall4_ap, kCall3_ap, kCall2_ap, kCall1_ap, wp_call, kK2_ap, kK1_ap, wp_callK, wp_nx, wp_bk, wp_ct, wp_no, kSeq_nx, kSeq_rt, kSeq_ro, kSeq_bk, kSeq_ct, wp_seq, kNx_ap, kExp_ap, kRt_ap, kRo_ap, wp_expr, wp_rt, wp_rtN, wp_ro, kAsg_ap, wp_asg, wp_asgO, kI3_ap, kI2_ap, kI1_ap, kI0b_ap, kI0_ap, wp_setIx, kM2_ap, kM1_ap, kM0_ap, wp_mt, kIt_ap, kIts_ap, wp_walkA, wp_range1, wp_range2, wp_range3, wp_zipM, wp_enumM, kFor_ap, wp_for, kTurn_nx, kTurn_ct, kTurn_bk, kTurn_rt, kTurn_ro, kElt_ap, kCond_t, kCond_f, wp_lc, endF_rt, endF_nx, endO_ro, kBody_ap, addD_i, addD_s, addD_t, addD_l, subD_i, mulD_i, modD_i, ltD_i, ltD_s, leD_i, gtD_i, geD_i, negD_i, isBD_b, isnBD_b, truD_b, truD_i, truD_n, truD_l, truD_t, lenD_l, lenD_t, lenD_s, intD_i, intD_b, absD_i, listD_l, listD_t, tupD_l, tupD_t, max2D_i, min2D_i, isiD_d, revD_l, slD_l, slD_t, itemsA_l, itemsA_t, itemsA_s, ixD_l, ixD_t, zpD_l, zpD_t, setT_t, setTr_t, setNs_0, setNs_1, setN_z, setN_s, setO_z, setO_s, atI_z, atI_1, atI_2, atI_3, atI_4, setIx_0, setIx_1, setIx_2, sumD_map, rg1_i, rg2_i, eqD_i, neD_i, isi_int_n, isi_int_b, isi_int_i, isi_int_s, isi_int_l, isi_int_t, isi_int_d, isi_bool_n, isi_bool_b, isi_bool_i, isi_bool_s, isi_bool_l, isi_bool_t, isi_bool_d, isi_str_n, isi_str_b, isi_str_i, isi_str_s, isi_str_l, isi_str_t, isi_str_d, isi_list_n, isi_list_b, isi_list_i, isi_list_s, isi_list_l, isi_list_t, isi_list_d, isi_tuple_n, isi_tuple_b, isi_tuple_i, isi_tuple_s, isi_tuple_l, isi_tuple_t, isi_tuple_d, isi_dict_n, isi_dict_b, isi_dict_i, isi_dict_s, isi_dict_l, isi_dict_t, isi_dict_d, notD_b, isNone_n, isNone_s, isNone_i, isNone_t, isNone_l, kPure_ap, pickD_1, pickD_2, pickD_3, pickD_4, appD_l, extD_l, List.getElem?_cons_zero, List.getElem?_cons_succ, List.set_cons_zero, List.set_cons_succ, initE, Option.map_some, List.replicate, posT, getO, fillA, putA, Bool.not_true, Bool.not_false, if_true, if_false, Bool.false_eq_true, Option.bind_some, wipeE, restE, reduceIte, List.length_cons, List.length_nil, fwp_mk, fwp_mko, Nat.reduceAdd, Nat.reduceSub, List.append_nil, List.nil_append, List.cons_append, List.reverse_cons, List.reverse_nil, Int.reduceLT, Int.reduceLE, Int.reduceAdd, Int.reduceMul, Int.reduceNeg, decide_true, decide_false, decide_eq_true_eq, Int.reduceEq, Option.map_none, and_self, and_true, true_and, Bool.true_and, Bool.false_and, Bool.or_true, Bool.or_false, List.isEmpty_nil, List.isEmpty_cons, List.getElem?_nil, Option.isSome_some, Int.cast_ofNat_Int, Bool.not_eq_true, Bool.and_true, Bool.and_self, Bool.true_or, Bool.false_or, Bool.and_false, Int.reduceSub, Int.natCast_zero, Int.reduceGT, Int.reduceGE, ne_eq, not_true_eq_false, not_false_eq_true, is_row_ok hh (hrl d List.mem_cons_self), kCond_t, kElt_ap]
        refine .inl ⟨l, rfl, fun y hy => hrl y (List.mem_cons_of_mem _ hy), ?_, by rw [List.length_append, List.length_cons, List.length_nil]; omega⟩
        rw [List.length_append, List.length_cons, List.length_nil, List.replicate_succ', ← ha]
    · cases hrest
  · intro acc e0 hI
    obtain ⟨he, hI⟩ := hI
    rw [he]
    rcases hI with ⟨l, hl2, _⟩ | ⟨_, k, hk, ha⟩
    · simp at hl2
    · have hall : allD (.list acc) = some (.bool false) := by
        rw [ha]
        have : ∀ k : Nat, boolsD (List.replicate k (PyData.bool true) ++ [.bool false]) = some (List.replicate k true ++ [false]) := fun k => by
          induction k with
          | zero => rfl
          | succ k ih => simp only [List.replicate_succ, List.cons_append, boolsD, ih, Option.map_some]
        simp only [allD, this, Option.map_some]
        simp
      refine ⟨by rw [ha, sizeLine_eq]; simp; omega, ?_⟩
      simp -implicitDefEqProofs only [owp_ok, fwp_ok, onS_s, onS_n, gR_f, gQ_f, gQ_o, gL_f, gL_o, gO_o, opL_op, wp_ret, kE_ap, kSet_ap, ifM_t, ifM_f, wp_vr, wp_vq, wp_vl, wp_vo, kBin2_ap, kBin1_ap, wp_bin, kUna_ap, wp_una, kBL2_ap, kBL1_ap, kBL0_ap, wp_binL, wp_seq0, kS2_ap, kS1_ap, wp_seq1, kTup_ap, wp_tup, kLst_ap, wp_lst, wp_seqP0, kP3_ap, kP2_ap, kP1_ap, wp_seqP1, wp_noX, kDsp_ap, wp_dsp, kBool_ap, wp_boolOf, kN_ap, kNN_ap, wp_isN, wp_isNN, kC4_ap, kC3_ap, wp_bl, kC2_ap, kC1_ap, wp_chn, kTru_ap, wp_truM, kNot_ap, wp_notM, kIf_ap, wp_andM, wp_orM, wp_ite, wp_if, kAndV2_ap, kAndV_ap, wp_andV, kOrV2_ap, kOrV_ap, wp_orV, kNotV2_ap, kNotV_ap, wp_notV, wp_part0, kPart_ap, wp_part1, kSl2_ap, kSl1_ap, kSl0_ap, wp_sl, kSL3_ap, kSL2_ap, kSL1_ap, kSL0_ap, wp_slL, wp_evA0, kA1_ap, wp_evAv, kA2_ap, wp_evAio, kCall4_ap, kCall3_ap, kCall2_ap, kCall1_ap, wp_call, kK2_ap, kK1_ap, wp_callK, wp_nx, wp_bk, wp_ct, wp_no, kSeq_nx, kSeq_rt, kSeq_ro, kSeq_bk, kSeq_ct, wp_seq, kNx_ap, kExp_ap, kRt_ap, kRo_ap, wp_expr, wp_rt, wp_rtN, wp_ro, kAsg_ap, wp_asg, wp_asgO, kI3_ap, kI2_ap, kI1_ap, kI0b_ap, kI0_ap, wp_setIx, kM2_ap, kM1_ap, kM0_ap, wp_mt, kIt_ap, kIts_ap, wp_walkA, wp_range1, wp_range2, wp_range3, wp_zipM, wp_enumM, kFor_ap, wp_for, kTurn_nx, kTurn_ct, kTurn_bk, kTurn_rt, kTurn_ro, kElt_ap, kCond_t, kCond_f, wp_lc, endF_rt, endF_nx, endO_ro, kBody_ap, addD_i, addD_s, addD_t, addD_l, subD_i, mulD_i, modD_i, ltD_i, ltD_s, leD_i, gtD_i, geD_i, negD_i, isBD_b, isnBD_b, truD_b, truD_i, truD_n, truD_l, truD_t, lenD_l, lenD_t, lenD_s, intD_i, intD_b, absD_i, listD_l, listD_t, tupD_l, tupD_t, max2D_i, min2D_i, isiD_d, revD_l, slD_l, slD_t, itemsA_l, itemsA_t, itemsA_s, ixD_l, ixD_t, zpD_l, zpD_t, setT_t, setTr_t, setNs_0, setNs_1, setN_z, setN_s, setO_z, setO_s, atI_z, atI_1, atI_2, atI_3, atI_4, setIx_0, setIx_1, setIx_2, sumD_map, rg1_i, rg2_i, eqD_i, neD_i, isi_int_n, isi_int_b, isi_int_i, isi_int_s, isi_int_l, isi_int_t, isi_int_d, isi_bool_n, isi_bool_b, isi_bool_i, isi_bool_s, isi_bool_l, isi_bool_t, isi_bool_d, isi_str_n, isi_str_b, isi_str_i, isi_str_s, isi_str_l, isi_str_t, isi_str_d, isi_list_n, isi_list_b, isi_list_i, isi_list_s, isi_list_l, isi_list_t, isi_list_d, isi_tuple_n, isi_tuple_b, isi_tuple_i, isi_tuple_s, isi_tuple_l, isi_tuple_t, isi_tuple_d, isi_dict_n, isi_dict_b, isi_dict_i, isi_dict_s, isi_dict_l, isi_dict_t, isi_dict_d, notD_b, isNone_n, isNone_s, isNone_i, isNone_t, isNone_l, kPure_ap, pickD_1, pickD_2, pickD_3, pickD_4, appD_l, extD_l, List.getElem?_cons_zero, List.getElem?_cons_succ, List.set_cons_zero, List.set_cons_succ, initE, Option.map_some, List.replicate, posT, getO, fillA, putA, Bool.not_true, Bool.not_false, if_true, if_false, Bool.false_eq_true, Option.bind_some, wipeE, restE, reduceIte, List.length_cons, List.length_nil, fwp_mk, fwp_mko, Nat.reduceAdd, Nat.reduceSub, List.append_nil, List.nil_append, List.cons_append, List.reverse_cons, List.reverse_nil, Int.reduceLT, Int.reduceLE, Int.reduceAdd, Int.reduceMul, Int.reduceNeg, decide_true, decide_false, decide_eq_true_eq, Int.reduceEq, Option.map_none, and_self, and_true, true_and, Bool.true_and, Bool.false_and, Bool.or_true, Bool.or_false, List.isEmpty_nil, List.isEmpty_cons, List.getElem?_nil, Option.isSome_some, Int.cast_ofNat_Int, Bool.not_eq_true, Bool.and_true, Bool.and_self, Bool.true_or, Bool.false_or, Bool.and_false, Int.reduceSub, Int.natCast_zero, Int.reduceGT, Int.reduceGE, ne_eq, not_true_eq_false, not_false_eq_true, hall]
end Vk10

namespace Vk10
open PySem PySem.Spec PyProof.Rows L2 ZZ
theorem cut1 : cutD row0 none (some 4) = [.int 0, .int 0, .str "any", .tuple []] := rfl
theorem cut2 : cutD row0 (some 2) none = [.str "any", .tuple [], .str "barred"] := rfl
theorem cut3 : cutD row0 none (some 2) = [.int 0, .int 0] := rfl
theorem cut4 : cutD row0 (some 3) none = [.tuple [], .str "barred"] := rfl
theorem cut5 : cutD row0 none (some 3) = [.int 0, .int 0, .str "any"] := rfl
theorem cut6 : cutD row0 (some 4) none = [.str "barred"] := rfl
theorem str_h {h : Int} (hh : HoursOk h) : strD (.int h) = some (.str (toString h)) := by
  have hb := hours_b hh
  show (if h.natAbs.log2 < 1920 then some (PyData.str (toString h)) else none) = _
  rw [if_pos]
  by_cases z : h.natAbs = 0
  · rw [z]; decide
  · have := (Nat.log2_lt (k := 10) z).mpr (by omega)
    omega
theorem kf_add {d : D} (h : d ∈ chrs "abcdefghijklm") : addD (.str "k") d = some (kf d) := by
  have h1 : ((chrs "abcdefghijklm").all fun d => (addD (.str "k") d).isSome) = true := by decide +kernel
  have := List.all_eq_true.mp h1 d h
  unfold kf
  cases e : addD (.str "k") d with
  | none => rw [e] at this; cases this
  | some v => rfl
theorem kf_add2 {d : D} (h : d ∈ chrs "abcdefghijkl") : addD (.str "k") d = some (kf d) := by
  have h1 : ((chrs "abcdefghijkl").all fun d => (addD (.str "k") d).isSome) = true := by decide +kernel
  have := List.all_eq_true.mp h1 d h
  unfold kf
  cases e : addD (.str "k") d with
  | none => rw [e] at this; cases this
  | some v => rfl
theorem row0_len : row0.length = 5 := rfl
theorem sz (n : Nat) (h : n ≤ 1000) : (n ≤ sizeLine) = True := by
  rw [sizeLine_eq]; simp; omega
theorem many_ok {h : Int} (hh : HoursOk h) : F_is_sign [.tuple [.int h, .tuple [.tuple [.int 0, .int 0, .str "any", .tuple ((chrs "abcdefghijkl").map kf), .str "free"]]]] = .ok (.bool true) [] := by
  rcases hh with rfl | rfl | rfl | rfl | rfl <;> exact of_isT (by decide +kernel)
theorem mul13 : mulD (.tuple [.tuple row0]) (.int 13) = some (.tuple (List.replicate 13 (.tuple row0))) := rfl
theorem bad13 {h : Int} (hh : HoursOk h) : F_is_sign [.tuple [.int h, .tuple (List.replicate 13 (.tuple row0))]] = .ok (.bool false) [] := by
  rcases hh with rfl | rfl | rfl | rfl | rfl <;> exact of_isF (by decide +kernel)
theorem bad_c : ∀ x ∈ [PyData.tuple [.int 0, .tuple []], .tuple [.int 25, .tuple []], .tuple [.bool true, .tuple []], .none, .tuple [], .str "sign", .int 7, .dict []], F_is_sign [x] = .ok (.bool false) [] := by
  have : ([PyData.tuple [.int 0, .tuple []], .tuple [.int 25, .tuple []], .tuple [.bool true, .tuple []], .none, .tuple [], .str "sign", .int 7, .dict []].all fun x => isF (F_is_sign [x])) = true := by decide +kernel
  intro x hx
  exact of_isF (List.all_eq_true.mp this x hx)
theorem bad_str (z : Str) : F_is_sign [.tuple [.str z, .tuple []]] = .ok (.bool false) [] := by
  refine fo_eq ?_
  unfold F_is_sign
  rw [fwp_mk]
  simp -implicitDefEqProofs only [owp_ok, fwp_ok, onS_s, onS_n, gR_f, gQ_f, gQ_o, gL_f, gL_o, gO_o, opL_op, wp_ret, kE_ap, kSet_ap, ifM_t, ifM_f, wp_vr, wp_vq, wp_vl, wp_vo, kBin2_ap, kBin1_ap, wp_bin, kUna_ap, wp_una, kBL2_ap, kBL1_ap, kBL0_ap, wp_binL, wp_seq0, kS2_ap, kS1_ap, wp_seq1, kTup_ap, wp_tup, kLst_ap, wp_lst, wp_seqP0, kP3_ap, kP2_ap, kP1_ap, wp_seqP1, wp_noX, kDsp_ap, wp_dsp, kBool_ap, wp_boolOf, kN_ap, kNN_ap, wp_isN, wp_isNN, kC4_ap, kC3_ap, wp_bl, kC2_ap, kC1_ap, wp_chn, kTru_ap, wp_truM, kNot_ap, wp_notM, kIf_ap, wp_andM, wp_orM, wp_ite, wp_if, kAndV2_ap, kAndV_ap, wp_andV, kOrV2_ap, kOrV_ap, wp_orV, kNotV2_ap, kNotV_ap, wp_notV, wp_part0, kPart_ap, wp_part1, kSl2_ap, kSl1_ap, kSl0_ap, wp_sl, kSL3_ap, kSL2_ap, kSL1_ap, kSL0_ap, wp_slL, wp_evA0, kA1_ap, wp_evAv, kA2_ap, wp_evAio, kCall4_ap, kCall3_ap, kCall2_ap, kCall1_ap, wp_call, kK2_ap, kK1_ap, wp_callK, wp_nx, wp_bk, wp_ct, wp_no, kSeq_nx, kSeq_rt, kSeq_ro, kSeq_bk, kSeq_ct, wp_seq, kNx_ap, kExp_ap, kRt_ap, kRo_ap, wp_expr, wp_rt, wp_rtN, wp_ro, kAsg_ap, wp_asg, wp_asgO, kI3_ap, kI2_ap, kI1_ap, kI0b_ap, kI0_ap, wp_setIx, kM2_ap, kM1_ap, kM0_ap, wp_mt, kIt_ap, kIts_ap, wp_walkA, wp_range1, wp_range2, wp_range3, wp_zipM, wp_enumM, kFor_ap, wp_for, kTurn_nx, kTurn_ct, kTurn_bk, kTurn_rt, kTurn_ro, kElt_ap, kCond_t, kCond_f, wp_lc, endF_rt, endF_nx, endO_ro, kBody_ap, addD_i, addD_s, addD_t, addD_l, subD_i, mulD_i, modD_i, ltD_i, ltD_s, leD_i, gtD_i, geD_i, negD_i, isBD_b, isnBD_b, truD_b, truD_i, truD_n, truD_l, truD_t, lenD_l, lenD_t, lenD_s, intD_i, intD_b, absD_i, listD_l, listD_t, tupD_l, tupD_t, max2D_i, min2D_i, isiD_d, revD_l, slD_l, slD_t, itemsA_l, itemsA_t, itemsA_s, ixD_l, ixD_t, zpD_l, zpD_t, setT_t, setTr_t, setNs_0, setNs_1, setN_z, setN_s, setO_z, setO_s, atI_z, atI_1, atI_2, atI_3, atI_4, setIx_0, setIx_1, setIx_2, sumD_map, rg1_i, rg2_i, eqD_i, neD_i, isi_int_n, isi_int_b, isi_int_i, isi_int_s, isi_int_l, isi_int_t, isi_int_d, isi_bool_n, isi_bool_b, isi_bool_i, isi_bool_s, isi_bool_l, isi_bool_t, isi_bool_d, isi_str_n, isi_str_b, isi_str_i, isi_str_s, isi_str_l, isi_str_t, isi_str_d, isi_list_n, isi_list_b, isi_list_i, isi_list_s, isi_list_l, isi_list_t, isi_list_d, isi_tuple_n, isi_tuple_b, isi_tuple_i, isi_tuple_s, isi_tuple_l, isi_tuple_t, isi_tuple_d, isi_dict_n, isi_dict_b, isi_dict_i, isi_dict_s, isi_dict_l, isi_dict_t, isi_dict_d, notD_b, isNone_n, isNone_s, isNone_i, isNone_t, isNone_l, kPure_ap, pickD_1, pickD_2, pickD_3, pickD_4, appD_l, extD_l, List.getElem?_cons_zero, List.getElem?_cons_succ, List.set_cons_zero, List.set_cons_succ, initE, Option.map_some, List.replicate, posT, getO, fillA, putA, Bool.not_true, Bool.not_false, if_true, if_false, Bool.false_eq_true, Option.bind_some, wipeE, restE, reduceIte, List.length_cons, List.length_nil, fwp_mk, fwp_mko, Nat.reduceAdd, Nat.reduceSub, List.append_nil, List.nil_append, List.cons_append, List.reverse_cons, List.reverse_nil, Int.reduceLT, Int.reduceLE, Int.reduceAdd, Int.reduceMul, Int.reduceNeg, decide_true, decide_false, decide_eq_true_eq, Int.reduceEq, Option.map_none, and_self, and_true, true_and, Bool.true_and, Bool.false_and, Bool.or_true, Bool.or_false, List.isEmpty_nil, List.isEmpty_cons, List.getElem?_nil, Option.isSome_some, Int.cast_ofNat_Int, Bool.not_eq_true, Bool.and_true, Bool.and_self, Bool.true_or, Bool.false_or, Bool.and_false, Int.reduceSub, Int.natCast_zero, Int.reduceGT, Int.reduceGE, ne_eq, not_true_eq_false, not_false_eq_true, B_is_sign, is_between_n (.str z) 1 24 rfl]
seal Wp Owp Fwp onS
theorem bent_ok {h : Int} {p s : D} (hh : HoursOk h) (hs : SignOk h s) : Fwp (F__law_are_bent_told [p, s]) fun d outs => d = .bool true ∧ outs = [p] := by
  have hb := hours_b hh
  obtain ⟨rows, rfl, hl, hr⟩ := id hs
  have e0 : (PyData.tuple [.int 0, .int 0, .str "any", .tuple [], .str "barred"]) = .tuple row0 := rfl
  unfold F__law_are_bent_told
  rw [fwp_mk]
  simp -implicitDefEqProofs only [owp_ok, fwp_ok, onS_s, onS_n, gR_f, gQ_f, gQ_o, gL_f, gL_o, gO_o, opL_op, wp_ret, kE_ap, kSet_ap, ifM_t, ifM_f, wp_vr, wp_vq, wp_vl, wp_vo, kBin2_ap, kBin1_ap, wp_bin, kUna_ap, wp_una, kBL2_ap, kBL1_ap, kBL0_ap, wp_binL, wp_seq0, kS2_ap, kS1_ap, wp_seq1, kTup_ap, wp_tup, kLst_ap, wp_lst, wp_seqP0, kP3_ap, kP2_ap, kP1_ap, wp_seqP1, wp_noX, kDsp_ap, wp_dsp, kBool_ap, wp_boolOf, kN_ap, kNN_ap, wp_isN, wp_isNN, kC4_ap, kC3_ap, wp_bl, kC2_ap, kC1_ap, wp_chn, kTru_ap, wp_truM, kNot_ap, wp_notM, kIf_ap, wp_andM, wp_orM, wp_ite, wp_if, kAndV2_ap, kAndV_ap, wp_andV, kOrV2_ap, kOrV_ap, wp_orV, kNotV2_ap, kNotV_ap, wp_notV, wp_part0, kPart_ap, wp_part1, kSl2_ap, kSl1_ap, kSl0_ap, wp_sl, kSL3_ap, kSL2_ap, kSL1_ap, kSL0_ap, wp_slL, wp_evA0, kA1_ap, wp_evAv, kA2_ap, wp_evAio, kCall4_ap, kCall3_ap, kCall2_ap, kCall1_ap, wp_call, kK2_ap, kK1_ap, wp_callK, wp_nx, wp_bk, wp_ct, wp_no, kSeq_nx, kSeq_rt, kSeq_ro, kSeq_bk, kSeq_ct, wp_seq, kNx_ap, kExp_ap, kRt_ap, kRo_ap, wp_expr, wp_rt, wp_rtN, wp_ro, kAsg_ap, wp_asg, wp_asgO, kI3_ap, kI2_ap, kI1_ap, kI0b_ap, kI0_ap, wp_setIx, kM2_ap, kM1_ap, kM0_ap, wp_mt, kIt_ap, kIts_ap, wp_walkA, wp_range1, wp_range2, wp_range3, wp_zipM, wp_enumM, kFor_ap, wp_for, kTurn_nx, kTurn_ct, kTurn_bk, kTurn_rt, kTurn_ro, kElt_ap, kCond_t, kCond_f, wp_lc, endF_rt, endF_nx, endO_ro, kBody_ap, addD_i, addD_s, addD_t, addD_l, subD_i, mulD_i, modD_i, ltD_i, ltD_s, leD_i, gtD_i, geD_i, negD_i, isBD_b, isnBD_b, truD_b, truD_i, truD_n, truD_l, truD_t, lenD_l, lenD_t, lenD_s, intD_i, intD_b, absD_i, listD_l, listD_t, tupD_l, tupD_t, max2D_i, min2D_i, isiD_d, revD_l, slD_l, slD_t, itemsA_l, itemsA_t, itemsA_s, ixD_l, ixD_t, zpD_l, zpD_t, setT_t, setTr_t, setNs_0, setNs_1, setN_z, setN_s, setO_z, setO_s, atI_z, atI_1, atI_2, atI_3, atI_4, setIx_0, setIx_1, setIx_2, sumD_map, rg1_i, rg2_i, eqD_i, neD_i, isi_int_n, isi_int_b, isi_int_i, isi_int_s, isi_int_l, isi_int_t, isi_int_d, isi_bool_n, isi_bool_b, isi_bool_i, isi_bool_s, isi_bool_l, isi_bool_t, isi_bool_d, isi_str_n, isi_str_b, isi_str_i, isi_str_s, isi_str_l, isi_str_t, isi_str_d, isi_list_n, isi_list_b, isi_list_i, isi_list_s, isi_list_l, isi_list_t, isi_list_d, isi_tuple_n, isi_tuple_b, isi_tuple_i, isi_tuple_s, isi_tuple_l, isi_tuple_t, isi_tuple_d, isi_dict_n, isi_dict_b, isi_dict_i, isi_dict_s, isi_dict_l, isi_dict_t, isi_dict_d, notD_b, isNone_n, isNone_s, isNone_i, isNone_t, isNone_l, kPure_ap, pickD_1, pickD_2, pickD_3, pickD_4, appD_l, extD_l, List.getElem?_cons_zero, List.getElem?_cons_succ, List.set_cons_zero, List.set_cons_succ, initE, Option.map_some, List.replicate, posT, getO, fillA, putA, Bool.not_true, Bool.not_false, if_true, if_false, Bool.false_eq_true, Option.bind_some, wipeE, restE, reduceIte, List.length_cons, List.length_nil, fwp_mk, fwp_mko, Nat.reduceAdd, Nat.reduceSub, List.append_nil, List.nil_append, List.cons_append, List.reverse_cons, List.reverse_nil, Int.reduceLT, Int.reduceLE, Int.reduceAdd, Int.reduceMul, Int.reduceNeg, decide_true, decide_false, decide_eq_true_eq, Int.reduceEq, Option.map_none, and_self, and_true, true_and, Bool.true_and, Bool.false_and, Bool.or_true, Bool.or_false, List.isEmpty_nil, List.isEmpty_cons, List.getElem?_nil, Option.isSome_some, Int.cast_ofNat_Int, Bool.not_eq_true, Bool.and_true, Bool.and_self, Bool.true_or, Bool.false_or, Bool.and_false, Int.reduceSub, Int.natCast_zero, Int.reduceGT, Int.reduceGE, ne_eq, not_true_eq_false, not_false_eq_true, B__law_are_bent_told, mulOk_l (i := 7) (j := h) (by omega), str_h hh, e0, cut1, cut2, cut3, cut4, cut5, cut6, row0_len, sizeLine_eq, Nat.reduceLeDiff, Nat.reduceLT, List.length_map, List.length_append]
  refine kLc_map fDay (fun d hd => ?_) (by rw [sizeLine_eq]; simp) ?_
  · simp -implicitDefEqProofs only [owp_ok, fwp_ok, onS_s, onS_n, gR_f, gQ_f, gQ_o, gL_f, gL_o, gO_o, opL_op, wp_ret, kE_ap, kSet_ap, ifM_t, ifM_f, wp_vr, wp_vq, wp_vl, wp_vo, kBin2_ap, kBin1_ap, wp_bin, kUna_ap, wp_una, kBL2_ap, kBL1_ap, kBL0_ap, wp_binL, wp_seq0, kS2_ap, kS1_ap, wp_seq1, kTup_ap, wp_tup, kLst_ap, wp_lst, wp_seqP0, kP3_ap, kP2_ap, kP1_ap, wp_seqP1, wp_noX, kDsp_ap, wp_dsp, kBool_ap, wp_boolOf, kN_ap, kNN_ap, wp_isN, wp_isNN, kC4_ap, kC3_ap, wp_bl, kC2_ap, kC1_ap, wp_chn, kTru_ap, wp_truM, kNot_ap, wp_notM, kIf_ap, wp_andM, wp_orM, wp_ite, wp_if, kAndV2_ap, kAndV_ap, wp_andV, kOrV2_ap, kOrV_ap, wp_orV, kNotV2_ap, kNotV_ap, wp_notV, wp_part0, kPart_ap, wp_part1, kSl2_ap, kSl1_ap, kSl0_ap, wp_sl, kSL3_ap, kSL2_ap, kSL1_ap, kSL0_ap, wp_slL, wp_evA0, kA1_ap, wp_evAv, kA2_ap, wp_evAio, kCall4_ap, kCall3_ap, kCall2_ap, kCall1_ap, wp_call, kK2_ap, kK1_ap, wp_callK, wp_nx, wp_bk, wp_ct, wp_no, kSeq_nx, kSeq_rt, kSeq_ro, kSeq_bk, kSeq_ct, wp_seq, kNx_ap, kExp_ap, kRt_ap, kRo_ap, wp_expr, wp_rt, wp_rtN, wp_ro, kAsg_ap, wp_asg, wp_asgO, kI3_ap, kI2_ap, kI1_ap, kI0b_ap, kI0_ap, wp_setIx, kM2_ap, kM1_ap, kM0_ap, wp_mt, kIt_ap, kIts_ap, wp_walkA, wp_range1, wp_range2, wp_range3, wp_zipM, wp_enumM, kFor_ap, wp_for, kTurn_nx, kTurn_ct, kTurn_bk, kTurn_rt, kTurn_ro, kElt_ap, kCond_t, kCond_f, wp_lc, endF_rt, endF_nx, endO_ro, kBody_ap, addD_i, addD_s, addD_t, addD_l, subD_i, mulD_i, modD_i, ltD_i, ltD_s, leD_i, gtD_i, geD_i, negD_i, isBD_b, isnBD_b, truD_b, truD_i, truD_n, truD_l, truD_t, lenD_l, lenD_t, lenD_s, intD_i, intD_b, absD_i, listD_l, listD_t, tupD_l, tupD_t, max2D_i, min2D_i, isiD_d, revD_l, slD_l, slD_t, itemsA_l, itemsA_t, itemsA_s, ixD_l, ixD_t, zpD_l, zpD_t, setT_t, setTr_t, setNs_0, setNs_1, setN_z, setN_s, setO_z, setO_s, atI_z, atI_1, atI_2, atI_3, atI_4, setIx_0, setIx_1, setIx_2, sumD_map, rg1_i, rg2_i, eqD_i, neD_i, isi_int_n, isi_int_b, isi_int_i, isi_int_s, isi_int_l, isi_int_t, isi_int_d, isi_bool_n, isi_bool_b, isi_bool_i, isi_bool_s, isi_bool_l, isi_bool_t, isi_bool_d, isi_str_n, isi_str_b, isi_str_i, isi_str_s, isi_str_l, isi_str_t, isi_str_d, isi_list_n, isi_list_b, isi_list_i, isi_list_s, isi_list_l, isi_list_t, isi_list_d, isi_tuple_n, isi_tuple_b, isi_tuple_i, isi_tuple_s, isi_tuple_l, isi_tuple_t, isi_tuple_d, isi_dict_n, isi_dict_b, isi_dict_i, isi_dict_s, isi_dict_l, isi_dict_t, isi_dict_d, notD_b, isNone_n, isNone_s, isNone_i, isNone_t, isNone_l, kPure_ap, pickD_1, pickD_2, pickD_3, pickD_4, appD_l, extD_l, List.getElem?_cons_zero, List.getElem?_cons_succ, List.set_cons_zero, List.set_cons_succ, initE, Option.map_some, List.replicate, posT, getO, fillA, putA, Bool.not_true, Bool.not_false, if_true, if_false, Bool.false_eq_true, Option.bind_some, wipeE, restE, reduceIte, List.length_cons, List.length_nil, fwp_mk, fwp_mko, Nat.reduceAdd, Nat.reduceSub, List.append_nil, List.nil_append, List.cons_append, List.reverse_cons, List.reverse_nil, Int.reduceLT, Int.reduceLE, Int.reduceAdd, Int.reduceMul, Int.reduceNeg, decide_true, decide_false, decide_eq_true_eq, Int.reduceEq, Option.map_none, and_self, and_true, true_and, Bool.true_and, Bool.false_and, Bool.or_true, Bool.or_false, List.isEmpty_nil, List.isEmpty_cons, List.getElem?_nil, Option.isSome_some, Int.cast_ofNat_Int, Bool.not_eq_true, Bool.and_true, Bool.and_self, Bool.true_or, Bool.false_or, Bool.and_false, Int.reduceSub, Int.natCast_zero, Int.reduceGT, Int.reduceGE, ne_eq, not_true_eq_false, not_false_eq_true, mulOk_l (i := 7) (j := h) (by omega), str_h hh, e0, cut1, cut2, cut3, cut4, cut5, cut6, row0_len, sizeLine_eq, Nat.reduceLeDiff, Nat.reduceLT, List.length_map, List.length_append, fDay]
  simp -implicitDefEqProofs only [owp_ok, fwp_ok, onS_s, onS_n, gR_f, gQ_f, gQ_o, gL_f, gL_o, gO_o, opL_op, wp_ret, kE_ap, kSet_ap, ifM_t, ifM_f, wp_vr, wp_vq, wp_vl, wp_vo, kBin2_ap, kBin1_ap, wp_bin, kUna_ap, wp_una, kBL2_ap, kBL1_ap, kBL0_ap, wp_binL, wp_seq0, kS2_ap, kS1_ap, wp_seq1, kTup_ap, wp_tup, kLst_ap, wp_lst, wp_seqP0, kP3_ap, kP2_ap, kP1_ap, wp_seqP1, wp_noX, kDsp_ap, wp_dsp, kBool_ap, wp_boolOf, kN_ap, kNN_ap, wp_isN, wp_isNN, kC4_ap, kC3_ap, wp_bl, kC2_ap, kC1_ap, wp_chn, kTru_ap, wp_truM, kNot_ap, wp_notM, kIf_ap, wp_andM, wp_orM, wp_ite, wp_if, kAndV2_ap, kAndV_ap, wp_andV, kOrV2_ap, kOrV_ap, wp_orV, kNotV2_ap, kNotV_ap, wp_notV, wp_part0, kPart_ap, wp_part1, kSl2_ap, kSl1_ap, kSl0_ap, wp_sl, kSL3_ap, kSL2_ap, kSL1_ap, kSL0_ap, wp_slL, wp_evA0, kA1_ap, wp_evAv, kA2_ap, wp_evAio, kCall4_ap, kCall3_ap, kCall2_ap, kCall1_ap, wp_call, kK2_ap, kK1_ap, wp_callK, wp_nx, wp_bk, wp_ct, wp_no, kSeq_nx, kSeq_rt, kSeq_ro, kSeq_bk, kSeq_ct, wp_seq, kNx_ap, kExp_ap, kRt_ap, kRo_ap, wp_expr, wp_rt, wp_rtN, wp_ro, kAsg_ap, wp_asg, wp_asgO, kI3_ap, kI2_ap, kI1_ap, kI0b_ap, kI0_ap, wp_setIx, kM2_ap, kM1_ap, kM0_ap, wp_mt, kIt_ap, kIts_ap, wp_walkA, wp_range1, wp_range2, wp_range3, wp_zipM, wp_enumM, kFor_ap, wp_for, kTurn_nx, kTurn_ct, kTurn_bk, kTurn_rt, kTurn_ro, kElt_ap, kCond_t, kCond_f, wp_lc, endF_rt, endF_nx, endO_ro, kBody_ap, addD_i, addD_s, addD_t, addD_l, subD_i, mulD_i, modD_i, ltD_i, ltD_s, leD_i, gtD_i, geD_i, negD_i, isBD_b, isnBD_b, truD_b, truD_i, truD_n, truD_l, truD_t, lenD_l, lenD_t, lenD_s, intD_i, intD_b, absD_i, listD_l, listD_t, tupD_l, tupD_t, max2D_i, min2D_i, isiD_d, revD_l, slD_l, slD_t, itemsA_l, itemsA_t, itemsA_s, ixD_l, ixD_t, zpD_l, zpD_t, setT_t, setTr_t, setNs_0, setNs_1, setN_z, setN_s, setO_z, setO_s, atI_z, atI_1, atI_2, atI_3, atI_4, setIx_0, setIx_1, setIx_2, sumD_map, rg1_i, rg2_i, eqD_i, neD_i, isi_int_n, isi_int_b, isi_int_i, isi_int_s, isi_int_l, isi_int_t, isi_int_d, isi_bool_n, isi_bool_b, isi_bool_i, isi_bool_s, isi_bool_l, isi_bool_t, isi_bool_d, isi_str_n, isi_str_b, isi_str_i, isi_str_s, isi_str_l, isi_str_t, isi_str_d, isi_list_n, isi_list_b, isi_list_i, isi_list_s, isi_list_l, isi_list_t, isi_list_d, isi_tuple_n, isi_tuple_b, isi_tuple_i, isi_tuple_s, isi_tuple_l, isi_tuple_t, isi_tuple_d, isi_dict_n, isi_dict_b, isi_dict_i, isi_dict_s, isi_dict_l, isi_dict_t, isi_dict_d, notD_b, isNone_n, isNone_s, isNone_i, isNone_t, isNone_l, kPure_ap, pickD_1, pickD_2, pickD_3, pickD_4, appD_l, extD_l, List.getElem?_cons_zero, List.getElem?_cons_succ, List.set_cons_zero, List.set_cons_succ, initE, Option.map_some, List.replicate, posT, getO, fillA, putA, Bool.not_true, Bool.not_false, if_true, if_false, Bool.false_eq_true, Option.bind_some, wipeE, restE, reduceIte, List.length_cons, List.length_nil, fwp_mk, fwp_mko, Nat.reduceAdd, Nat.reduceSub, List.append_nil, List.nil_append, List.cons_append, List.reverse_cons, List.reverse_nil, Int.reduceLT, Int.reduceLE, Int.reduceAdd, Int.reduceMul, Int.reduceNeg, decide_true, decide_false, decide_eq_true_eq, Int.reduceEq, Option.map_none, and_self, and_true, true_and, Bool.true_and, Bool.false_and, Bool.or_true, Bool.or_false, List.isEmpty_nil, List.isEmpty_cons, List.getElem?_nil, Option.isSome_some, Int.cast_ofNat_Int, Bool.not_eq_true, Bool.and_true, Bool.and_self, Bool.true_or, Bool.false_or, Bool.and_false, Int.reduceSub, Int.natCast_zero, Int.reduceGT, Int.reduceGE, ne_eq, not_true_eq_false, not_false_eq_true, mulOk_l (i := 7) (j := h) (by omega), str_h hh, e0, cut1, cut2, cut3, cut4, cut5, cut6, row0_len, sizeLine_eq, Nat.reduceLeDiff, Nat.reduceLT, List.length_map, List.length_append]
  refine kLc_map kf (fun d hd => ?_) (by rw [sizeLine_eq, show (chrs "abcdefghijklm").length = 13 by decide +kernel]; omega) ?_
  · simp -implicitDefEqProofs only [owp_ok, fwp_ok, onS_s, onS_n, gR_f, gQ_f, gQ_o, gL_f, gL_o, gO_o, opL_op, wp_ret, kE_ap, kSet_ap, ifM_t, ifM_f, wp_vr, wp_vq, wp_vl, wp_vo, kBin2_ap, kBin1_ap, wp_bin, kUna_ap, wp_una, kBL2_ap, kBL1_ap, kBL0_ap, wp_binL, wp_seq0, kS2_ap, kS1_ap, wp_seq1, kTup_ap, wp_tup, kLst_ap, wp_lst, wp_seqP0, kP3_ap, kP2_ap, kP1_ap, wp_seqP1, wp_noX, kDsp_ap, wp_dsp, kBool_ap, wp_boolOf, kN_ap, kNN_ap, wp_isN, wp_isNN, kC4_ap, kC3_ap, wp_bl, kC2_ap, kC1_ap, wp_chn, kTru_ap, wp_truM, kNot_ap, wp_notM, kIf_ap, wp_andM, wp_orM, wp_ite, wp_if, kAndV2_ap, kAndV_ap, wp_andV, kOrV2_ap, kOrV_ap, wp_orV, kNotV2_ap, kNotV_ap, wp_notV, wp_part0, kPart_ap, wp_part1, kSl2_ap, kSl1_ap, kSl0_ap, wp_sl, kSL3_ap, kSL2_ap, kSL1_ap, kSL0_ap, wp_slL, wp_evA0, kA1_ap, wp_evAv, kA2_ap, wp_evAio, kCall4_ap, kCall3_ap, kCall2_ap, kCall1_ap, wp_call, kK2_ap, kK1_ap, wp_callK, wp_nx, wp_bk, wp_ct, wp_no, kSeq_nx, kSeq_rt, kSeq_ro, kSeq_bk, kSeq_ct, wp_seq, kNx_ap, kExp_ap, kRt_ap, kRo_ap, wp_expr, wp_rt, wp_rtN, wp_ro, kAsg_ap, wp_asg, wp_asgO, kI3_ap, kI2_ap, kI1_ap, kI0b_ap, kI0_ap, wp_setIx, kM2_ap, kM1_ap, kM0_ap, wp_mt, kIt_ap, kIts_ap, wp_walkA, wp_range1, wp_range2, wp_range3, wp_zipM, wp_enumM, kFor_ap, wp_for, kTurn_nx, kTurn_ct, kTurn_bk, kTurn_rt, kTurn_ro, kElt_ap, kCond_t, kCond_f, wp_lc, endF_rt, endF_nx, endO_ro, kBody_ap, addD_i, addD_s, addD_t, addD_l, subD_i, mulD_i, modD_i, ltD_i, ltD_s, leD_i, gtD_i, geD_i, negD_i, isBD_b, isnBD_b, truD_b, truD_i, truD_n, truD_l, truD_t, lenD_l, lenD_t, lenD_s, intD_i, intD_b, absD_i, listD_l, listD_t, tupD_l, tupD_t, max2D_i, min2D_i, isiD_d, revD_l, slD_l, slD_t, itemsA_l, itemsA_t, itemsA_s, ixD_l, ixD_t, zpD_l, zpD_t, setT_t, setTr_t, setNs_0, setNs_1, setN_z, setN_s, setO_z, setO_s, atI_z, atI_1, atI_2, atI_3, atI_4, setIx_0, setIx_1, setIx_2, sumD_map, rg1_i, rg2_i, eqD_i, neD_i, isi_int_n, isi_int_b, isi_int_i, isi_int_s, isi_int_l, isi_int_t, isi_int_d, isi_bool_n, isi_bool_b, isi_bool_i, isi_bool_s, isi_bool_l, isi_bool_t, isi_bool_d, isi_str_n, isi_str_b, isi_str_i, isi_str_s, isi_str_l, isi_str_t, isi_str_d, isi_list_n, isi_list_b, isi_list_i, isi_list_s, isi_list_l, isi_list_t, isi_list_d, isi_tuple_n, isi_tuple_b, isi_tuple_i, isi_tuple_s, isi_tuple_l, isi_tuple_t, isi_tuple_d, isi_dict_n, isi_dict_b, isi_dict_i, isi_dict_s, isi_dict_l, isi_dict_t, isi_dict_d, notD_b, isNone_n, isNone_s, isNone_i, isNone_t, isNone_l, kPure_ap, pickD_1, pickD_2, pickD_3, pickD_4, appD_l, extD_l, List.getElem?_cons_zero, List.getElem?_cons_succ, List.set_cons_zero, List.set_cons_succ, initE, Option.map_some, List.replicate, posT, getO, fillA, putA, Bool.not_true, Bool.not_false, if_true, if_false, Bool.false_eq_true, Option.bind_some, wipeE, restE, reduceIte, List.length_cons, List.length_nil, fwp_mk, fwp_mko, Nat.reduceAdd, Nat.reduceSub, List.append_nil, List.nil_append, List.cons_append, List.reverse_cons, List.reverse_nil, Int.reduceLT, Int.reduceLE, Int.reduceAdd, Int.reduceMul, Int.reduceNeg, decide_true, decide_false, decide_eq_true_eq, Int.reduceEq, Option.map_none, and_self, and_true, true_and, Bool.true_and, Bool.false_and, Bool.or_true, Bool.or_false, List.isEmpty_nil, List.isEmpty_cons, List.getElem?_nil, Option.isSome_some, Int.cast_ofNat_Int, Bool.not_eq_true, Bool.and_true, Bool.and_self, Bool.true_or, Bool.false_or, Bool.and_false, Int.reduceSub, Int.natCast_zero, Int.reduceGT, Int.reduceGE, ne_eq, not_true_eq_false, not_false_eq_true, kf_add hd]
  simp -implicitDefEqProofs only [owp_ok, fwp_ok, onS_s, onS_n, gR_f, gQ_f, gQ_o, gL_f, gL_o, gO_o, opL_op, wp_ret, kE_ap, kSet_ap, ifM_t, ifM_f, wp_vr, wp_vq, wp_vl, wp_vo, kBin2_ap, kBin1_ap, wp_bin, kUna_ap, wp_una, kBL2_ap, kBL1_ap, kBL0_ap, wp_binL, wp_seq0, kS2_ap, kS1_ap, wp_seq1, kTup_ap, wp_tup, kLst_ap, wp_lst, wp_seqP0, kP3_ap, kP2_ap, kP1_ap, wp_seqP1, wp_noX, kDsp_ap, wp_dsp, kBool_ap, wp_boolOf, kN_ap, kNN_ap, wp_isN, wp_isNN, kC4_ap, kC3_ap, wp_bl, kC2_ap, kC1_ap, wp_chn, kTru_ap, wp_truM, kNot_ap, wp_notM, kIf_ap, wp_andM, wp_orM, wp_ite, wp_if, kAndV2_ap, kAndV_ap, wp_andV, kOrV2_ap, kOrV_ap, wp_orV, kNotV2_ap, kNotV_ap, wp_notV, wp_part0, kPart_ap, wp_part1, kSl2_ap, kSl1_ap, kSl0_ap, wp_sl, kSL3_ap, kSL2_ap, kSL1_ap, kSL0_ap, wp_slL, wp_evA0, kA1_ap, wp_evAv, kA2_ap, wp_evAio, kCall4_ap, kCall3_ap, kCall2_ap, kCall1_ap, wp_call, kK2_ap, kK1_ap, wp_callK, wp_nx, wp_bk, wp_ct, wp_no, kSeq_nx, kSeq_rt, kSeq_ro, kSeq_bk, kSeq_ct, wp_seq, kNx_ap, kExp_ap, kRt_ap, kRo_ap, wp_expr, wp_rt, wp_rtN, wp_ro, kAsg_ap, wp_asg, wp_asgO, kI3_ap, kI2_ap, kI1_ap, kI0b_ap, kI0_ap, wp_setIx, kM2_ap, kM1_ap, kM0_ap, wp_mt, kIt_ap, kIts_ap, wp_walkA, wp_range1, wp_range2, wp_range3, wp_zipM, wp_enumM, kFor_ap, wp_for, kTurn_nx, kTurn_ct, kTurn_bk, kTurn_rt, kTurn_ro, kElt_ap, kCond_t, kCond_f, wp_lc, endF_rt, endF_nx, endO_ro, kBody_ap, addD_i, addD_s, addD_t, addD_l, subD_i, mulD_i, modD_i, ltD_i, ltD_s, leD_i, gtD_i, geD_i, negD_i, isBD_b, isnBD_b, truD_b, truD_i, truD_n, truD_l, truD_t, lenD_l, lenD_t, lenD_s, intD_i, intD_b, absD_i, listD_l, listD_t, tupD_l, tupD_t, max2D_i, min2D_i, isiD_d, revD_l, slD_l, slD_t, itemsA_l, itemsA_t, itemsA_s, ixD_l, ixD_t, zpD_l, zpD_t, setT_t, setTr_t, setNs_0, setNs_1, setN_z, setN_s, setO_z, setO_s, atI_z, atI_1, atI_2, atI_3, atI_4, setIx_0, setIx_1, setIx_2, sumD_map, rg1_i, rg2_i, eqD_i, neD_i, isi_int_n, isi_int_b, isi_int_i, isi_int_s, isi_int_l, isi_int_t, isi_int_d, isi_bool_n, isi_bool_b, isi_bool_i, isi_bool_s, isi_bool_l, isi_bool_t, isi_bool_d, isi_str_n, isi_str_b, isi_str_i, isi_str_s, isi_str_l, isi_str_t, isi_str_d, isi_list_n, isi_list_b, isi_list_i, isi_list_s, isi_list_l, isi_list_t, isi_list_d, isi_tuple_n, isi_tuple_b, isi_tuple_i, isi_tuple_s, isi_tuple_l, isi_tuple_t, isi_tuple_d, isi_dict_n, isi_dict_b, isi_dict_i, isi_dict_s, isi_dict_l, isi_dict_t, isi_dict_d, notD_b, isNone_n, isNone_s, isNone_i, isNone_t, isNone_l, kPure_ap, pickD_1, pickD_2, pickD_3, pickD_4, appD_l, extD_l, List.getElem?_cons_zero, List.getElem?_cons_succ, List.set_cons_zero, List.set_cons_succ, initE, Option.map_some, List.replicate, posT, getO, fillA, putA, Bool.not_true, Bool.not_false, if_true, if_false, Bool.false_eq_true, Option.bind_some, wipeE, restE, reduceIte, List.length_cons, List.length_nil, fwp_mk, fwp_mko, Nat.reduceAdd, Nat.reduceSub, List.append_nil, List.nil_append, List.cons_append, List.reverse_cons, List.reverse_nil, Int.reduceLT, Int.reduceLE, Int.reduceAdd, Int.reduceMul, Int.reduceNeg, decide_true, decide_false, decide_eq_true_eq, Int.reduceEq, Option.map_none, and_self, and_true, true_and, Bool.true_and, Bool.false_and, Bool.or_true, Bool.or_false, List.isEmpty_nil, List.isEmpty_cons, List.getElem?_nil, Option.isSome_some, Int.cast_ofNat_Int, Bool.not_eq_true, Bool.and_true, Bool.and_self, Bool.true_or, Bool.false_or, Bool.and_false, Int.reduceSub, Int.natCast_zero, Int.reduceGT, Int.reduceGE, ne_eq, not_true_eq_false, not_false_eq_true, mulOk_l (i := 7) (j := h) (by omega), str_h hh, e0, cut1, cut2, cut3, cut4, cut5, cut6, row0_len, sizeLine_eq, Nat.reduceLeDiff, Nat.reduceLT, List.length_map, List.length_append]
  refine kLc_map fKin (fun d hd => ?_) (by rw [sizeLine_eq]; simp) ?_
  · simp -implicitDefEqProofs only [owp_ok, fwp_ok, onS_s, onS_n, gR_f, gQ_f, gQ_o, gL_f, gL_o, gO_o, opL_op, wp_ret, kE_ap, kSet_ap, ifM_t, ifM_f, wp_vr, wp_vq, wp_vl, wp_vo, kBin2_ap, kBin1_ap, wp_bin, kUna_ap, wp_una, kBL2_ap, kBL1_ap, kBL0_ap, wp_binL, wp_seq0, kS2_ap, kS1_ap, wp_seq1, kTup_ap, wp_tup, kLst_ap, wp_lst, wp_seqP0, kP3_ap, kP2_ap, kP1_ap, wp_seqP1, wp_noX, kDsp_ap, wp_dsp, kBool_ap, wp_boolOf, kN_ap, kNN_ap, wp_isN, wp_isNN, kC4_ap, kC3_ap, wp_bl, kC2_ap, kC1_ap, wp_chn, kTru_ap, wp_truM, kNot_ap, wp_notM, kIf_ap, wp_andM, wp_orM, wp_ite, wp_if, kAndV2_ap, kAndV_ap, wp_andV, kOrV2_ap, kOrV_ap, wp_orV, kNotV2_ap, kNotV_ap, wp_notV, wp_part0, kPart_ap, wp_part1, kSl2_ap, kSl1_ap, kSl0_ap, wp_sl, kSL3_ap, kSL2_ap, kSL1_ap, kSL0_ap, wp_slL, wp_evA0, kA1_ap, wp_evAv, kA2_ap, wp_evAio, kCall4_ap, kCall3_ap, kCall2_ap, kCall1_ap, wp_call, kK2_ap, kK1_ap, wp_callK, wp_nx, wp_bk, wp_ct, wp_no, kSeq_nx, kSeq_rt, kSeq_ro, kSeq_bk, kSeq_ct, wp_seq, kNx_ap, kExp_ap, kRt_ap, kRo_ap, wp_expr, wp_rt, wp_rtN, wp_ro, kAsg_ap, wp_asg, wp_asgO, kI3_ap, kI2_ap, kI1_ap, kI0b_ap, kI0_ap, wp_setIx, kM2_ap, kM1_ap, kM0_ap, wp_mt, kIt_ap, kIts_ap, wp_walkA, wp_range1, wp_range2, wp_range3, wp_zipM, wp_enumM, kFor_ap, wp_for, kTurn_nx, kTurn_ct, kTurn_bk, kTurn_rt, kTurn_ro, kElt_ap, kCond_t, kCond_f, wp_lc, endF_rt, endF_nx, endO_ro, kBody_ap, addD_i, addD_s, addD_t, addD_l, subD_i, mulD_i, modD_i, ltD_i, ltD_s, leD_i, gtD_i, geD_i, negD_i, isBD_b, isnBD_b, truD_b, truD_i, truD_n, truD_l, truD_t, lenD_l, lenD_t, lenD_s, intD_i, intD_b, absD_i, listD_l, listD_t, tupD_l, tupD_t, max2D_i, min2D_i, isiD_d, revD_l, slD_l, slD_t, itemsA_l, itemsA_t, itemsA_s, ixD_l, ixD_t, zpD_l, zpD_t, setT_t, setTr_t, setNs_0, setNs_1, setN_z, setN_s, setO_z, setO_s, atI_z, atI_1, atI_2, atI_3, atI_4, setIx_0, setIx_1, setIx_2, sumD_map, rg1_i, rg2_i, eqD_i, neD_i, isi_int_n, isi_int_b, isi_int_i, isi_int_s, isi_int_l, isi_int_t, isi_int_d, isi_bool_n, isi_bool_b, isi_bool_i, isi_bool_s, isi_bool_l, isi_bool_t, isi_bool_d, isi_str_n, isi_str_b, isi_str_i, isi_str_s, isi_str_l, isi_str_t, isi_str_d, isi_list_n, isi_list_b, isi_list_i, isi_list_s, isi_list_l, isi_list_t, isi_list_d, isi_tuple_n, isi_tuple_b, isi_tuple_i, isi_tuple_s, isi_tuple_l, isi_tuple_t, isi_tuple_d, isi_dict_n, isi_dict_b, isi_dict_i, isi_dict_s, isi_dict_l, isi_dict_t, isi_dict_d, notD_b, isNone_n, isNone_s, isNone_i, isNone_t, isNone_l, kPure_ap, pickD_1, pickD_2, pickD_3, pickD_4, appD_l, extD_l, List.getElem?_cons_zero, List.getElem?_cons_succ, List.set_cons_zero, List.set_cons_succ, initE, Option.map_some, List.replicate, posT, getO, fillA, putA, Bool.not_true, Bool.not_false, if_true, if_false, Bool.false_eq_true, Option.bind_some, wipeE, restE, reduceIte, List.length_cons, List.length_nil, fwp_mk, fwp_mko, Nat.reduceAdd, Nat.reduceSub, List.append_nil, List.nil_append, List.cons_append, List.reverse_cons, List.reverse_nil, Int.reduceLT, Int.reduceLE, Int.reduceAdd, Int.reduceMul, Int.reduceNeg, decide_true, decide_false, decide_eq_true_eq, Int.reduceEq, Option.map_none, and_self, and_true, true_and, Bool.true_and, Bool.false_and, Bool.or_true, Bool.or_false, List.isEmpty_nil, List.isEmpty_cons, List.getElem?_nil, Option.isSome_some, Int.cast_ofNat_Int, Bool.not_eq_true, Bool.and_true, Bool.and_self, Bool.true_or, Bool.false_or, Bool.and_false, Int.reduceSub, Int.natCast_zero, Int.reduceGT, Int.reduceGE, ne_eq, not_true_eq_false, not_false_eq_true, mulOk_l (i := 7) (j := h) (by omega), str_h hh, e0, cut1, cut2, cut3, cut4, cut5, cut6, row0_len, sizeLine_eq, Nat.reduceLeDiff, Nat.reduceLT, List.length_map, List.length_append, fKin]
  simp -implicitDefEqProofs only [owp_ok, fwp_ok, onS_s, onS_n, gR_f, gQ_f, gQ_o, gL_f, gL_o, gO_o, opL_op, wp_ret, kE_ap, kSet_ap, ifM_t, ifM_f, wp_vr, wp_vq, wp_vl, wp_vo, kBin2_ap, kBin1_ap, wp_bin, kUna_ap, wp_una, kBL2_ap, kBL1_ap, kBL0_ap, wp_binL, wp_seq0, kS2_ap, kS1_ap, wp_seq1, kTup_ap, wp_tup, kLst_ap, wp_lst, wp_seqP0, kP3_ap, kP2_ap, kP1_ap, wp_seqP1, wp_noX, kDsp_ap, wp_dsp, kBool_ap, wp_boolOf, kN_ap, kNN_ap, wp_isN, wp_isNN, kC4_ap, kC3_ap, wp_bl, kC2_ap, kC1_ap, wp_chn, kTru_ap, wp_truM, kNot_ap, wp_notM, kIf_ap, wp_andM, wp_orM, wp_ite, wp_if, kAndV2_ap, kAndV_ap, wp_andV, kOrV2_ap, kOrV_ap, wp_orV, kNotV2_ap, kNotV_ap, wp_notV, wp_part0, kPart_ap, wp_part1, kSl2_ap, kSl1_ap, kSl0_ap, wp_sl, kSL3_ap, kSL2_ap, kSL1_ap, kSL0_ap, wp_slL, wp_evA0, kA1_ap, wp_evAv, kA2_ap, wp_evAio, kCall4_ap, kCall3_ap, kCall2_ap, kCall1_ap, wp_call, kK2_ap, kK1_ap, wp_callK, wp_nx, wp_bk, wp_ct, wp_no, kSeq_nx, kSeq_rt, kSeq_ro, kSeq_bk, kSeq_ct, wp_seq, kNx_ap, kExp_ap, kRt_ap, kRo_ap, wp_expr, wp_rt, wp_rtN, wp_ro, kAsg_ap, wp_asg, wp_asgO, kI3_ap, kI2_ap, kI1_ap, kI0b_ap, kI0_ap, wp_setIx, kM2_ap, kM1_ap, kM0_ap, wp_mt, kIt_ap, kIts_ap, wp_walkA, wp_range1, wp_range2, wp_range3, wp_zipM, wp_enumM, kFor_ap, wp_for, kTurn_nx, kTurn_ct, kTurn_bk, kTurn_rt, kTurn_ro, kElt_ap, kCond_t, kCond_f, wp_lc, endF_rt, endF_nx, endO_ro, kBody_ap, addD_i, addD_s, addD_t, addD_l, subD_i, mulD_i, modD_i, ltD_i, ltD_s, leD_i, gtD_i, geD_i, negD_i, isBD_b, isnBD_b, truD_b, truD_i, truD_n, truD_l, truD_t, lenD_l, lenD_t, lenD_s, intD_i, intD_b, absD_i, listD_l, listD_t, tupD_l, tupD_t, max2D_i, min2D_i, isiD_d, revD_l, slD_l, slD_t, itemsA_l, itemsA_t, itemsA_s, ixD_l, ixD_t, zpD_l, zpD_t, setT_t, setTr_t, setNs_0, setNs_1, setN_z, setN_s, setO_z, setO_s, atI_z, atI_1, atI_2, atI_3, atI_4, setIx_0, setIx_1, setIx_2, sumD_map, rg1_i, rg2_i, eqD_i, neD_i, isi_int_n, isi_int_b, isi_int_i, isi_int_s, isi_int_l, isi_int_t, isi_int_d, isi_bool_n, isi_bool_b, isi_bool_i, isi_bool_s, isi_bool_l, isi_bool_t, isi_bool_d, isi_str_n, isi_str_b, isi_str_i, isi_str_s, isi_str_l, isi_str_t, isi_str_d, isi_list_n, isi_list_b, isi_list_i, isi_list_s, isi_list_l, isi_list_t, isi_list_d, isi_tuple_n, isi_tuple_b, isi_tuple_i, isi_tuple_s, isi_tuple_l, isi_tuple_t, isi_tuple_d, isi_dict_n, isi_dict_b, isi_dict_i, isi_dict_s, isi_dict_l, isi_dict_t, isi_dict_d, notD_b, isNone_n, isNone_s, isNone_i, isNone_t, isNone_l, kPure_ap, pickD_1, pickD_2, pickD_3, pickD_4, appD_l, extD_l, List.getElem?_cons_zero, List.getElem?_cons_succ, List.set_cons_zero, List.set_cons_succ, initE, Option.map_some, List.replicate, posT, getO, fillA, putA, Bool.not_true, Bool.not_false, if_true, if_false, Bool.false_eq_true, Option.bind_some, wipeE, restE, reduceIte, List.length_cons, List.length_nil, fwp_mk, fwp_mko, Nat.reduceAdd, Nat.reduceSub, List.append_nil, List.nil_append, List.cons_append, List.reverse_cons, List.reverse_nil, Int.reduceLT, Int.reduceLE, Int.reduceAdd, Int.reduceMul, Int.reduceNeg, decide_true, decide_false, decide_eq_true_eq, Int.reduceEq, Option.map_none, and_self, and_true, true_and, Bool.true_and, Bool.false_and, Bool.or_true, Bool.or_false, List.isEmpty_nil, List.isEmpty_cons, List.getElem?_nil, Option.isSome_some, Int.cast_ofNat_Int, Bool.not_eq_true, Bool.and_true, Bool.and_self, Bool.true_or, Bool.false_or, Bool.and_false, Int.reduceSub, Int.natCast_zero, Int.reduceGT, Int.reduceGE, ne_eq, not_true_eq_false, not_false_eq_true, mulOk_l (i := 7) (j := h) (by omega), str_h hh, e0, cut1, cut2, cut3, cut4, cut5, cut6, row0_len, sizeLine_eq, Nat.reduceLeDiff, Nat.reduceLT, List.length_map, List.length_append]
  refine kLc_map fBad (fun d hd => ?_) (by rw [sizeLine_eq]; simp) ?_
  · simp -implicitDefEqProofs only [owp_ok, fwp_ok, onS_s, onS_n, gR_f, gQ_f, gQ_o, gL_f, gL_o, gO_o, opL_op, wp_ret, kE_ap, kSet_ap, ifM_t, ifM_f, wp_vr, wp_vq, wp_vl, wp_vo, kBin2_ap, kBin1_ap, wp_bin, kUna_ap, wp_una, kBL2_ap, kBL1_ap, kBL0_ap, wp_binL, wp_seq0, kS2_ap, kS1_ap, wp_seq1, kTup_ap, wp_tup, kLst_ap, wp_lst, wp_seqP0, kP3_ap, kP2_ap, kP1_ap, wp_seqP1, wp_noX, kDsp_ap, wp_dsp, kBool_ap, wp_boolOf, kN_ap, kNN_ap, wp_isN, wp_isNN, kC4_ap, kC3_ap, wp_bl, kC2_ap, kC1_ap, wp_chn, kTru_ap, wp_truM, kNot_ap, wp_notM, kIf_ap, wp_andM, wp_orM, wp_ite, wp_if, kAndV2_ap, kAndV_ap, wp_andV, kOrV2_ap, kOrV_ap, wp_orV, kNotV2_ap, kNotV_ap, wp_notV, wp_part0, kPart_ap, wp_part1, kSl2_ap, kSl1_ap, kSl0_ap, wp_sl, kSL3_ap, kSL2_ap, kSL1_ap, kSL0_ap, wp_slL, wp_evA0, kA1_ap, wp_evAv, kA2_ap, wp_evAio, kCall4_ap, kCall3_ap, kCall2_ap, kCall1_ap, wp_call, kK2_ap, kK1_ap, wp_callK, wp_nx, wp_bk, wp_ct, wp_no, kSeq_nx, kSeq_rt, kSeq_ro, kSeq_bk, kSeq_ct, wp_seq, kNx_ap, kExp_ap, kRt_ap, kRo_ap, wp_expr, wp_rt, wp_rtN, wp_ro, kAsg_ap, wp_asg, wp_asgO, kI3_ap, kI2_ap, kI1_ap, kI0b_ap, kI0_ap, wp_setIx, kM2_ap, kM1_ap, kM0_ap, wp_mt, kIt_ap, kIts_ap, wp_walkA, wp_range1, wp_range2, wp_range3, wp_zipM, wp_enumM, kFor_ap, wp_for, kTurn_nx, kTurn_ct, kTurn_bk, kTurn_rt, kTurn_ro, kElt_ap, kCond_t, kCond_f, wp_lc, endF_rt, endF_nx, endO_ro, kBody_ap, addD_i, addD_s, addD_t, addD_l, subD_i, mulD_i, modD_i, ltD_i, ltD_s, leD_i, gtD_i, geD_i, negD_i, isBD_b, isnBD_b, truD_b, truD_i, truD_n, truD_l, truD_t, lenD_l, lenD_t, lenD_s, intD_i, intD_b, absD_i, listD_l, listD_t, tupD_l, tupD_t, max2D_i, min2D_i, isiD_d, revD_l, slD_l, slD_t, itemsA_l, itemsA_t, itemsA_s, ixD_l, ixD_t, zpD_l, zpD_t, setT_t, setTr_t, setNs_0, setNs_1, setN_z, setN_s, setO_z, setO_s, atI_z, atI_1, atI_2, atI_3, atI_4, setIx_0, setIx_1, setIx_2, sumD_map, rg1_i, rg2_i, eqD_i, neD_i, isi_int_n, isi_int_b, isi_int_i, isi_int_s, isi_int_l, isi_int_t, isi_int_d, isi_bool_n, isi_bool_b, isi_bool_i, isi_bool_s, isi_bool_l, isi_bool_t, isi_bool_d, isi_str_n, isi_str_b, isi_str_i, isi_str_s, isi_str_l, isi_str_t, isi_str_d, isi_list_n, isi_list_b, isi_list_i, isi_list_s, isi_list_l, isi_list_t, isi_list_d, isi_tuple_n, isi_tuple_b, isi_tuple_i, isi_tuple_s, isi_tuple_l, isi_tuple_t, isi_tuple_d, isi_dict_n, isi_dict_b, isi_dict_i, isi_dict_s, isi_dict_l, isi_dict_t, isi_dict_d, notD_b, isNone_n, isNone_s, isNone_i, isNone_t, isNone_l, kPure_ap, pickD_1, pickD_2, pickD_3, pickD_4, appD_l, extD_l, List.getElem?_cons_zero, List.getElem?_cons_succ, List.set_cons_zero, List.set_cons_succ, initE, Option.map_some, List.replicate, posT, getO, fillA, putA, Bool.not_true, Bool.not_false, if_true, if_false, Bool.false_eq_true, Option.bind_some, wipeE, restE, reduceIte, List.length_cons, List.length_nil, fwp_mk, fwp_mko, Nat.reduceAdd, Nat.reduceSub, List.append_nil, List.nil_append, List.cons_append, List.reverse_cons, List.reverse_nil, Int.reduceLT, Int.reduceLE, Int.reduceAdd, Int.reduceMul, Int.reduceNeg, decide_true, decide_false, decide_eq_true_eq, Int.reduceEq, Option.map_none, and_self, and_true, true_and, Bool.true_and, Bool.false_and, Bool.or_true, Bool.or_false, List.isEmpty_nil, List.isEmpty_cons, List.getElem?_nil, Option.isSome_some, Int.cast_ofNat_Int, Bool.not_eq_true, Bool.and_true, Bool.and_self, Bool.true_or, Bool.false_or, Bool.and_false, Int.reduceSub, Int.natCast_zero, Int.reduceGT, Int.reduceGE, ne_eq, not_true_eq_false, not_false_eq_true, mulOk_l (i := 7) (j := h) (by omega), str_h hh, e0, cut1, cut2, cut3, cut4, cut5, cut6, row0_len, sizeLine_eq, Nat.reduceLeDiff, Nat.reduceLT, List.length_map, List.length_append, fBad]
  simp -implicitDefEqProofs only [owp_ok, fwp_ok, onS_s, onS_n, gR_f, gQ_f, gQ_o, gL_f, gL_o, gO_o, opL_op, wp_ret, kE_ap, kSet_ap, ifM_t, ifM_f, wp_vr, wp_vq, wp_vl, wp_vo, kBin2_ap, kBin1_ap, wp_bin, kUna_ap, wp_una, kBL2_ap, kBL1_ap, kBL0_ap, wp_binL, wp_seq0, kS2_ap, kS1_ap, wp_seq1, kTup_ap, wp_tup, kLst_ap, wp_lst, wp_seqP0, kP3_ap, kP2_ap, kP1_ap, wp_seqP1, wp_noX, kDsp_ap, wp_dsp, kBool_ap, wp_boolOf, kN_ap, kNN_ap, wp_isN, wp_isNN, kC4_ap, kC3_ap, wp_bl, kC2_ap, kC1_ap, wp_chn, kTru_ap, wp_truM, kNot_ap, wp_notM, kIf_ap, wp_andM, wp_orM, wp_ite, wp_if, kAndV2_ap, kAndV_ap, wp_andV, kOrV2_ap, kOrV_ap, wp_orV, kNotV2_ap, kNotV_ap, wp_notV, wp_part0, kPart_ap, wp_part1, kSl2_ap, kSl1_ap, kSl0_ap, wp_sl, kSL3_ap, kSL2_ap, kSL1_ap, kSL0_ap, wp_slL, wp_evA0, kA1_ap, wp_evAv, kA2_ap, wp_evAio, kCall4_ap, kCall3_ap, kCall2_ap, kCall1_ap, wp_call, kK2_ap, kK1_ap, wp_callK, wp_nx, wp_bk, wp_ct, wp_no, kSeq_nx, kSeq_rt, kSeq_ro, kSeq_bk, kSeq_ct, wp_seq, kNx_ap, kExp_ap, kRt_ap, kRo_ap, wp_expr, wp_rt, wp_rtN, wp_ro, kAsg_ap, wp_asg, wp_asgO, kI3_ap, kI2_ap, kI1_ap, kI0b_ap, kI0_ap, wp_setIx, kM2_ap, kM1_ap, kM0_ap, wp_mt, kIt_ap, kIts_ap, wp_walkA, wp_range1, wp_range2, wp_range3, wp_zipM, wp_enumM, kFor_ap, wp_for, kTurn_nx, kTurn_ct, kTurn_bk, kTurn_rt, kTurn_ro, kElt_ap, kCond_t, kCond_f, wp_lc, endF_rt, endF_nx, endO_ro, kBody_ap, addD_i, addD_s, addD_t, addD_l, subD_i, mulD_i, modD_i, ltD_i, ltD_s, leD_i, gtD_i, geD_i, negD_i, isBD_b, isnBD_b, truD_b, truD_i, truD_n, truD_l, truD_t, lenD_l, lenD_t, lenD_s, intD_i, intD_b, absD_i, listD_l, listD_t, tupD_l, tupD_t, max2D_i, min2D_i, isiD_d, revD_l, slD_l, slD_t, itemsA_l, itemsA_t, itemsA_s, ixD_l, ixD_t, zpD_l, zpD_t, setT_t, setTr_t, setNs_0, setNs_1, setN_z, setN_s, setO_z, setO_s, atI_z, atI_1, atI_2, atI_3, atI_4, setIx_0, setIx_1, setIx_2, sumD_map, rg1_i, rg2_i, eqD_i, neD_i, isi_int_n, isi_int_b, isi_int_i, isi_int_s, isi_int_l, isi_int_t, isi_int_d, isi_bool_n, isi_bool_b, isi_bool_i, isi_bool_s, isi_bool_l, isi_bool_t, isi_bool_d, isi_str_n, isi_str_b, isi_str_i, isi_str_s, isi_str_l, isi_str_t, isi_str_d, isi_list_n, isi_list_b, isi_list_i, isi_list_s, isi_list_l, isi_list_t, isi_list_d, isi_tuple_n, isi_tuple_b, isi_tuple_i, isi_tuple_s, isi_tuple_l, isi_tuple_t, isi_tuple_d, isi_dict_n, isi_dict_b, isi_dict_i, isi_dict_s, isi_dict_l, isi_dict_t, isi_dict_d, notD_b, isNone_n, isNone_s, isNone_i, isNone_t, isNone_l, kPure_ap, pickD_1, pickD_2, pickD_3, pickD_4, appD_l, extD_l, List.getElem?_cons_zero, List.getElem?_cons_succ, List.set_cons_zero, List.set_cons_succ, initE, Option.map_some, List.replicate, posT, getO, fillA, putA, Bool.not_true, Bool.not_false, if_true, if_false, Bool.false_eq_true, Option.bind_some, wipeE, restE, reduceIte, List.length_cons, List.length_nil, fwp_mk, fwp_mko, Nat.reduceAdd, Nat.reduceSub, List.append_nil, List.nil_append, List.cons_append, List.reverse_cons, List.reverse_nil, Int.reduceLT, Int.reduceLE, Int.reduceAdd, Int.reduceMul, Int.reduceNeg, decide_true, decide_false, decide_eq_true_eq, Int.reduceEq, Option.map_none, and_self, and_true, true_and, Bool.true_and, Bool.false_and, Bool.or_true, Bool.or_false, List.isEmpty_nil, List.isEmpty_cons, List.getElem?_nil, Option.isSome_some, Int.cast_ofNat_Int, Bool.not_eq_true, Bool.and_true, Bool.and_self, Bool.true_or, Bool.false_or, Bool.and_false, Int.reduceSub, Int.natCast_zero, Int.reduceGT, Int.reduceGE, ne_eq, not_true_eq_false, not_false_eq_true, mulOk_l (i := 7) (j := h) (by omega), str_h hh, e0, cut1, cut2, cut3, cut4, cut5, cut6, row0_len, sizeLine_eq, Nat.reduceLeDiff, Nat.reduceLT, List.length_map, List.length_append]
  have hcut : cutD rows none (some 11) = rows.take 11 := cutD_take rows 11
  have htl : (rows.take 11).length ≤ 11 := by rw [List.length_take]; omega
  have hts : (rows.take 11).length + 1 ≤ 16777216 := by omega
  have htr : ∀ r ∈ rows.take 11, RowOk h r := fun r hr' => hr r (List.mem_of_mem_take hr')
  refine kLc_map (fun x => .tuple [.int h, .tuple (rows.take 11 ++ [x])]) (fun d hd => ?_) (by rw [sizeLine_eq]; simp) ?_
  · simp -implicitDefEqProofs only [owp_ok, fwp_ok, onS_s, onS_n, gR_f, gQ_f, gQ_o, gL_f, gL_o, gO_o, opL_op, wp_ret, kE_ap, kSet_ap, ifM_t, ifM_f, wp_vr, wp_vq, wp_vl, wp_vo, kBin2_ap, kBin1_ap, wp_bin, kUna_ap, wp_una, kBL2_ap, kBL1_ap, kBL0_ap, wp_binL, wp_seq0, kS2_ap, kS1_ap, wp_seq1, kTup_ap, wp_tup, kLst_ap, wp_lst, wp_seqP0, kP3_ap, kP2_ap, kP1_ap, wp_seqP1, wp_noX, kDsp_ap, wp_dsp, kBool_ap, wp_boolOf, kN_ap, kNN_ap, wp_isN, wp_isNN, kC4_ap, kC3_ap, wp_bl, kC2_ap, kC1_ap, wp_chn, kTru_ap, wp_truM, kNot_ap, wp_notM, kIf_ap, wp_andM, wp_orM, wp_ite, wp_if, kAndV2_ap, kAndV_ap, wp_andV, kOrV2_ap, kOrV_ap, wp_orV, kNotV2_ap, kNotV_ap, wp_notV, wp_part0, kPart_ap, wp_part1, kSl2_ap, kSl1_ap, kSl0_ap, wp_sl, kSL3_ap, kSL2_ap, kSL1_ap, kSL0_ap, wp_slL, wp_evA0, kA1_ap, wp_evAv, kA2_ap, wp_evAio, kCall4_ap, kCall3_ap, kCall2_ap, kCall1_ap, wp_call, kK2_ap, kK1_ap, wp_callK, wp_nx, wp_bk, wp_ct, wp_no, kSeq_nx, kSeq_rt, kSeq_ro, kSeq_bk, kSeq_ct, wp_seq, kNx_ap, kExp_ap, kRt_ap, kRo_ap, wp_expr, wp_rt, wp_rtN, wp_ro, kAsg_ap, wp_asg, wp_asgO, kI3_ap, kI2_ap, kI1_ap, kI0b_ap, kI0_ap, wp_setIx, kM2_ap, kM1_ap, kM0_ap, wp_mt, kIt_ap, kIts_ap, wp_walkA, wp_range1, wp_range2, wp_range3, wp_zipM, wp_enumM, kFor_ap, wp_for, kTurn_nx, kTurn_ct, kTurn_bk, kTurn_rt, kTurn_ro, kElt_ap, kCond_t, kCond_f, wp_lc, endF_rt, endF_nx, endO_ro, kBody_ap, addD_i, addD_s, addD_t, addD_l, subD_i, mulD_i, modD_i, ltD_i, ltD_s, leD_i, gtD_i, geD_i, negD_i, isBD_b, isnBD_b, truD_b, truD_i, truD_n, truD_l, truD_t, lenD_l, lenD_t, lenD_s, intD_i, intD_b, absD_i, listD_l, listD_t, tupD_l, tupD_t, max2D_i, min2D_i, isiD_d, revD_l, slD_l, slD_t, itemsA_l, itemsA_t, itemsA_s, ixD_l, ixD_t, zpD_l, zpD_t, setT_t, setTr_t, setNs_0, setNs_1, setN_z, setN_s, setO_z, setO_s, atI_z, atI_1, atI_2, atI_3, atI_4, setIx_0, setIx_1, setIx_2, sumD_map, rg1_i, rg2_i, eqD_i, neD_i, isi_int_n, isi_int_b, isi_int_i, isi_int_s, isi_int_l, isi_int_t, isi_int_d, isi_bool_n, isi_bool_b, isi_bool_i, isi_bool_s, isi_bool_l, isi_bool_t, isi_bool_d, isi_str_n, isi_str_b, isi_str_i, isi_str_s, isi_str_l, isi_str_t, isi_str_d, isi_list_n, isi_list_b, isi_list_i, isi_list_s, isi_list_l, isi_list_t, isi_list_d, isi_tuple_n, isi_tuple_b, isi_tuple_i, isi_tuple_s, isi_tuple_l, isi_tuple_t, isi_tuple_d, isi_dict_n, isi_dict_b, isi_dict_i, isi_dict_s, isi_dict_l, isi_dict_t, isi_dict_d, notD_b, isNone_n, isNone_s, isNone_i, isNone_t, isNone_l, kPure_ap, pickD_1, pickD_2, pickD_3, pickD_4, appD_l, extD_l, List.getElem?_cons_zero, List.getElem?_cons_succ, List.set_cons_zero, List.set_cons_succ, initE, Option.map_some, List.replicate, posT, getO, fillA, putA, Bool.not_true, Bool.not_false, if_true, if_false, Bool.false_eq_true, Option.bind_some, wipeE, restE, reduceIte, List.length_cons, List.length_nil, fwp_mk, fwp_mko, Nat.reduceAdd, Nat.reduceSub, List.append_nil, List.nil_append, List.cons_append, List.reverse_cons, List.reverse_nil, Int.reduceLT, Int.reduceLE, Int.reduceAdd, Int.reduceMul, Int.reduceNeg, decide_true, decide_false, decide_eq_true_eq, Int.reduceEq, Option.map_none, and_self, and_true, true_and, Bool.true_and, Bool.false_and, Bool.or_true, Bool.or_false, List.isEmpty_nil, List.isEmpty_cons, List.getElem?_nil, Option.isSome_some, Int.cast_ofNat_Int, Bool.not_eq_true, Bool.and_true, Bool.and_self, Bool.true_or, Bool.false_or, Bool.and_false, Int.reduceSub, Int.natCast_zero, Int.reduceGT, Int.reduceGE, ne_eq, not_true_eq_false, not_false_eq_true, mulOk_l (i := 7) (j := h) (by omega), str_h hh, e0, cut1, cut2, cut3, cut4, cut5, cut6, row0_len, sizeLine_eq, Nat.reduceLeDiff, Nat.reduceLT, List.length_map, List.length_append, hcut, hts]
  simp -implicitDefEqProofs only [owp_ok, fwp_ok, onS_s, onS_n, gR_f, gQ_f, gQ_o, gL_f, gL_o, gO_o, opL_op, wp_ret, kE_ap, kSet_ap, ifM_t, ifM_f, wp_vr, wp_vq, wp_vl, wp_vo, kBin2_ap, kBin1_ap, wp_bin, kUna_ap, wp_una, kBL2_ap, kBL1_ap, kBL0_ap, wp_binL, wp_seq0, kS2_ap, kS1_ap, wp_seq1, kTup_ap, wp_tup, kLst_ap, wp_lst, wp_seqP0, kP3_ap, kP2_ap, kP1_ap, wp_seqP1, wp_noX, kDsp_ap, wp_dsp, kBool_ap, wp_boolOf, kN_ap, kNN_ap, wp_isN, wp_isNN, kC4_ap, kC3_ap, wp_bl, kC2_ap, kC1_ap, wp_chn, kTru_ap, wp_truM, kNot_ap, wp_notM, kIf_ap, wp_andM, wp_orM, wp_ite, wp_if, kAndV2_ap, kAndV_ap, wp_andV, kOrV2_ap, kOrV_ap, wp_orV, kNotV2_ap, kNotV_ap, wp_notV, wp_part0, kPart_ap, wp_part1, kSl2_ap, kSl1_ap, kSl0_ap, wp_sl, kSL3_ap, kSL2_ap, kSL1_ap, kSL0_ap, wp_slL, wp_evA0, kA1_ap, wp_evAv, kA2_ap, wp_evAio, kCall4_ap, kCall3_ap, kCall2_ap, kCall1_ap, wp_call, kK2_ap, kK1_ap, wp_callK, wp_nx, wp_bk, wp_ct, wp_no, kSeq_nx, kSeq_rt, kSeq_ro, kSeq_bk, kSeq_ct, wp_seq, kNx_ap, kExp_ap, kRt_ap, kRo_ap, wp_expr, wp_rt, wp_rtN, wp_ro, kAsg_ap, wp_asg, wp_asgO, kI3_ap, kI2_ap, kI1_ap, kI0b_ap, kI0_ap, wp_setIx, kM2_ap, kM1_ap, kM0_ap, wp_mt, kIt_ap, kIts_ap, wp_walkA, wp_range1, wp_range2, wp_range3, wp_zipM, wp_enumM, kFor_ap, wp_for, kTurn_nx, kTurn_ct, kTurn_bk, kTurn_rt, kTurn_ro, kElt_ap, kCond_t, kCond_f, wp_lc, endF_rt, endF_nx, endO_ro, kBody_ap, addD_i, addD_s, addD_t, addD_l, subD_i, mulD_i, modD_i, ltD_i, ltD_s, leD_i, gtD_i, geD_i, negD_i, isBD_b, isnBD_b, truD_b, truD_i, truD_n, truD_l, truD_t, lenD_l, lenD_t, lenD_s, intD_i, intD_b, absD_i, listD_l, listD_t, tupD_l, tupD_t, max2D_i, min2D_i, isiD_d, revD_l, slD_l, slD_t, itemsA_l, itemsA_t, itemsA_s, ixD_l, ixD_t, zpD_l, zpD_t, setT_t, setTr_t, setNs_0, setNs_1, setN_z, setN_s, setO_z, setO_s, atI_z, atI_1, atI_2, atI_3, atI_4, setIx_0, setIx_1, setIx_2, sumD_map, rg1_i, rg2_i, eqD_i, neD_i, isi_int_n, isi_int_b, isi_int_i, isi_int_s, isi_int_l, isi_int_t, isi_int_d, isi_bool_n, isi_bool_b, isi_bool_i, isi_bool_s, isi_bool_l, isi_bool_t, isi_bool_d, isi_str_n, isi_str_b, isi_str_i, isi_str_s, isi_str_l, isi_str_t, isi_str_d, isi_list_n, isi_list_b, isi_list_i, isi_list_s, isi_list_l, isi_list_t, isi_list_d, isi_tuple_n, isi_tuple_b, isi_tuple_i, isi_tuple_s, isi_tuple_l, isi_tuple_t, isi_tuple_d, isi_dict_n, isi_dict_b, isi_dict_i, isi_dict_s, isi_dict_l, isi_dict_t, isi_dict_d, notD_b, isNone_n, isNone_s, isNone_i, isNone_t, isNone_l, kPure_ap, pickD_1, pickD_2, pickD_3, pickD_4, appD_l, extD_l, List.getElem?_cons_zero, List.getElem?_cons_succ, List.set_cons_zero, List.set_cons_succ, initE, Option.map_some, List.replicate, posT, getO, fillA, putA, Bool.not_true, Bool.not_false, if_true, if_false, Bool.false_eq_true, Option.bind_some, wipeE, restE, reduceIte, List.length_cons, List.length_nil, fwp_mk, fwp_mko, Nat.reduceAdd, Nat.reduceSub, List.append_nil, List.nil_append, List.cons_append, List.reverse_cons, List.reverse_nil, Int.reduceLT, Int.reduceLE, Int.reduceAdd, Int.reduceMul, Int.reduceNeg, decide_true, decide_false, decide_eq_true_eq, Int.reduceEq, Option.map_none, and_self, and_true, true_and, Bool.true_and, Bool.false_and, Bool.or_true, Bool.or_false, List.isEmpty_nil, List.isEmpty_cons, List.getElem?_nil, Option.isSome_some, Int.cast_ofNat_Int, Bool.not_eq_true, Bool.and_true, Bool.and_self, Bool.true_or, Bool.false_or, Bool.and_false, Int.reduceSub, Int.natCast_zero, Int.reduceGT, Int.reduceGE, ne_eq, not_true_eq_false, not_false_eq_true, mulOk_l (i := 7) (j := h) (by omega), str_h hh, e0, cut1, cut2, cut3, cut4, cut5, cut6, row0_len, sizeLine_eq, Nat.reduceLeDiff, Nat.reduceLT, List.length_map, List.length_append, mul13]
  refine kLc_map kf (fun d hd => ?_) (by rw [sizeLine_eq, show (chrs "abcdefghijkl").length = 12 by decide +kernel]; omega) ?_
  · simp -implicitDefEqProofs only [owp_ok, fwp_ok, onS_s, onS_n, gR_f, gQ_f, gQ_o, gL_f, gL_o, gO_o, opL_op, wp_ret, kE_ap, kSet_ap, ifM_t, ifM_f, wp_vr, wp_vq, wp_vl, wp_vo, kBin2_ap, kBin1_ap, wp_bin, kUna_ap, wp_una, kBL2_ap, kBL1_ap, kBL0_ap, wp_binL, wp_seq0, kS2_ap, kS1_ap, wp_seq1, kTup_ap, wp_tup, kLst_ap, wp_lst, wp_seqP0, kP3_ap, kP2_ap, kP1_ap, wp_seqP1, wp_noX, kDsp_ap, wp_dsp, kBool_ap, wp_boolOf, kN_ap, kNN_ap, wp_isN, wp_isNN, kC4_ap, kC3_ap, wp_bl, kC2_ap, kC1_ap, wp_chn, kTru_ap, wp_truM, kNot_ap, wp_notM, kIf_ap, wp_andM, wp_orM, wp_ite, wp_if, kAndV2_ap, kAndV_ap, wp_andV, kOrV2_ap, kOrV_ap, wp_orV, kNotV2_ap, kNotV_ap, wp_notV, wp_part0, kPart_ap, wp_part1, kSl2_ap, kSl1_ap, kSl0_ap, wp_sl, kSL3_ap, kSL2_ap, kSL1_ap, kSL0_ap, wp_slL, wp_evA0, kA1_ap, wp_evAv, kA2_ap, wp_evAio, kCall4_ap, kCall3_ap, kCall2_ap, kCall1_ap, wp_call, kK2_ap, kK1_ap, wp_callK, wp_nx, wp_bk, wp_ct, wp_no, kSeq_nx, kSeq_rt, kSeq_ro, kSeq_bk, kSeq_ct, wp_seq, kNx_ap, kExp_ap, kRt_ap, kRo_ap, wp_expr, wp_rt, wp_rtN, wp_ro, kAsg_ap, wp_asg, wp_asgO, kI3_ap, kI2_ap, kI1_ap, kI0b_ap, kI0_ap, wp_setIx, kM2_ap, kM1_ap, kM0_ap, wp_mt, kIt_ap, kIts_ap, wp_walkA, wp_range1, wp_range2, wp_range3, wp_zipM, wp_enumM, kFor_ap, wp_for, kTurn_nx, kTurn_ct, kTurn_bk, kTurn_rt, kTurn_ro, kElt_ap, kCond_t, kCond_f, wp_lc, endF_rt, endF_nx, endO_ro, kBody_ap, addD_i, addD_s, addD_t, addD_l, subD_i, mulD_i, modD_i, ltD_i, ltD_s, leD_i, gtD_i, geD_i, negD_i, isBD_b, isnBD_b, truD_b, truD_i, truD_n, truD_l, truD_t, lenD_l, lenD_t, lenD_s, intD_i, intD_b, absD_i, listD_l, listD_t, tupD_l, tupD_t, max2D_i, min2D_i, isiD_d, revD_l, slD_l, slD_t, itemsA_l, itemsA_t, itemsA_s, ixD_l, ixD_t, zpD_l, zpD_t, setT_t, setTr_t, setNs_0, setNs_1, setN_z, setN_s, setO_z, setO_s, atI_z, atI_1, atI_2, atI_3, atI_4, setIx_0, setIx_1, setIx_2, sumD_map, rg1_i, rg2_i, eqD_i, neD_i, isi_int_n, isi_int_b, isi_int_i, isi_int_s, isi_int_l, isi_int_t, isi_int_d, isi_bool_n, isi_bool_b, isi_bool_i, isi_bool_s, isi_bool_l, isi_bool_t, isi_bool_d, isi_str_n, isi_str_b, isi_str_i, isi_str_s, isi_str_l, isi_str_t, isi_str_d, isi_list_n, isi_list_b, isi_list_i, isi_list_s, isi_list_l, isi_list_t, isi_list_d, isi_tuple_n, isi_tuple_b, isi_tuple_i, isi_tuple_s, isi_tuple_l, isi_tuple_t, isi_tuple_d, isi_dict_n, isi_dict_b, isi_dict_i, isi_dict_s, isi_dict_l, isi_dict_t, isi_dict_d, notD_b, isNone_n, isNone_s, isNone_i, isNone_t, isNone_l, kPure_ap, pickD_1, pickD_2, pickD_3, pickD_4, appD_l, extD_l, List.getElem?_cons_zero, List.getElem?_cons_succ, List.set_cons_zero, List.set_cons_succ, initE, Option.map_some, List.replicate, posT, getO, fillA, putA, Bool.not_true, Bool.not_false, if_true, if_false, Bool.false_eq_true, Option.bind_some, wipeE, restE, reduceIte, List.length_cons, List.length_nil, fwp_mk, fwp_mko, Nat.reduceAdd, Nat.reduceSub, List.append_nil, List.nil_append, List.cons_append, List.reverse_cons, List.reverse_nil, Int.reduceLT, Int.reduceLE, Int.reduceAdd, Int.reduceMul, Int.reduceNeg, decide_true, decide_false, decide_eq_true_eq, Int.reduceEq, Option.map_none, and_self, and_true, true_and, Bool.true_and, Bool.false_and, Bool.or_true, Bool.or_false, List.isEmpty_nil, List.isEmpty_cons, List.getElem?_nil, Option.isSome_some, Int.cast_ofNat_Int, Bool.not_eq_true, Bool.and_true, Bool.and_self, Bool.true_or, Bool.false_or, Bool.and_false, Int.reduceSub, Int.natCast_zero, Int.reduceGT, Int.reduceGE, ne_eq, not_true_eq_false, not_false_eq_true, kf_add2 hd]
  simp -implicitDefEqProofs only [owp_ok, fwp_ok, onS_s, onS_n, gR_f, gQ_f, gQ_o, gL_f, gL_o, gO_o, opL_op, wp_ret, kE_ap, kSet_ap, ifM_t, ifM_f, wp_vr, wp_vq, wp_vl, wp_vo, kBin2_ap, kBin1_ap, wp_bin, kUna_ap, wp_una, kBL2_ap, kBL1_ap, kBL0_ap, wp_binL, wp_seq0, kS2_ap, kS1_ap, wp_seq1, kTup_ap, wp_tup, kLst_ap, wp_lst, wp_seqP0, kP3_ap, kP2_ap, kP1_ap, wp_seqP1, wp_noX, kDsp_ap, wp_dsp, kBool_ap, wp_boolOf, kN_ap, kNN_ap, wp_isN, wp_isNN, kC4_ap, kC3_ap, wp_bl, kC2_ap, kC1_ap, wp_chn, kTru_ap, wp_truM, kNot_ap, wp_notM, kIf_ap, wp_andM, wp_orM, wp_ite, wp_if, kAndV2_ap, kAndV_ap, wp_andV, kOrV2_ap, kOrV_ap, wp_orV, kNotV2_ap, kNotV_ap, wp_notV, wp_part0, kPart_ap, wp_part1, kSl2_ap, kSl1_ap, kSl0_ap, wp_sl, kSL3_ap, kSL2_ap, kSL1_ap, kSL0_ap, wp_slL, wp_evA0, kA1_ap, wp_evAv, kA2_ap, wp_evAio, kCall4_ap, kCall3_ap, kCall2_ap, kCall1_ap, wp_call, kK2_ap, kK1_ap, wp_callK, wp_nx, wp_bk, wp_ct, wp_no, kSeq_nx, kSeq_rt, kSeq_ro, kSeq_bk, kSeq_ct, wp_seq, kNx_ap, kExp_ap, kRt_ap, kRo_ap, wp_expr, wp_rt, wp_rtN, wp_ro, kAsg_ap, wp_asg, wp_asgO, kI3_ap, kI2_ap, kI1_ap, kI0b_ap, kI0_ap, wp_setIx, kM2_ap, kM1_ap, kM0_ap, wp_mt, kIt_ap, kIts_ap, wp_walkA, wp_range1, wp_range2, wp_range3, wp_zipM, wp_enumM, kFor_ap, wp_for, kTurn_nx, kTurn_ct, kTurn_bk, kTurn_rt, kTurn_ro, kElt_ap, kCond_t, kCond_f, wp_lc, endF_rt, endF_nx, endO_ro, kBody_ap, addD_i, addD_s, addD_t, addD_l, subD_i, mulD_i, modD_i, ltD_i, ltD_s, leD_i, gtD_i, geD_i, negD_i, isBD_b, isnBD_b, truD_b, truD_i, truD_n, truD_l, truD_t, lenD_l, lenD_t, lenD_s, intD_i, intD_b, absD_i, listD_l, listD_t, tupD_l, tupD_t, max2D_i, min2D_i, isiD_d, revD_l, slD_l, slD_t, itemsA_l, itemsA_t, itemsA_s, ixD_l, ixD_t, zpD_l, zpD_t, setT_t, setTr_t, setNs_0, setNs_1, setN_z, setN_s, setO_z, setO_s, atI_z, atI_1, atI_2, atI_3, atI_4, setIx_0, setIx_1, setIx_2, sumD_map, rg1_i, rg2_i, eqD_i, neD_i, isi_int_n, isi_int_b, isi_int_i, isi_int_s, isi_int_l, isi_int_t, isi_int_d, isi_bool_n, isi_bool_b, isi_bool_i, isi_bool_s, isi_bool_l, isi_bool_t, isi_bool_d, isi_str_n, isi_str_b, isi_str_i, isi_str_s, isi_str_l, isi_str_t, isi_str_d, isi_list_n, isi_list_b, isi_list_i, isi_list_s, isi_list_l, isi_list_t, isi_list_d, isi_tuple_n, isi_tuple_b, isi_tuple_i, isi_tuple_s, isi_tuple_l, isi_tuple_t, isi_tuple_d, isi_dict_n, isi_dict_b, isi_dict_i, isi_dict_s, isi_dict_l, isi_dict_t, isi_dict_d, notD_b, isNone_n, isNone_s, isNone_i, isNone_t, isNone_l, kPure_ap, pickD_1, pickD_2, pickD_3, pickD_4, appD_l, extD_l, List.getElem?_cons_zero, List.getElem?_cons_succ, List.set_cons_zero, List.set_cons_succ, initE, Option.map_some, List.replicate, posT, getO, fillA, putA, Bool.not_true, Bool.not_false, if_true, if_false, Bool.false_eq_true, Option.bind_some, wipeE, restE, reduceIte, List.length_cons, List.length_nil, fwp_mk, fwp_mko, Nat.reduceAdd, Nat.reduceSub, List.append_nil, List.nil_append, List.cons_append, List.reverse_cons, List.reverse_nil, Int.reduceLT, Int.reduceLE, Int.reduceAdd, Int.reduceMul, Int.reduceNeg, decide_true, decide_false, decide_eq_true_eq, Int.reduceEq, Option.map_none, and_self, and_true, true_and, Bool.true_and, Bool.false_and, Bool.or_true, Bool.or_false, List.isEmpty_nil, List.isEmpty_cons, List.getElem?_nil, Option.isSome_some, Int.cast_ofNat_Int, Bool.not_eq_true, Bool.and_true, Bool.and_self, Bool.true_or, Bool.false_or, Bool.and_false, Int.reduceSub, Int.natCast_zero, Int.reduceGT, Int.reduceGE, ne_eq, not_true_eq_false, not_false_eq_true, many_ok hh]
  refine kLc_map (fun _ => .bool false) (fun d hd => ?_) (by rw [sizeLine_eq]; simp) ?_
  · have hbad : F_is_sign [d] = .ok (.bool false) [] := by
      have hc : ∀ y, y ∈ [PyData.tuple [.int 0, .tuple []], .tuple [.int 25, .tuple []], .tuple [.bool true, .tuple []], .none, .tuple [], .str "sign", .int 7, .dict []] → d = y → F_is_sign [d] = .ok (.bool false) [] := fun y hy e => by rw [e]; exact bad_c y hy
      rcases List.mem_cons.mp hd with e | hd
      · rw [e]; exact sign_nt (by show ("list" : String) ≠ "tuple"; decide)
      rcases List.mem_cons.mp hd with e | hd
      · rw [e]; exact sign_len (by simp)
      rcases List.mem_cons.mp hd with e | hd
      · rw [e]; exact sign_len (by simp)
      rcases List.mem_cons.mp hd with e | hd
      · rw [e]; exact sign_list hh rows
      rcases List.mem_cons.mp hd with e | hd
      · exact hc _ (by simp) e
      rcases List.mem_cons.mp hd with e | hd
      · exact hc _ (by simp) e
      rcases List.mem_cons.mp hd with e | hd
      · exact hc _ (by simp) e
      rcases List.mem_cons.mp hd with e | hd
      · rw [e]; exact bad_str _
      rcases List.mem_append.mp hd with hd | hd
      · obtain ⟨x, hx, e⟩ := List.mem_map.mp hd
        rw [← e]
        exact sign_bad hh htl htr (odd_bad hh x hx)
      · simp only [List.mem_cons, List.not_mem_nil, or_false] at hd
        rcases hd with e | e | e | e | e | e
        · rw [e]; exact bad13 hh
        · exact hc _ (by simp) e
        · exact hc _ (by simp) e
        · exact hc _ (by simp) e
        · exact hc _ (by simp) e
        · exact hc _ (by simp) e
    simp -implicitDefEqProofs only [owp_ok, fwp_ok, onS_s, onS_n, gR_f, gQ_f, gQ_o, gL_f, gL_o, gO_o, opL_op, wp_ret, kE_ap, kSet_ap, ifM_t, ifM_f, wp_vr, wp_vq, wp_vl, wp_vo, kBin2_ap, kBin1_ap, wp_bin, kUna_ap, wp_una, kBL2_ap, kBL1_ap, kBL0_ap, wp_binL, wp_seq0, kS2_ap, kS1_ap, wp_seq1, kTup_ap, wp_tup, kLst_ap, wp_lst, wp_seqP0, kP3_ap, kP2_ap, kP1_ap, wp_seqP1, wp_noX, kDsp_ap, wp_dsp, kBool_ap, wp_boolOf, kN_ap, kNN_ap, wp_isN, wp_isNN, kC4_ap, kC3_ap, wp_bl, kC2_ap, kC1_ap, wp_chn, kTru_ap, wp_truM, kNot_ap, wp_notM, kIf_ap, wp_andM, wp_orM, wp_ite, wp_if, kAndV2_ap, kAndV_ap, wp_andV, kOrV2_ap, kOrV_ap, wp_orV, kNotV2_ap, kNotV_ap, wp_notV, wp_part0, kPart_ap, wp_part1, kSl2_ap, kSl1_ap, kSl0_ap, wp_sl, kSL3_ap, kSL2_ap, kSL1_ap, kSL0_ap, wp_slL, wp_evA0, kA1_ap, wp_evAv, kA2_ap, wp_evAio, kCall4_ap, kCall3_ap, kCall2_ap, kCall1_ap, wp_call, kK2_ap, kK1_ap, wp_callK, wp_nx, wp_bk, wp_ct, wp_no, kSeq_nx, kSeq_rt, kSeq_ro, kSeq_bk, kSeq_ct, wp_seq, kNx_ap, kExp_ap, kRt_ap, kRo_ap, wp_expr, wp_rt, wp_rtN, wp_ro, kAsg_ap, wp_asg, wp_asgO, kI3_ap, kI2_ap, kI1_ap, kI0b_ap, kI0_ap, wp_setIx, kM2_ap, kM1_ap, kM0_ap, wp_mt, kIt_ap, kIts_ap, wp_walkA, wp_range1, wp_range2, wp_range3, wp_zipM, wp_enumM, kFor_ap, wp_for, kTurn_nx, kTurn_ct, kTurn_bk, kTurn_rt, kTurn_ro, kElt_ap, kCond_t, kCond_f, wp_lc, endF_rt, endF_nx, endO_ro, kBody_ap, addD_i, addD_s, addD_t, addD_l, subD_i, mulD_i, modD_i, ltD_i, ltD_s, leD_i, gtD_i, geD_i, negD_i, isBD_b, isnBD_b, truD_b, truD_i, truD_n, truD_l, truD_t, lenD_l, lenD_t, lenD_s, intD_i, intD_b, absD_i, listD_l, listD_t, tupD_l, tupD_t, max2D_i, min2D_i, isiD_d, revD_l, slD_l, slD_t, itemsA_l, itemsA_t, itemsA_s, ixD_l, ixD_t, zpD_l, zpD_t, setT_t, setTr_t, setNs_0, setNs_1, setN_z, setN_s, setO_z, setO_s, atI_z, atI_1, atI_2, atI_3, atI_4, setIx_0, setIx_1, setIx_2, sumD_map, rg1_i, rg2_i, eqD_i, neD_i, isi_int_n, isi_int_b, isi_int_i, isi_int_s, isi_int_l, isi_int_t, isi_int_d, isi_bool_n, isi_bool_b, isi_bool_i, isi_bool_s, isi_bool_l, isi_bool_t, isi_bool_d, isi_str_n, isi_str_b, isi_str_i, isi_str_s, isi_str_l, isi_str_t, isi_str_d, isi_list_n, isi_list_b, isi_list_i, isi_list_s, isi_list_l, isi_list_t, isi_list_d, isi_tuple_n, isi_tuple_b, isi_tuple_i, isi_tuple_s, isi_tuple_l, isi_tuple_t, isi_tuple_d, isi_dict_n, isi_dict_b, isi_dict_i, isi_dict_s, isi_dict_l, isi_dict_t, isi_dict_d, notD_b, isNone_n, isNone_s, isNone_i, isNone_t, isNone_l, kPure_ap, pickD_1, pickD_2, pickD_3, pickD_4, appD_l, extD_l, List.getElem?_cons_zero, List.getElem?_cons_succ, List.set_cons_zero, List.set_cons_succ, initE, Option.map_some, List.replicate, posT, getO, fillA, putA, Bool.not_true, Bool.not_false, if_true, if_false, Bool.false_eq_true, Option.bind_some, wipeE, restE, reduceIte, List.length_cons, List.length_nil, fwp_mk, fwp_mko, Nat.reduceAdd, Nat.reduceSub, List.append_nil, List.nil_append, List.cons_append, List.reverse_cons, List.reverse_nil, Int.reduceLT, Int.reduceLE, Int.reduceAdd, Int.reduceMul, Int.reduceNeg, decide_true, decide_false, decide_eq_true_eq, Int.reduceEq, Option.map_none, and_self, and_true, true_and, Bool.true_and, Bool.false_and, Bool.or_true, Bool.or_false, List.isEmpty_nil, List.isEmpty_cons, List.getElem?_nil, Option.isSome_some, Int.cast_ofNat_Int, Bool.not_eq_true, Bool.and_true, Bool.and_self, Bool.true_or, Bool.false_or, Bool.and_false, Int.reduceSub, Int.natCast_zero, Int.reduceGT, Int.reduceGE, ne_eq, not_true_eq_false, not_false_eq_true, hbad]
  have hany : ∀ l : List D, (l.any fun _ => false) = false := fun l => by simp
  simp -implicitDefEqProofs only [owp_ok, fwp_ok, onS_s, onS_n, gR_f, gQ_f, gQ_o, gL_f, gL_o, gO_o, opL_op, wp_ret, kE_ap, kSet_ap, ifM_t, ifM_f, wp_vr, wp_vq, wp_vl, wp_vo, kBin2_ap, kBin1_ap, wp_bin, kUna_ap, wp_una, kBL2_ap, kBL1_ap, kBL0_ap, wp_binL, wp_seq0, kS2_ap, kS1_ap, wp_seq1, kTup_ap, wp_tup, kLst_ap, wp_lst, wp_seqP0, kP3_ap, kP2_ap, kP1_ap, wp_seqP1, wp_noX, kDsp_ap, wp_dsp, kBool_ap, wp_boolOf, kN_ap, kNN_ap, wp_isN, wp_isNN, kC4_ap, kC3_ap, wp_bl, kC2_ap, kC1_ap, wp_chn, kTru_ap, wp_truM, kNot_ap, wp_notM, kIf_ap, wp_andM, wp_orM, wp_ite, wp_if, kAndV2_ap, kAndV_ap, wp_andV, kOrV2_ap, kOrV_ap, wp_orV, kNotV2_ap, kNotV_ap, wp_notV, wp_part0, kPart_ap, wp_part1, kSl2_ap, kSl1_ap, kSl0_ap, wp_sl, kSL3_ap, kSL2_ap, kSL1_ap, kSL0_ap, wp_slL, wp_evA0, kA1_ap, wp_evAv, kA2_ap, wp_evAio, kCall4_ap, kCall3_ap, kCall2_ap, kCall1_ap, wp_call, kK2_ap, kK1_ap, wp_callK, wp_nx, wp_bk, wp_ct, wp_no, kSeq_nx, kSeq_rt, kSeq_ro, kSeq_bk, kSeq_ct, wp_seq, kNx_ap, kExp_ap, kRt_ap, kRo_ap, wp_expr, wp_rt, wp_rtN, wp_ro, kAsg_ap, wp_asg, wp_asgO, kI3_ap, kI2_ap, kI1_ap, kI0b_ap, kI0_ap, wp_setIx, kM2_ap, kM1_ap, kM0_ap, wp_mt, kIt_ap, kIts_ap, wp_walkA, wp_range1, wp_range2, wp_range3, wp_zipM, wp_enumM, kFor_ap, wp_for, kTurn_nx, kTurn_ct, kTurn_bk, kTurn_rt, kTurn_ro, kElt_ap, kCond_t, kCond_f, wp_lc, endF_rt, endF_nx, endO_ro, kBody_ap, addD_i, addD_s, addD_t, addD_l, subD_i, mulD_i, modD_i, ltD_i, ltD_s, leD_i, gtD_i, geD_i, negD_i, isBD_b, isnBD_b, truD_b, truD_i, truD_n, truD_l, truD_t, lenD_l, lenD_t, lenD_s, intD_i, intD_b, absD_i, listD_l, listD_t, tupD_l, tupD_t, max2D_i, min2D_i, isiD_d, revD_l, slD_l, slD_t, itemsA_l, itemsA_t, itemsA_s, ixD_l, ixD_t, zpD_l, zpD_t, setT_t, setTr_t, setNs_0, setNs_1, setN_z, setN_s, setO_z, setO_s, atI_z, atI_1, atI_2, atI_3, atI_4, setIx_0, setIx_1, setIx_2, sumD_map, rg1_i, rg2_i, eqD_i, neD_i, isi_int_n, isi_int_b, isi_int_i, isi_int_s, isi_int_l, isi_int_t, isi_int_d, isi_bool_n, isi_bool_b, isi_bool_i, isi_bool_s, isi_bool_l, isi_bool_t, isi_bool_d, isi_str_n, isi_str_b, isi_str_i, isi_str_s, isi_str_l, isi_str_t, isi_str_d, isi_list_n, isi_list_b, isi_list_i, isi_list_s, isi_list_l, isi_list_t, isi_list_d, isi_tuple_n, isi_tuple_b, isi_tuple_i, isi_tuple_s, isi_tuple_l, isi_tuple_t, isi_tuple_d, isi_dict_n, isi_dict_b, isi_dict_i, isi_dict_s, isi_dict_l, isi_dict_t, isi_dict_d, notD_b, isNone_n, isNone_s, isNone_i, isNone_t, isNone_l, kPure_ap, pickD_1, pickD_2, pickD_3, pickD_4, appD_l, extD_l, List.getElem?_cons_zero, List.getElem?_cons_succ, List.set_cons_zero, List.set_cons_succ, initE, Option.map_some, List.replicate, posT, getO, fillA, putA, Bool.not_true, Bool.not_false, if_true, if_false, Bool.false_eq_true, Option.bind_some, wipeE, restE, reduceIte, List.length_cons, List.length_nil, fwp_mk, fwp_mko, Nat.reduceAdd, Nat.reduceSub, List.append_nil, List.nil_append, List.cons_append, List.reverse_cons, List.reverse_nil, Int.reduceLT, Int.reduceLE, Int.reduceAdd, Int.reduceMul, Int.reduceNeg, decide_true, decide_false, decide_eq_true_eq, Int.reduceEq, Option.map_none, and_self, and_true, true_and, Bool.true_and, Bool.false_and, Bool.or_true, Bool.or_false, List.isEmpty_nil, List.isEmpty_cons, List.getElem?_nil, Option.isSome_some, Int.cast_ofNat_Int, Bool.not_eq_true, Bool.and_true, Bool.and_self, Bool.true_or, Bool.false_or, Bool.and_false, Int.reduceSub, Int.natCast_zero, Int.reduceGT, Int.reduceGE, ne_eq, not_true_eq_false, not_false_eq_true, anyD_map (fun _ => false), hany, is_sign_ok hh hs]
end Vk10

namespace Vk10
open PySem PySem.Spec PyProof.Rows L2 ZZ
seal Wp Owp Fwp onS
theorem lap_ok {n : Int} {p : D} (hp : PotOk n p) (hn : n ≤ 1000000) : Fwp (F__law_right [p]) fun d outs => ∃ p', d = .bool true ∧ outs = [p'] ∧ PotOk (n + 2000) p' := by
  unfold F__law_right
  rw [fwp_mk]
  simp -implicitDefEqProofs only [owp_ok, fwp_ok, onS_s, onS_n, gR_f, gQ_f, gQ_o, gL_f, gL_o, gO_o, opL_op, wp_ret, kE_ap, kSet_ap, ifM_t, ifM_f, wp_vr, wp_vq, wp_vl, wp_vo, kBin2_ap, kBin1_ap, wp_bin, kUna_ap, wp_una, kBL2_ap, kBL1_ap, kBL0_ap, wp_binL, wp_seq0, kS2_ap, kS1_ap, wp_seq1, kTup_ap, wp_tup, kLst_ap, wp_lst, wp_seqP0, kP3_ap, kP2_ap, kP1_ap, wp_seqP1, wp_noX, kDsp_ap, wp_dsp, kBool_ap, wp_boolOf, kN_ap, kNN_ap, wp_isN, wp_isNN, kC4_ap, kC3_ap, wp_bl, kC2_ap, kC1_ap, wp_chn, kTru_ap, wp_truM, kNot_ap, wp_notM, kIf_ap, wp_andM, wp_orM, wp_ite, wp_if, kAndV2_ap, kAndV_ap, wp_andV, kOrV2_ap, kOrV_ap, wp_orV, kNotV2_ap, kNotV_ap, wp_notV, wp_part0, kPart_ap, wp_part1, kSl2_ap, kSl1_ap, kSl0_ap, wp_sl, kSL3_ap, kSL2_ap, kSL1_ap, kSL0_ap, wp_slL, wp_evA0, kA1_ap, wp_evAv, kA2_ap, wp_evAio, kCall4_ap, kCall3_ap, kCall2_ap, kCall1_ap, wp_call, kK2_ap, kK1_ap, wp_callK, wp_nx, wp_bk, wp_ct, wp_no, kSeq_nx, kSeq_rt, kSeq_ro, kSeq_bk, kSeq_ct, wp_seq, kNx_ap, kExp_ap, kRt_ap, kRo_ap, wp_expr, wp_rt, wp_rtN, wp_ro, kAsg_ap, wp_asg, wp_asgO, kI3_ap, kI2_ap, kI1_ap, kI0b_ap, kI0_ap, wp_setIx, kM2_ap, kM1_ap, kM0_ap, wp_mt, kIt_ap, kIts_ap, wp_walkA, wp_range1, wp_range2, wp_range3, wp_zipM, wp_enumM, kFor_ap, wp_for, kTurn_nx, kTurn_ct, kTurn_bk, kTurn_rt, kTurn_ro, kElt_ap, kCond_t, kCond_f, wp_lc, endF_rt, endF_nx, endO_ro, kBody_ap, addD_i, addD_s, addD_t, addD_l, subD_i, mulD_i, modD_i, ltD_i, ltD_s, leD_i, gtD_i, geD_i, negD_i, isBD_b, isnBD_b, truD_b, truD_i, truD_n, truD_l, truD_t, lenD_l, lenD_t, lenD_s, intD_i, intD_b, absD_i, listD_l, listD_t, tupD_l, tupD_t, max2D_i, min2D_i, isiD_d, revD_l, slD_l, slD_t, itemsA_l, itemsA_t, itemsA_s, ixD_l, ixD_t, zpD_l, zpD_t, setT_t, setTr_t, setNs_0, setNs_1, setN_z, setN_s, setO_z, setO_s, atI_z, atI_1, atI_2, atI_3, atI_4, setIx_0, setIx_1, setIx_2, sumD_map, rg1_i, rg2_i, eqD_i, neD_i, isi_int_n, isi_int_b, isi_int_i, isi_int_s, isi_int_l, isi_int_t, isi_int_d, isi_bool_n, isi_bool_b, isi_bool_i, isi_bool_s, isi_bool_l, isi_bool_t, isi_bool_d, isi_str_n, isi_str_b, isi_str_i, isi_str_s, isi_str_l, isi_str_t, isi_str_d, isi_list_n, isi_list_b, isi_list_i, isi_list_s, isi_list_l, isi_list_t, isi_list_d, isi_tuple_n, isi_tuple_b, isi_tuple_i, isi_tuple_s, isi_tuple_l, isi_tuple_t, isi_tuple_d, isi_dict_n, isi_dict_b, isi_dict_i, isi_dict_s, isi_dict_l, isi_dict_t, isi_dict_d, notD_b, isNone_n, isNone_s, isNone_i, isNone_t, isNone_l, kPure_ap, pickD_1, pickD_2, pickD_3, pickD_4, appD_l, extD_l, List.getElem?_cons_zero, List.getElem?_cons_succ, List.set_cons_zero, List.set_cons_succ, initE, Option.map_some, List.replicate, posT, getO, fillA, putA, Bool.not_true, Bool.not_false, if_true, if_false, Bool.false_eq_true, Option.bind_some, wipeE, restE, reduceIte, List.length_cons, List.length_nil, fwp_mk, fwp_mko, Nat.reduceAdd, Nat.reduceSub, List.append_nil, List.nil_append, List.cons_append, List.reverse_cons, List.reverse_nil, Int.reduceLT, Int.reduceLE, Int.reduceAdd, Int.reduceMul, Int.reduceNeg, decide_true, decide_false, decide_eq_true_eq, Int.reduceEq, Option.map_none, and_self, and_true, true_and, Bool.true_and, Bool.false_and, Bool.or_true, Bool.or_false, List.isEmpty_nil, List.isEmpty_cons, List.getElem?_nil, Option.isSome_some, Int.cast_ofNat_Int, Bool.not_eq_true, Bool.and_true, Bool.and_self, Bool.true_or, Bool.false_or, Bool.and_false, Int.reduceSub, Int.natCast_zero, Int.reduceGT, Int.reduceGE, ne_eq, not_true_eq_false, not_false_eq_true, B__law_right]
  refine (of_ok hp (by omega) (by simp) (by simp)).mono ?_
  intro hd os hx
  obtain ⟨p1, hm, e1, hp1⟩ := hx
  obtain ⟨h, e2, hh⟩ : ∃ h : Int, hd = .int h ∧ HoursOk h := by
    simp only [List.mem_cons, List.not_mem_nil, or_false] at hm
    rcases hm with rfl | rfl | rfl | rfl | rfl
    · exact ⟨1, rfl, .inl rfl⟩
    · exact ⟨2, rfl, .inr (.inl rfl)⟩
    · exact ⟨3, rfl, .inr (.inr (.inl rfl))⟩
    · exact ⟨4, rfl, .inr (.inr (.inr (.inl rfl)))⟩
    · exact ⟨24, rfl, .inr (.inr (.inr (.inr rfl)))⟩
  rw [e1, e2]
  simp -implicitDefEqProofs only [owp_ok, fwp_ok, onS_s, onS_n, gR_f, gQ_f, gQ_o, gL_f, gL_o, gO_o, opL_op, wp_ret, kE_ap, kSet_ap, ifM_t, ifM_f, wp_vr, wp_vq, wp_vl, wp_vo, kBin2_ap, kBin1_ap, wp_bin, kUna_ap, wp_una, kBL2_ap, kBL1_ap, kBL0_ap, wp_binL, wp_seq0, kS2_ap, kS1_ap, wp_seq1, kTup_ap, wp_tup, kLst_ap, wp_lst, wp_seqP0, kP3_ap, kP2_ap, kP1_ap, wp_seqP1, wp_noX, kDsp_ap, wp_dsp, kBool_ap, wp_boolOf, kN_ap, kNN_ap, wp_isN, wp_isNN, kC4_ap, kC3_ap, wp_bl, kC2_ap, kC1_ap, wp_chn, kTru_ap, wp_truM, kNot_ap, wp_notM, kIf_ap, wp_andM, wp_orM, wp_ite, wp_if, kAndV2_ap, kAndV_ap, wp_andV, kOrV2_ap, kOrV_ap, wp_orV, kNotV2_ap, kNotV_ap, wp_notV, wp_part0, kPart_ap, wp_part1, kSl2_ap, kSl1_ap, kSl0_ap, wp_sl, kSL3_ap, kSL2_ap, kSL1_ap, kSL0_ap, wp_slL, wp_evA0, kA1_ap, wp_evAv, kA2_ap, wp_evAio, kCall4_ap, kCall3_ap, kCall2_ap, kCall1_ap, wp_call, kK2_ap, kK1_ap, wp_callK, wp_nx, wp_bk, wp_ct, wp_no, kSeq_nx, kSeq_rt, kSeq_ro, kSeq_bk, kSeq_ct, wp_seq, kNx_ap, kExp_ap, kRt_ap, kRo_ap, wp_expr, wp_rt, wp_rtN, wp_ro, kAsg_ap, wp_asg, wp_asgO, kI3_ap, kI2_ap, kI1_ap, kI0b_ap, kI0_ap, wp_setIx, kM2_ap, kM1_ap, kM0_ap, wp_mt, kIt_ap, kIts_ap, wp_walkA, wp_range1, wp_range2, wp_range3, wp_zipM, wp_enumM, kFor_ap, wp_for, kTurn_nx, kTurn_ct, kTurn_bk, kTurn_rt, kTurn_ro, kElt_ap, kCond_t, kCond_f, wp_lc, endF_rt, endF_nx, endO_ro, kBody_ap, addD_i, addD_s, addD_t, addD_l, subD_i, mulD_i, modD_i, ltD_i, ltD_s, leD_i, gtD_i, geD_i, negD_i, isBD_b, isnBD_b, truD_b, truD_i, truD_n, truD_l, truD_t, lenD_l, lenD_t, lenD_s, intD_i, intD_b, absD_i, listD_l, listD_t, tupD_l, tupD_t, max2D_i, min2D_i, isiD_d, revD_l, slD_l, slD_t, itemsA_l, itemsA_t, itemsA_s, ixD_l, ixD_t, zpD_l, zpD_t, setT_t, setTr_t, setNs_0, setNs_1, setN_z, setN_s, setO_z, setO_s, atI_z, atI_1, atI_2, atI_3, atI_4, setIx_0, setIx_1, setIx_2, sumD_map, rg1_i, rg2_i, eqD_i, neD_i, isi_int_n, isi_int_b, isi_int_i, isi_int_s, isi_int_l, isi_int_t, isi_int_d, isi_bool_n, isi_bool_b, isi_bool_i, isi_bool_s, isi_bool_l, isi_bool_t, isi_bool_d, isi_str_n, isi_str_b, isi_str_i, isi_str_s, isi_str_l, isi_str_t, isi_str_d, isi_list_n, isi_list_b, isi_list_i, isi_list_s, isi_list_l, isi_list_t, isi_list_d, isi_tuple_n, isi_tuple_b, isi_tuple_i, isi_tuple_s, isi_tuple_l, isi_tuple_t, isi_tuple_d, isi_dict_n, isi_dict_b, isi_dict_i, isi_dict_s, isi_dict_l, isi_dict_t, isi_dict_d, notD_b, isNone_n, isNone_s, isNone_i, isNone_t, isNone_l, kPure_ap, pickD_1, pickD_2, pickD_3, pickD_4, appD_l, extD_l, List.getElem?_cons_zero, List.getElem?_cons_succ, List.set_cons_zero, List.set_cons_succ, initE, Option.map_some, List.replicate, posT, getO, fillA, putA, Bool.not_true, Bool.not_false, if_true, if_false, Bool.false_eq_true, Option.bind_some, wipeE, restE, reduceIte, List.length_cons, List.length_nil, fwp_mk, fwp_mko, Nat.reduceAdd, Nat.reduceSub, List.append_nil, List.nil_append, List.cons_append, List.reverse_cons, List.reverse_nil, Int.reduceLT, Int.reduceLE, Int.reduceAdd, Int.reduceMul, Int.reduceNeg, decide_true, decide_false, decide_eq_true_eq, Int.reduceEq, Option.map_none, and_self, and_true, true_and, Bool.true_and, Bool.false_and, Bool.or_true, Bool.or_false, List.isEmpty_nil, List.isEmpty_cons, List.getElem?_nil, Option.isSome_some, Int.cast_ofNat_Int, Bool.not_eq_true, Bool.and_true, Bool.and_self, Bool.true_or, Bool.false_or, Bool.and_false, Int.reduceSub, Int.natCast_zero, Int.reduceGT, Int.reduceGE, ne_eq, not_true_eq_false, not_false_eq_true]
  refine (sign_ok hp1 (by omega) hh).mono ?_
  intro s os hx
  obtain ⟨p2, hs, e1, hp2⟩ := hx
  rw [e1]
  obtain ⟨rows, es, hl, hr⟩ := id hs
  rw [es] at hs ⊢
  simp -implicitDefEqProofs only [owp_ok, fwp_ok, onS_s, onS_n, gR_f, gQ_f, gQ_o, gL_f, gL_o, gO_o, opL_op, wp_ret, kE_ap, kSet_ap, ifM_t, ifM_f, wp_vr, wp_vq, wp_vl, wp_vo, kBin2_ap, kBin1_ap, wp_bin, kUna_ap, wp_una, kBL2_ap, kBL1_ap, kBL0_ap, wp_binL, wp_seq0, kS2_ap, kS1_ap, wp_seq1, kTup_ap, wp_tup, kLst_ap, wp_lst, wp_seqP0, kP3_ap, kP2_ap, kP1_ap, wp_seqP1, wp_noX, kDsp_ap, wp_dsp, kBool_ap, wp_boolOf, kN_ap, kNN_ap, wp_isN, wp_isNN, kC4_ap, kC3_ap, wp_bl, kC2_ap, kC1_ap, wp_chn, kTru_ap, wp_truM, kNot_ap, wp_notM, kIf_ap, wp_andM, wp_orM, wp_ite, wp_if, kAndV2_ap, kAndV_ap, wp_andV, kOrV2_ap, kOrV_ap, wp_orV, kNotV2_ap, kNotV_ap, wp_notV, wp_part0, kPart_ap, wp_part1, kSl2_ap, kSl1_ap, kSl0_ap, wp_sl, kSL3_ap, kSL2_ap, kSL1_ap, kSL0_ap, wp_slL, wp_evA0, kA1_ap, wp_evAv, kA2_ap, wp_evAio, kCall4_ap, kCall3_ap, kCall2_ap, kCall1_ap, wp_call, kK2_ap, kK1_ap, wp_callK, wp_nx, wp_bk, wp_ct, wp_no, kSeq_nx, kSeq_rt, kSeq_ro, kSeq_bk, kSeq_ct, wp_seq, kNx_ap, kExp_ap, kRt_ap, kRo_ap, wp_expr, wp_rt, wp_rtN, wp_ro, kAsg_ap, wp_asg, wp_asgO, kI3_ap, kI2_ap, kI1_ap, kI0b_ap, kI0_ap, wp_setIx, kM2_ap, kM1_ap, kM0_ap, wp_mt, kIt_ap, kIts_ap, wp_walkA, wp_range1, wp_range2, wp_range3, wp_zipM, wp_enumM, kFor_ap, wp_for, kTurn_nx, kTurn_ct, kTurn_bk, kTurn_rt, kTurn_ro, kElt_ap, kCond_t, kCond_f, wp_lc, endF_rt, endF_nx, endO_ro, kBody_ap, addD_i, addD_s, addD_t, addD_l, subD_i, mulD_i, modD_i, ltD_i, ltD_s, leD_i, gtD_i, geD_i, negD_i, isBD_b, isnBD_b, truD_b, truD_i, truD_n, truD_l, truD_t, lenD_l, lenD_t, lenD_s, intD_i, intD_b, absD_i, listD_l, listD_t, tupD_l, tupD_t, max2D_i, min2D_i, isiD_d, revD_l, slD_l, slD_t, itemsA_l, itemsA_t, itemsA_s, ixD_l, ixD_t, zpD_l, zpD_t, setT_t, setTr_t, setNs_0, setNs_1, setN_z, setN_s, setO_z, setO_s, atI_z, atI_1, atI_2, atI_3, atI_4, setIx_0, setIx_1, setIx_2, sumD_map, rg1_i, rg2_i, eqD_i, neD_i, isi_int_n, isi_int_b, isi_int_i, isi_int_s, isi_int_l, isi_int_t, isi_int_d, isi_bool_n, isi_bool_b, isi_bool_i, isi_bool_s, isi_bool_l, isi_bool_t, isi_bool_d, isi_str_n, isi_str_b, isi_str_i, isi_str_s, isi_str_l, isi_str_t, isi_str_d, isi_list_n, isi_list_b, isi_list_i, isi_list_s, isi_list_l, isi_list_t, isi_list_d, isi_tuple_n, isi_tuple_b, isi_tuple_i, isi_tuple_s, isi_tuple_l, isi_tuple_t, isi_tuple_d, isi_dict_n, isi_dict_b, isi_dict_i, isi_dict_s, isi_dict_l, isi_dict_t, isi_dict_d, notD_b, isNone_n, isNone_s, isNone_i, isNone_t, isNone_l, kPure_ap, pickD_1, pickD_2, pickD_3, pickD_4, appD_l, extD_l, List.getElem?_cons_zero, List.getElem?_cons_succ, List.set_cons_zero, List.set_cons_succ, initE, Option.map_some, List.replicate, posT, getO, fillA, putA, Bool.not_true, Bool.not_false, if_true, if_false, Bool.false_eq_true, Option.bind_some, wipeE, restE, reduceIte, List.length_cons, List.length_nil, fwp_mk, fwp_mko, Nat.reduceAdd, Nat.reduceSub, List.append_nil, List.nil_append, List.cons_append, List.reverse_cons, List.reverse_nil, Int.reduceLT, Int.reduceLE, Int.reduceAdd, Int.reduceMul, Int.reduceNeg, decide_true, decide_false, decide_eq_true_eq, Int.reduceEq, Option.map_none, and_self, and_true, true_and, Bool.true_and, Bool.false_and, Bool.or_true, Bool.or_false, List.isEmpty_nil, List.isEmpty_cons, List.getElem?_nil, Option.isSome_some, Int.cast_ofNat_Int, Bool.not_eq_true, Bool.and_true, Bool.and_self, Bool.true_or, Bool.false_or, Bool.and_false, Int.reduceSub, Int.natCast_zero, Int.reduceGT, Int.reduceGE, ne_eq, not_true_eq_false, not_false_eq_true]
  refine (feasts_ok hp2 (by omega)).mono ?_
  intro f os hx
  obtain ⟨p3, fs, e2, hfl, hfp, hfa, e1, hp3⟩ := hx
  rw [e1, e2]
  simp -implicitDefEqProofs only [owp_ok, fwp_ok, onS_s, onS_n, gR_f, gQ_f, gQ_o, gL_f, gL_o, gO_o, opL_op, wp_ret, kE_ap, kSet_ap, ifM_t, ifM_f, wp_vr, wp_vq, wp_vl, wp_vo, kBin2_ap, kBin1_ap, wp_bin, kUna_ap, wp_una, kBL2_ap, kBL1_ap, kBL0_ap, wp_binL, wp_seq0, kS2_ap, kS1_ap, wp_seq1, kTup_ap, wp_tup, kLst_ap, wp_lst, wp_seqP0, kP3_ap, kP2_ap, kP1_ap, wp_seqP1, wp_noX, kDsp_ap, wp_dsp, kBool_ap, wp_boolOf, kN_ap, kNN_ap, wp_isN, wp_isNN, kC4_ap, kC3_ap, wp_bl, kC2_ap, kC1_ap, wp_chn, kTru_ap, wp_truM, kNot_ap, wp_notM, kIf_ap, wp_andM, wp_orM, wp_ite, wp_if, kAndV2_ap, kAndV_ap, wp_andV, kOrV2_ap, kOrV_ap, wp_orV, kNotV2_ap, kNotV_ap, wp_notV, wp_part0, kPart_ap, wp_part1, kSl2_ap, kSl1_ap, kSl0_ap, wp_sl, kSL3_ap, kSL2_ap, kSL1_ap, kSL0_ap, wp_slL, wp_evA0, kA1_ap, wp_evAv, kA2_ap, wp_evAio, kCall4_ap, kCall3_ap, kCall2_ap, kCall1_ap, wp_call, kK2_ap, kK1_ap, wp_callK, wp_nx, wp_bk, wp_ct, wp_no, kSeq_nx, kSeq_rt, kSeq_ro, kSeq_bk, kSeq_ct, wp_seq, kNx_ap, kExp_ap, kRt_ap, kRo_ap, wp_expr, wp_rt, wp_rtN, wp_ro, kAsg_ap, wp_asg, wp_asgO, kI3_ap, kI2_ap, kI1_ap, kI0b_ap, kI0_ap, wp_setIx, kM2_ap, kM1_ap, kM0_ap, wp_mt, kIt_ap, kIts_ap, wp_walkA, wp_range1, wp_range2, wp_range3, wp_zipM, wp_enumM, kFor_ap, wp_for, kTurn_nx, kTurn_ct, kTurn_bk, kTurn_rt, kTurn_ro, kElt_ap, kCond_t, kCond_f, wp_lc, endF_rt, endF_nx, endO_ro, kBody_ap, addD_i, addD_s, addD_t, addD_l, subD_i, mulD_i, modD_i, ltD_i, ltD_s, leD_i, gtD_i, geD_i, negD_i, isBD_b, isnBD_b, truD_b, truD_i, truD_n, truD_l, truD_t, lenD_l, lenD_t, lenD_s, intD_i, intD_b, absD_i, listD_l, listD_t, tupD_l, tupD_t, max2D_i, min2D_i, isiD_d, revD_l, slD_l, slD_t, itemsA_l, itemsA_t, itemsA_s, ixD_l, ixD_t, zpD_l, zpD_t, setT_t, setTr_t, setNs_0, setNs_1, setN_z, setN_s, setO_z, setO_s, atI_z, atI_1, atI_2, atI_3, atI_4, setIx_0, setIx_1, setIx_2, sumD_map, rg1_i, rg2_i, eqD_i, neD_i, isi_int_n, isi_int_b, isi_int_i, isi_int_s, isi_int_l, isi_int_t, isi_int_d, isi_bool_n, isi_bool_b, isi_bool_i, isi_bool_s, isi_bool_l, isi_bool_t, isi_bool_d, isi_str_n, isi_str_b, isi_str_i, isi_str_s, isi_str_l, isi_str_t, isi_str_d, isi_list_n, isi_list_b, isi_list_i, isi_list_s, isi_list_l, isi_list_t, isi_list_d, isi_tuple_n, isi_tuple_b, isi_tuple_i, isi_tuple_s, isi_tuple_l, isi_tuple_t, isi_tuple_d, isi_dict_n, isi_dict_b, isi_dict_i, isi_dict_s, isi_dict_l, isi_dict_t, isi_dict_d, notD_b, isNone_n, isNone_s, isNone_i, isNone_t, isNone_l, kPure_ap, pickD_1, pickD_2, pickD_3, pickD_4, appD_l, extD_l, List.getElem?_cons_zero, List.getElem?_cons_succ, List.set_cons_zero, List.set_cons_succ, initE, Option.map_some, List.replicate, posT, getO, fillA, putA, Bool.not_true, Bool.not_false, if_true, if_false, Bool.false_eq_true, Option.bind_some, wipeE, restE, reduceIte, List.length_cons, List.length_nil, fwp_mk, fwp_mko, Nat.reduceAdd, Nat.reduceSub, List.append_nil, List.nil_append, List.cons_append, List.reverse_cons, List.reverse_nil, Int.reduceLT, Int.reduceLE, Int.reduceAdd, Int.reduceMul, Int.reduceNeg, decide_true, decide_false, decide_eq_true_eq, Int.reduceEq, Option.map_none, and_self, and_true, true_and, Bool.true_and, Bool.false_and, Bool.or_true, Bool.or_false, List.isEmpty_nil, List.isEmpty_cons, List.getElem?_nil, Option.isSome_some, Int.cast_ofNat_Int, Bool.not_eq_true, Bool.and_true, Bool.and_self, Bool.true_or, Bool.false_or, Bool.and_false, Int.reduceSub, Int.natCast_zero, Int.reduceGT, Int.reduceGE, ne_eq, not_true_eq_false, not_false_eq_true]
  refine (of_ok hp3 (by omega) (by simp) (by simp)).mono ?_
  intro g os hx
  obtain ⟨p4, hm, e1, hp4⟩ := hx
  obtain ⟨gs, e2, hg⟩ : ∃ gs : List Int, g = .tuple (gs.map PyData.int) ∧ (gs = [] ∨ gs = [2000] ∨ gs = [1000, 10000]) := by
    simp only [List.mem_cons, List.not_mem_nil, or_false] at hm
    rcases hm with rfl | rfl | rfl
    · exact ⟨[], rfl, .inl rfl⟩
    · exact ⟨[2000], rfl, .inr (.inl rfl)⟩
    · exact ⟨[1000, 10000], rfl, .inr (.inr rfl)⟩
  rw [e1, e2]
  have hgl : gs.length ≤ 2 := by rcases hg with rfl | rfl | rfl <;> simp
  have hga : ∀ x ∈ gs, 1000 ≤ x ∧ x ≤ 10000 := by
    intro x hx
    rcases hg with rfl | rfl | rfl
    · simp at hx
    · simp at hx; omega
    · simp at hx; omega
  have hgp : gs.Pairwise (· < ·) := by rcases hg with rfl | rfl | rfl <;> decide
  have hf : FeastsOk (.tuple ((fs ++ gs).map PyData.int)) := by
    refine ⟨fs ++ gs, rfl, by rw [List.length_append]; omega, List.pairwise_append.mpr ⟨hfp, hgp, fun x hx y hy => ?_⟩, fun x hx => ?_⟩
    · have := hfa x hx; have := hga y hy; omega
    · rcases List.mem_append.mp hx with hx | hx
      · have := hfa x hx; omega
      · have := hga x hx; omega
  have hsz : (fs.map PyData.int).length + (gs.map PyData.int).length ≤ sizeLine := by rw [List.length_map, List.length_map, sizeLine_eq]; omega
  simp -implicitDefEqProofs only [owp_ok, fwp_ok, onS_s, onS_n, gR_f, gQ_f, gQ_o, gL_f, gL_o, gO_o, opL_op, wp_ret, kE_ap, kSet_ap, ifM_t, ifM_f, wp_vr, wp_vq, wp_vl, wp_vo, kBin2_ap, kBin1_ap, wp_bin, kUna_ap, wp_una, kBL2_ap, kBL1_ap, kBL0_ap, wp_binL, wp_seq0, kS2_ap, kS1_ap, wp_seq1, kTup_ap, wp_tup, kLst_ap, wp_lst, wp_seqP0, kP3_ap, kP2_ap, kP1_ap, wp_seqP1, wp_noX, kDsp_ap, wp_dsp, kBool_ap, wp_boolOf, kN_ap, kNN_ap, wp_isN, wp_isNN, kC4_ap, kC3_ap, wp_bl, kC2_ap, kC1_ap, wp_chn, kTru_ap, wp_truM, kNot_ap, wp_notM, kIf_ap, wp_andM, wp_orM, wp_ite, wp_if, kAndV2_ap, kAndV_ap, wp_andV, kOrV2_ap, kOrV_ap, wp_orV, kNotV2_ap, kNotV_ap, wp_notV, wp_part0, kPart_ap, wp_part1, kSl2_ap, kSl1_ap, kSl0_ap, wp_sl, kSL3_ap, kSL2_ap, kSL1_ap, kSL0_ap, wp_slL, wp_evA0, kA1_ap, wp_evAv, kA2_ap, wp_evAio, kCall4_ap, kCall3_ap, kCall2_ap, kCall1_ap, wp_call, kK2_ap, kK1_ap, wp_callK, wp_nx, wp_bk, wp_ct, wp_no, kSeq_nx, kSeq_rt, kSeq_ro, kSeq_bk, kSeq_ct, wp_seq, kNx_ap, kExp_ap, kRt_ap, kRo_ap, wp_expr, wp_rt, wp_rtN, wp_ro, kAsg_ap, wp_asg, wp_asgO, kI3_ap, kI2_ap, kI1_ap, kI0b_ap, kI0_ap, wp_setIx, kM2_ap, kM1_ap, kM0_ap, wp_mt, kIt_ap, kIts_ap, wp_walkA, wp_range1, wp_range2, wp_range3, wp_zipM, wp_enumM, kFor_ap, wp_for, kTurn_nx, kTurn_ct, kTurn_bk, kTurn_rt, kTurn_ro, kElt_ap, kCond_t, kCond_f, wp_lc, endF_rt, endF_nx, endO_ro, kBody_ap, addD_i, addD_s, addD_t, addD_l, subD_i, mulD_i, modD_i, ltD_i, ltD_s, leD_i, gtD_i, geD_i, negD_i, isBD_b, isnBD_b, truD_b, truD_i, truD_n, truD_l, truD_t, lenD_l, lenD_t, lenD_s, intD_i, intD_b, absD_i, listD_l, listD_t, tupD_l, tupD_t, max2D_i, min2D_i, isiD_d, revD_l, slD_l, slD_t, itemsA_l, itemsA_t, itemsA_s, ixD_l, ixD_t, zpD_l, zpD_t, setT_t, setTr_t, setNs_0, setNs_1, setN_z, setN_s, setO_z, setO_s, atI_z, atI_1, atI_2, atI_3, atI_4, setIx_0, setIx_1, setIx_2, sumD_map, rg1_i, rg2_i, eqD_i, neD_i, isi_int_n, isi_int_b, isi_int_i, isi_int_s, isi_int_l, isi_int_t, isi_int_d, isi_bool_n, isi_bool_b, isi_bool_i, isi_bool_s, isi_bool_l, isi_bool_t, isi_bool_d, isi_str_n, isi_str_b, isi_str_i, isi_str_s, isi_str_l, isi_str_t, isi_str_d, isi_list_n, isi_list_b, isi_list_i, isi_list_s, isi_list_l, isi_list_t, isi_list_d, isi_tuple_n, isi_tuple_b, isi_tuple_i, isi_tuple_s, isi_tuple_l, isi_tuple_t, isi_tuple_d, isi_dict_n, isi_dict_b, isi_dict_i, isi_dict_s, isi_dict_l, isi_dict_t, isi_dict_d, notD_b, isNone_n, isNone_s, isNone_i, isNone_t, isNone_l, kPure_ap, pickD_1, pickD_2, pickD_3, pickD_4, appD_l, extD_l, List.getElem?_cons_zero, List.getElem?_cons_succ, List.set_cons_zero, List.set_cons_succ, initE, Option.map_some, List.replicate, posT, getO, fillA, putA, Bool.not_true, Bool.not_false, if_true, if_false, Bool.false_eq_true, Option.bind_some, wipeE, restE, reduceIte, List.length_cons, List.length_nil, fwp_mk, fwp_mko, Nat.reduceAdd, Nat.reduceSub, List.append_nil, List.nil_append, List.cons_append, List.reverse_cons, List.reverse_nil, Int.reduceLT, Int.reduceLE, Int.reduceAdd, Int.reduceMul, Int.reduceNeg, decide_true, decide_false, decide_eq_true_eq, Int.reduceEq, Option.map_none, and_self, and_true, true_and, Bool.true_and, Bool.false_and, Bool.or_true, Bool.or_false, List.isEmpty_nil, List.isEmpty_cons, List.getElem?_nil, Option.isSome_some, Int.cast_ofNat_Int, Bool.not_eq_true, Bool.and_true, Bool.and_self, Bool.true_or, Bool.false_or, Bool.and_false, Int.reduceSub, Int.natCast_zero, Int.reduceGT, Int.reduceGE, ne_eq, not_true_eq_false, not_false_eq_true, hsz, ← List.map_append]
  refine (right_ok hp4 (by omega) hh hs hf).mono ?_
  intro d os hx
  obtain ⟨p5, e2, e1, hp5⟩ := hx
  rw [e1, e2]
  simp -implicitDefEqProofs only [owp_ok, fwp_ok, onS_s, onS_n, gR_f, gQ_f, gQ_o, gL_f, gL_o, gO_o, opL_op, wp_ret, kE_ap, kSet_ap, ifM_t, ifM_f, wp_vr, wp_vq, wp_vl, wp_vo, kBin2_ap, kBin1_ap, wp_bin, kUna_ap, wp_una, kBL2_ap, kBL1_ap, kBL0_ap, wp_binL, wp_seq0, kS2_ap, kS1_ap, wp_seq1, kTup_ap, wp_tup, kLst_ap, wp_lst, wp_seqP0, kP3_ap, kP2_ap, kP1_ap, wp_seqP1, wp_noX, kDsp_ap, wp_dsp, kBool_ap, wp_boolOf, kN_ap, kNN_ap, wp_isN, wp_isNN, kC4_ap, kC3_ap, wp_bl, kC2_ap, kC1_ap, wp_chn, kTru_ap, wp_truM, kNot_ap, wp_notM, kIf_ap, wp_andM, wp_orM, wp_ite, wp_if, kAndV2_ap, kAndV_ap, wp_andV, kOrV2_ap, kOrV_ap, wp_orV, kNotV2_ap, kNotV_ap, wp_notV, wp_part0, kPart_ap, wp_part1, kSl2_ap, kSl1_ap, kSl0_ap, wp_sl, kSL3_ap, kSL2_ap, kSL1_ap, kSL0_ap, wp_slL, wp_evA0, kA1_ap, wp_evAv, kA2_ap, wp_evAio, kCall4_ap, kCall3_ap, kCall2_ap, kCall1_ap, wp_call, kK2_ap, kK1_ap, wp_callK, wp_nx, wp_bk, wp_ct, wp_no, kSeq_nx, kSeq_rt, kSeq_ro, kSeq_bk, kSeq_ct, wp_seq, kNx_ap, kExp_ap, kRt_ap, kRo_ap, wp_expr, wp_rt, wp_rtN, wp_ro, kAsg_ap, wp_asg, wp_asgO, kI3_ap, kI2_ap, kI1_ap, kI0b_ap, kI0_ap, wp_setIx, kM2_ap, kM1_ap, kM0_ap, wp_mt, kIt_ap, kIts_ap, wp_walkA, wp_range1, wp_range2, wp_range3, wp_zipM, wp_enumM, kFor_ap, wp_for, kTurn_nx, kTurn_ct, kTurn_bk, kTurn_rt, kTurn_ro, kElt_ap, kCond_t, kCond_f, wp_lc, endF_rt, endF_nx, endO_ro, kBody_ap, addD_i, addD_s, addD_t, addD_l, subD_i, mulD_i, modD_i, ltD_i, ltD_s, leD_i, gtD_i, geD_i, negD_i, isBD_b, isnBD_b, truD_b, truD_i, truD_n, truD_l, truD_t, lenD_l, lenD_t, lenD_s, intD_i, intD_b, absD_i, listD_l, listD_t, tupD_l, tupD_t, max2D_i, min2D_i, isiD_d, revD_l, slD_l, slD_t, itemsA_l, itemsA_t, itemsA_s, ixD_l, ixD_t, zpD_l, zpD_t, setT_t, setTr_t, setNs_0, setNs_1, setN_z, setN_s, setO_z, setO_s, atI_z, atI_1, atI_2, atI_3, atI_4, setIx_0, setIx_1, setIx_2, sumD_map, rg1_i, rg2_i, eqD_i, neD_i, isi_int_n, isi_int_b, isi_int_i, isi_int_s, isi_int_l, isi_int_t, isi_int_d, isi_bool_n, isi_bool_b, isi_bool_i, isi_bool_s, isi_bool_l, isi_bool_t, isi_bool_d, isi_str_n, isi_str_b, isi_str_i, isi_str_s, isi_str_l, isi_str_t, isi_str_d, isi_list_n, isi_list_b, isi_list_i, isi_list_s, isi_list_l, isi_list_t, isi_list_d, isi_tuple_n, isi_tuple_b, isi_tuple_i, isi_tuple_s, isi_tuple_l, isi_tuple_t, isi_tuple_d, isi_dict_n, isi_dict_b, isi_dict_i, isi_dict_s, isi_dict_l, isi_dict_t, isi_dict_d, notD_b, isNone_n, isNone_s, isNone_i, isNone_t, isNone_l, kPure_ap, pickD_1, pickD_2, pickD_3, pickD_4, appD_l, extD_l, List.getElem?_cons_zero, List.getElem?_cons_succ, List.set_cons_zero, List.set_cons_succ, initE, Option.map_some, List.replicate, posT, getO, fillA, putA, Bool.not_true, Bool.not_false, if_true, if_false, Bool.false_eq_true, Option.bind_some, wipeE, restE, reduceIte, List.length_cons, List.length_nil, fwp_mk, fwp_mko, Nat.reduceAdd, Nat.reduceSub, List.append_nil, List.nil_append, List.cons_append, List.reverse_cons, List.reverse_nil, Int.reduceLT, Int.reduceLE, Int.reduceAdd, Int.reduceMul, Int.reduceNeg, decide_true, decide_false, decide_eq_true_eq, Int.reduceEq, Option.map_none, and_self, and_true, true_and, Bool.true_and, Bool.false_and, Bool.or_true, Bool.or_false, List.isEmpty_nil, List.isEmpty_cons, List.getElem?_nil, Option.isSome_some, Int.cast_ofNat_Int, Bool.not_eq_true, Bool.and_true, Bool.and_self, Bool.true_or, Bool.false_or, Bool.and_false, Int.reduceSub, Int.natCast_zero, Int.reduceGT, Int.reduceGE, ne_eq, not_true_eq_false, not_false_eq_true]
  refine (bent_ok (p := p5) hh hs).mono ?_
  intro d os hx
  obtain ⟨e2, e1⟩ := hx
  rw [e1, e2]
  simp -implicitDefEqProofs only [owp_ok, fwp_ok, onS_s, onS_n, gR_f, gQ_f, gQ_o, gL_f, gL_o, gO_o, opL_op, wp_ret, kE_ap, kSet_ap, ifM_t, ifM_f, wp_vr, wp_vq, wp_vl, wp_vo, kBin2_ap, kBin1_ap, wp_bin, kUna_ap, wp_una, kBL2_ap, kBL1_ap, kBL0_ap, wp_binL, wp_seq0, kS2_ap, kS1_ap, wp_seq1, kTup_ap, wp_tup, kLst_ap, wp_lst, wp_seqP0, kP3_ap, kP2_ap, kP1_ap, wp_seqP1, wp_noX, kDsp_ap, wp_dsp, kBool_ap, wp_boolOf, kN_ap, kNN_ap, wp_isN, wp_isNN, kC4_ap, kC3_ap, wp_bl, kC2_ap, kC1_ap, wp_chn, kTru_ap, wp_truM, kNot_ap, wp_notM, kIf_ap, wp_andM, wp_orM, wp_ite, wp_if, kAndV2_ap, kAndV_ap, wp_andV, kOrV2_ap, kOrV_ap, wp_orV, kNotV2_ap, kNotV_ap, wp_notV, wp_part0, kPart_ap, wp_part1, kSl2_ap, kSl1_ap, kSl0_ap, wp_sl, kSL3_ap, kSL2_ap, kSL1_ap, kSL0_ap, wp_slL, wp_evA0, kA1_ap, wp_evAv, kA2_ap, wp_evAio, kCall4_ap, kCall3_ap, kCall2_ap, kCall1_ap, wp_call, kK2_ap, kK1_ap, wp_callK, wp_nx, wp_bk, wp_ct, wp_no, kSeq_nx, kSeq_rt, kSeq_ro, kSeq_bk, kSeq_ct, wp_seq, kNx_ap, kExp_ap, kRt_ap, kRo_ap, wp_expr, wp_rt, wp_rtN, wp_ro, kAsg_ap, wp_asg, wp_asgO, kI3_ap, kI2_ap, kI1_ap, kI0b_ap, kI0_ap, wp_setIx, kM2_ap, kM1_ap, kM0_ap, wp_mt, kIt_ap, kIts_ap, wp_walkA, wp_range1, wp_range2, wp_range3, wp_zipM, wp_enumM, kFor_ap, wp_for, kTurn_nx, kTurn_ct, kTurn_bk, kTurn_rt, kTurn_ro, kElt_ap, kCond_t, kCond_f, wp_lc, endF_rt, endF_nx, endO_ro, kBody_ap, addD_i, addD_s, addD_t, addD_l, subD_i, mulD_i, modD_i, ltD_i, ltD_s, leD_i, gtD_i, geD_i, negD_i, isBD_b, isnBD_b, truD_b, truD_i, truD_n, truD_l, truD_t, lenD_l, lenD_t, lenD_s, intD_i, intD_b, absD_i, listD_l, listD_t, tupD_l, tupD_t, max2D_i, min2D_i, isiD_d, revD_l, slD_l, slD_t, itemsA_l, itemsA_t, itemsA_s, ixD_l, ixD_t, zpD_l, zpD_t, setT_t, setTr_t, setNs_0, setNs_1, setN_z, setN_s, setO_z, setO_s, atI_z, atI_1, atI_2, atI_3, atI_4, setIx_0, setIx_1, setIx_2, sumD_map, rg1_i, rg2_i, eqD_i, neD_i, isi_int_n, isi_int_b, isi_int_i, isi_int_s, isi_int_l, isi_int_t, isi_int_d, isi_bool_n, isi_bool_b, isi_bool_i, isi_bool_s, isi_bool_l, isi_bool_t, isi_bool_d, isi_str_n, isi_str_b, isi_str_i, isi_str_s, isi_str_l, isi_str_t, isi_str_d, isi_list_n, isi_list_b, isi_list_i, isi_list_s, isi_list_l, isi_list_t, isi_list_d, isi_tuple_n, isi_tuple_b, isi_tuple_i, isi_tuple_s, isi_tuple_l, isi_tuple_t, isi_tuple_d, isi_dict_n, isi_dict_b, isi_dict_i, isi_dict_s, isi_dict_l, isi_dict_t, isi_dict_d, notD_b, isNone_n, isNone_s, isNone_i, isNone_t, isNone_l, kPure_ap, pickD_1, pickD_2, pickD_3, pickD_4, appD_l, extD_l, List.getElem?_cons_zero, List.getElem?_cons_succ, List.set_cons_zero, List.set_cons_succ, initE, Option.map_some, List.replicate, posT, getO, fillA, putA, Bool.not_true, Bool.not_false, if_true, if_false, Bool.false_eq_true, Option.bind_some, wipeE, restE, reduceIte, List.length_cons, List.length_nil, fwp_mk, fwp_mko, Nat.reduceAdd, Nat.reduceSub, List.append_nil, List.nil_append, List.cons_append, List.reverse_cons, List.reverse_nil, Int.reduceLT, Int.reduceLE, Int.reduceAdd, Int.reduceMul, Int.reduceNeg, decide_true, decide_false, decide_eq_true_eq, Int.reduceEq, Option.map_none, and_self, and_true, true_and, Bool.true_and, Bool.false_and, Bool.or_true, Bool.or_false, List.isEmpty_nil, List.isEmpty_cons, List.getElem?_nil, Option.isSome_some, Int.cast_ofNat_Int, Bool.not_eq_true, Bool.and_true, Bool.and_self, Bool.true_or, Bool.false_or, Bool.and_false, Int.reduceSub, Int.natCast_zero, Int.reduceGT, Int.reduceGE, ne_eq, not_true_eq_false, not_false_eq_true]
  exact ⟨p5, rfl, hp5.mono (by omega)⟩
theorem good (ns : List Int) (h : ns.length ≤ 63) (hb : ∀ z ∈ ns, Builtin.Int.intBits z ≤ 1048576) : ∃ outs, F_law [.list (ns.map PyData.int)] = .ok (.bool true) outs := by
  refine ⟨[], fo_eq ?_⟩
  obtain ⟨k, hk, hcells⟩ := cells_ok ns h
  unfold F_law
  rw [fwp_mk]
  simp -implicitDefEqProofs only [owp_ok, fwp_ok, onS_s, onS_n, gR_f, gQ_f, gQ_o, gL_f, gL_o, gO_o, opL_op, wp_ret, kE_ap, kSet_ap, ifM_t, ifM_f, wp_vr, wp_vq, wp_vl, wp_vo, kBin2_ap, kBin1_ap, wp_bin, kUna_ap, wp_una, kBL2_ap, kBL1_ap, kBL0_ap, wp_binL, wp_seq0, kS2_ap, kS1_ap, wp_seq1, kTup_ap, wp_tup, kLst_ap, wp_lst, wp_seqP0, kP3_ap, kP2_ap, kP1_ap, wp_seqP1, wp_noX, kDsp_ap, wp_dsp, kBool_ap, wp_boolOf, kN_ap, kNN_ap, wp_isN, wp_isNN, kC4_ap, kC3_ap, wp_bl, kC2_ap, kC1_ap, wp_chn, kTru_ap, wp_truM, kNot_ap, wp_notM, kIf_ap, wp_andM, wp_orM, wp_ite, wp_if, kAndV2_ap, kAndV_ap, wp_andV, kOrV2_ap, kOrV_ap, wp_orV, kNotV2_ap, kNotV_ap, wp_notV, wp_part0, kPart_ap, wp_part1, kSl2_ap, kSl1_ap, kSl0_ap, wp_sl, kSL3_ap, kSL2_ap, kSL1_ap, kSL0_ap, wp_slL, wp_evA0, kA1_ap, wp_evAv, kA2_ap, wp_evAio, kCall4_ap, kCall3_ap, kCall2_ap, kCall1_ap, wp_call, kK2_ap, kK1_ap, wp_callK, wp_nx, wp_bk, wp_ct, wp_no, kSeq_nx, kSeq_rt, kSeq_ro, kSeq_bk, kSeq_ct, wp_seq, kNx_ap, kExp_ap, kRt_ap, kRo_ap, wp_expr, wp_rt, wp_rtN, wp_ro, kAsg_ap, wp_asg, wp_asgO, kI3_ap, kI2_ap, kI1_ap, kI0b_ap, kI0_ap, wp_setIx, kM2_ap, kM1_ap, kM0_ap, wp_mt, kIt_ap, kIts_ap, wp_walkA, wp_range1, wp_range2, wp_range3, wp_zipM, wp_enumM, kFor_ap, wp_for, kTurn_nx, kTurn_ct, kTurn_bk, kTurn_rt, kTurn_ro, kElt_ap, kCond_t, kCond_f, wp_lc, endF_rt, endF_nx, endO_ro, kBody_ap, addD_i, addD_s, addD_t, addD_l, subD_i, mulD_i, modD_i, ltD_i, ltD_s, leD_i, gtD_i, geD_i, negD_i, isBD_b, isnBD_b, truD_b, truD_i, truD_n, truD_l, truD_t, lenD_l, lenD_t, lenD_s, intD_i, intD_b, absD_i, listD_l, listD_t, tupD_l, tupD_t, max2D_i, min2D_i, isiD_d, revD_l, slD_l, slD_t, itemsA_l, itemsA_t, itemsA_s, ixD_l, ixD_t, zpD_l, zpD_t, setT_t, setTr_t, setNs_0, setNs_1, setN_z, setN_s, setO_z, setO_s, atI_z, atI_1, atI_2, atI_3, atI_4, setIx_0, setIx_1, setIx_2, sumD_map, rg1_i, rg2_i, eqD_i, neD_i, isi_int_n, isi_int_b, isi_int_i, isi_int_s, isi_int_l, isi_int_t, isi_int_d, isi_bool_n, isi_bool_b, isi_bool_i, isi_bool_s, isi_bool_l, isi_bool_t, isi_bool_d, isi_str_n, isi_str_b, isi_str_i, isi_str_s, isi_str_l, isi_str_t, isi_str_d, isi_list_n, isi_list_b, isi_list_i, isi_list_s, isi_list_l, isi_list_t, isi_list_d, isi_tuple_n, isi_tuple_b, isi_tuple_i, isi_tuple_s, isi_tuple_l, isi_tuple_t, isi_tuple_d, isi_dict_n, isi_dict_b, isi_dict_i, isi_dict_s, isi_dict_l, isi_dict_t, isi_dict_d, notD_b, isNone_n, isNone_s, isNone_i, isNone_t, isNone_l, kPure_ap, pickD_1, pickD_2, pickD_3, pickD_4, appD_l, extD_l, List.getElem?_cons_zero, List.getElem?_cons_succ, List.set_cons_zero, List.set_cons_succ, initE, Option.map_some, List.replicate, posT, getO, fillA, putA, Bool.not_true, Bool.not_false, if_true, if_false, Bool.false_eq_true, Option.bind_some, wipeE, restE, reduceIte, List.length_cons, List.length_nil, fwp_mk, fwp_mko, Nat.reduceAdd, Nat.reduceSub, List.append_nil, List.nil_append, List.cons_append, List.reverse_cons, List.reverse_nil, Int.reduceLT, Int.reduceLE, Int.reduceAdd, Int.reduceMul, Int.reduceNeg, decide_true, decide_false, decide_eq_true_eq, Int.reduceEq, Option.map_none, and_self, and_true, true_and, Bool.true_and, Bool.false_and, Bool.or_true, Bool.or_false, List.isEmpty_nil, List.isEmpty_cons, List.getElem?_nil, Option.isSome_some, Int.cast_ofNat_Int, Bool.not_eq_true, Bool.and_true, Bool.and_self, Bool.true_or, Bool.false_or, Bool.and_false, Int.reduceSub, Int.natCast_zero, Int.reduceGT, Int.reduceGE, ne_eq, not_true_eq_false, not_false_eq_true, B_law]
  refine hcells.mono ?_
  intro d os hx
  obtain ⟨e1, e2⟩ := hx
  rw [e1, e2]
  simp -implicitDefEqProofs only [owp_ok, fwp_ok, onS_s, onS_n, gR_f, gQ_f, gQ_o, gL_f, gL_o, gO_o, opL_op, wp_ret, kE_ap, kSet_ap, ifM_t, ifM_f, wp_vr, wp_vq, wp_vl, wp_vo, kBin2_ap, kBin1_ap, wp_bin, kUna_ap, wp_una, kBL2_ap, kBL1_ap, kBL0_ap, wp_binL, wp_seq0, kS2_ap, kS1_ap, wp_seq1, kTup_ap, wp_tup, kLst_ap, wp_lst, wp_seqP0, kP3_ap, kP2_ap, kP1_ap, wp_seqP1, wp_noX, kDsp_ap, wp_dsp, kBool_ap, wp_boolOf, kN_ap, kNN_ap, wp_isN, wp_isNN, kC4_ap, kC3_ap, wp_bl, kC2_ap, kC1_ap, wp_chn, kTru_ap, wp_truM, kNot_ap, wp_notM, kIf_ap, wp_andM, wp_orM, wp_ite, wp_if, kAndV2_ap, kAndV_ap, wp_andV, kOrV2_ap, kOrV_ap, wp_orV, kNotV2_ap, kNotV_ap, wp_notV, wp_part0, kPart_ap, wp_part1, kSl2_ap, kSl1_ap, kSl0_ap, wp_sl, kSL3_ap, kSL2_ap, kSL1_ap, kSL0_ap, wp_slL, wp_evA0, kA1_ap, wp_evAv, kA2_ap, wp_evAio, kCall4_ap, kCall3_ap, kCall2_ap, kCall1_ap, wp_call, kK2_ap, kK1_ap, wp_callK, wp_nx, wp_bk, wp_ct, wp_no, kSeq_nx, kSeq_rt, kSeq_ro, kSeq_bk, kSeq_ct, wp_seq, kNx_ap, kExp_ap, kRt_ap, kRo_ap, wp_expr, wp_rt, wp_rtN, wp_ro, kAsg_ap, wp_asg, wp_asgO, kI3_ap, kI2_ap, kI1_ap, kI0b_ap, kI0_ap, wp_setIx, kM2_ap, kM1_ap, kM0_ap, wp_mt, kIt_ap, kIts_ap, wp_walkA, wp_range1, wp_range2, wp_range3, wp_zipM, wp_enumM, kFor_ap, wp_for, kTurn_nx, kTurn_ct, kTurn_bk, kTurn_rt, kTurn_ro, kElt_ap, kCond_t, kCond_f, wp_lc, endF_rt, endF_nx, endO_ro, kBody_ap, addD_i, addD_s, addD_t, addD_l, subD_i, mulD_i, modD_i, ltD_i, ltD_s, leD_i, gtD_i, geD_i, negD_i, isBD_b, isnBD_b, truD_b, truD_i, truD_n, truD_l, truD_t, lenD_l, lenD_t, lenD_s, intD_i, intD_b, absD_i, listD_l, listD_t, tupD_l, tupD_t, max2D_i, min2D_i, isiD_d, revD_l, slD_l, slD_t, itemsA_l, itemsA_t, itemsA_s, ixD_l, ixD_t, zpD_l, zpD_t, setT_t, setTr_t, setNs_0, setNs_1, setN_z, setN_s, setO_z, setO_s, atI_z, atI_1, atI_2, atI_3, atI_4, setIx_0, setIx_1, setIx_2, sumD_map, rg1_i, rg2_i, eqD_i, neD_i, isi_int_n, isi_int_b, isi_int_i, isi_int_s, isi_int_l, isi_int_t, isi_int_d, isi_bool_n, isi_bool_b, isi_bool_i, isi_bool_s, isi_bool_l, isi_bool_t, isi_bool_d, isi_str_n, isi_str_b, isi_str_i, isi_str_s, isi_str_l, isi_str_t, isi_str_d, isi_list_n, isi_list_b, isi_list_i, isi_list_s, isi_list_l, isi_list_t, isi_list_d, isi_tuple_n, isi_tuple_b, isi_tuple_i, isi_tuple_s, isi_tuple_l, isi_tuple_t, isi_tuple_d, isi_dict_n, isi_dict_b, isi_dict_i, isi_dict_s, isi_dict_l, isi_dict_t, isi_dict_d, notD_b, isNone_n, isNone_s, isNone_i, isNone_t, isNone_l, kPure_ap, pickD_1, pickD_2, pickD_3, pickD_4, appD_l, extD_l, List.getElem?_cons_zero, List.getElem?_cons_succ, List.set_cons_zero, List.set_cons_succ, initE, Option.map_some, List.replicate, posT, getO, fillA, putA, Bool.not_true, Bool.not_false, if_true, if_false, Bool.false_eq_true, Option.bind_some, wipeE, restE, reduceIte, List.length_cons, List.length_nil, fwp_mk, fwp_mko, Nat.reduceAdd, Nat.reduceSub, List.append_nil, List.nil_append, List.cons_append, List.reverse_cons, List.reverse_nil, Int.reduceLT, Int.reduceLE, Int.reduceAdd, Int.reduceMul, Int.reduceNeg, decide_true, decide_false, decide_eq_true_eq, Int.reduceEq, Option.map_none, and_self, and_true, true_and, Bool.true_and, Bool.false_and, Bool.or_true, Bool.or_false, List.isEmpty_nil, List.isEmpty_cons, List.getElem?_nil, Option.isSome_some, Int.cast_ofNat_Int, Bool.not_eq_true, Bool.and_true, Bool.and_self, Bool.true_or, Bool.false_or, Bool.and_false, Int.reduceSub, Int.natCast_zero, Int.reduceGT, Int.reduceGE, ne_eq, not_true_eq_false, not_false_eq_true]
  refine wp_forL (fun ds e => (∀ d ∈ ds, ∃ t : Int, d = .int t ∧ 0 ≤ t ∧ t ≤ 1) ∧ ∃ s1 s2 s3, e = [.fz (.list (ns.map PyData.int)), s1, s2, s3]) ?_ ?_ _ _ ⟨fun d hd => ?_, _, _, _, rfl⟩
  · intro d rest e0 hI
    obtain ⟨hds, s1, s2, s3, he⟩ := hI
    obtain ⟨t, ht, t0, t1⟩ := hds d List.mem_cons_self
    rw [he, ht]
    simp -implicitDefEqProofs only [owp_ok, fwp_ok, onS_s, onS_n, gR_f, gQ_f, gQ_o, gL_f, gL_o, gO_o, opL_op, wp_ret, kE_ap, kSet_ap, ifM_t, ifM_f, wp_vr, wp_vq, wp_vl, wp_vo, kBin2_ap, kBin1_ap, wp_bin, kUna_ap, wp_una, kBL2_ap, kBL1_ap, kBL0_ap, wp_binL, wp_seq0, kS2_ap, kS1_ap, wp_seq1, kTup_ap, wp_tup, kLst_ap, wp_lst, wp_seqP0, kP3_ap, kP2_ap, kP1_ap, wp_seqP1, wp_noX, kDsp_ap, wp_dsp, kBool_ap, wp_boolOf, kN_ap, kNN_ap, wp_isN, wp_isNN, kC4_ap, kC3_ap, wp_bl, kC2_ap, kC1_ap, wp_chn, kTru_ap, wp_truM, kNot_ap, wp_notM, kIf_ap, wp_andM, wp_orM, wp_ite, wp_if, kAndV2_ap, kAndV_ap, wp_andV, kOrV2_ap, kOrV_ap, wp_orV, kNotV2_ap, kNotV_ap, wp_notV, wp_part0, kPart_ap, wp_part1, kSl2_ap, kSl1_ap, kSl0_ap, wp_sl, kSL3_ap, kSL2_ap, kSL1_ap, kSL0_ap, wp_slL, wp_evA0, kA1_ap, wp_evAv, kA2_ap, wp_evAio, kCall4_ap, kCall3_ap, kCall2_ap, kCall1_ap, wp_call, kK2_ap, kK1_ap, wp_callK, wp_nx, wp_bk, wp_ct, wp_no, kSeq_nx, kSeq_rt, kSeq_ro, kSeq_bk, kSeq_ct, wp_seq, kNx_ap, kExp_ap, kRt_ap, kRo_ap, wp_expr, wp_rt, wp_rtN, wp_ro, kAsg_ap, wp_asg, wp_asgO, kI3_ap, kI2_ap, kI1_ap, kI0b_ap, kI0_ap, wp_setIx, kM2_ap, kM1_ap, kM0_ap, wp_mt, kIt_ap, kIts_ap, wp_walkA, wp_range1, wp_range2, wp_range3, wp_zipM, wp_enumM, kFor_ap, wp_for, kTurn_nx, kTurn_ct, kTurn_bk, kTurn_rt, kTurn_ro, kElt_ap, kCond_t, kCond_f, wp_lc, endF_rt, endF_nx, endO_ro, kBody_ap, addD_i, addD_s, addD_t, addD_l, subD_i, mulD_i, modD_i, ltD_i, ltD_s, leD_i, gtD_i, geD_i, negD_i, isBD_b, isnBD_b, truD_b, truD_i, truD_n, truD_l, truD_t, lenD_l, lenD_t, lenD_s, intD_i, intD_b, absD_i, listD_l, listD_t, tupD_l, tupD_t, max2D_i, min2D_i, isiD_d, revD_l, slD_l, slD_t, itemsA_l, itemsA_t, itemsA_s, ixD_l, ixD_t, zpD_l, zpD_t, setT_t, setTr_t, setNs_0, setNs_1, setN_z, setN_s, setO_z, setO_s, atI_z, atI_1, atI_2, atI_3, atI_4, setIx_0, setIx_1, setIx_2, sumD_map, rg1_i, rg2_i, eqD_i, neD_i, isi_int_n, isi_int_b, isi_int_i, isi_int_s, isi_int_l, isi_int_t, isi_int_d, isi_bool_n, isi_bool_b, isi_bool_i, isi_bool_s, isi_bool_l, isi_bool_t, isi_bool_d, isi_str_n, isi_str_b, isi_str_i, isi_str_s, isi_str_l, isi_str_t, isi_str_d, isi_list_n, isi_list_b, isi_list_i, isi_list_s, isi_list_l, isi_list_t, isi_list_d, isi_tuple_n, isi_tuple_b, isi_tuple_i, isi_tuple_s, isi_tuple_l, isi_tuple_t, isi_tuple_d, isi_dict_n, isi_dict_b, isi_dict_i, isi_dict_s, isi_dict_l, isi_dict_t, isi_dict_d, notD_b, isNone_n, isNone_s, isNone_i, isNone_t, isNone_l, kPure_ap, pickD_1, pickD_2, pickD_3, pickD_4, appD_l, extD_l, List.getElem?_cons_zero, List.getElem?_cons_succ, List.set_cons_zero, List.set_cons_succ, initE, Option.map_some, List.replicate, posT, getO, fillA, putA, Bool.not_true, Bool.not_false, if_true, if_false, Bool.false_eq_true, Option.bind_some, wipeE, restE, reduceIte, List.length_cons, List.length_nil, fwp_mk, fwp_mko, Nat.reduceAdd, Nat.reduceSub, List.append_nil, List.nil_append, List.cons_append, List.reverse_cons, List.reverse_nil, Int.reduceLT, Int.reduceLE, Int.reduceAdd, Int.reduceMul, Int.reduceNeg, decide_true, decide_false, decide_eq_true_eq, Int.reduceEq, Option.map_none, and_self, and_true, true_and, Bool.true_and, Bool.false_and, Bool.or_true, Bool.or_false, List.isEmpty_nil, List.isEmpty_cons, List.getElem?_nil, Option.isSome_some, Int.cast_ofNat_Int, Bool.not_eq_true, Bool.and_true, Bool.and_self, Bool.true_or, Bool.false_or, Bool.and_false, Int.reduceSub, Int.natCast_zero, Int.reduceGT, Int.reduceGE, ne_eq, not_true_eq_false, not_false_eq_true]
    refine (pot_ok ns t t0 t1).mono ?_
    intro p os hx
    obtain ⟨hp, e2⟩ := hx
    rw [e2]
    simp -implicitDefEqProofs only [owp_ok, fwp_ok, onS_s, onS_n, gR_f, gQ_f, gQ_o, gL_f, gL_o, gO_o, opL_op, wp_ret, kE_ap, kSet_ap, ifM_t, ifM_f, wp_vr, wp_vq, wp_vl, wp_vo, kBin2_ap, kBin1_ap, wp_bin, kUna_ap, wp_una, kBL2_ap, kBL1_ap, kBL0_ap, wp_binL, wp_seq0, kS2_ap, kS1_ap, wp_seq1, kTup_ap, wp_tup, kLst_ap, wp_lst, wp_seqP0, kP3_ap, kP2_ap, kP1_ap, wp_seqP1, wp_noX, kDsp_ap, wp_dsp, kBool_ap, wp_boolOf, kN_ap, kNN_ap, wp_isN, wp_isNN, kC4_ap, kC3_ap, wp_bl, kC2_ap, kC1_ap, wp_chn, kTru_ap, wp_truM, kNot_ap, wp_notM, kIf_ap, wp_andM, wp_orM, wp_ite, wp_if, kAndV2_ap, kAndV_ap, wp_andV, kOrV2_ap, kOrV_ap, wp_orV, kNotV2_ap, kNotV_ap, wp_notV, wp_part0, kPart_ap, wp_part1, kSl2_ap, kSl1_ap, kSl0_ap, wp_sl, kSL3_ap, kSL2_ap, kSL1_ap, kSL0_ap, wp_slL, wp_evA0, kA1_ap, wp_evAv, kA2_ap, wp_evAio, kCall4_ap, kCall3_ap, kCall2_ap, kCall1_ap, wp_call, kK2_ap, kK1_ap, wp_callK, wp_nx, wp_bk, wp_ct, wp_no, kSeq_nx, kSeq_rt, kSeq_ro, kSeq_bk, kSeq_ct, wp_seq, kNx_ap, kExp_ap, kRt_ap, kRo_ap, wp_expr, wp_rt, wp_rtN, wp_ro, kAsg_ap, wp_asg, wp_asgO, kI3_ap, kI2_ap, kI1_ap, kI0b_ap, kI0_ap, wp_setIx, kM2_ap, kM1_ap, kM0_ap, wp_mt, kIt_ap, kIts_ap, wp_walkA, wp_range1, wp_range2, wp_range3, wp_zipM, wp_enumM, kFor_ap, wp_for, kTurn_nx, kTurn_ct, kTurn_bk, kTurn_rt, kTurn_ro, kElt_ap, kCond_t, kCond_f, wp_lc, endF_rt, endF_nx, endO_ro, kBody_ap, addD_i, addD_s, addD_t, addD_l, subD_i, mulD_i, modD_i, ltD_i, ltD_s, leD_i, gtD_i, geD_i, negD_i, isBD_b, isnBD_b, truD_b, truD_i, truD_n, truD_l, truD_t, lenD_l, lenD_t, lenD_s, intD_i, intD_b, absD_i, listD_l, listD_t, tupD_l, tupD_t, max2D_i, min2D_i, isiD_d, revD_l, slD_l, slD_t, itemsA_l, itemsA_t, itemsA_s, ixD_l, ixD_t, zpD_l, zpD_t, setT_t, setTr_t, setNs_0, setNs_1, setN_z, setN_s, setO_z, setO_s, atI_z, atI_1, atI_2, atI_3, atI_4, setIx_0, setIx_1, setIx_2, sumD_map, rg1_i, rg2_i, eqD_i, neD_i, isi_int_n, isi_int_b, isi_int_i, isi_int_s, isi_int_l, isi_int_t, isi_int_d, isi_bool_n, isi_bool_b, isi_bool_i, isi_bool_s, isi_bool_l, isi_bool_t, isi_bool_d, isi_str_n, isi_str_b, isi_str_i, isi_str_s, isi_str_l, isi_str_t, isi_str_d, isi_list_n, isi_list_b, isi_list_i, isi_list_s, isi_list_l, isi_list_t, isi_list_d, isi_tuple_n, isi_tuple_b, isi_tuple_i, isi_tuple_s, isi_tuple_l, isi_tuple_t, isi_tuple_d, isi_dict_n, isi_dict_b, isi_dict_i, isi_dict_s, isi_dict_l, isi_dict_t, isi_dict_d, notD_b, isNone_n, isNone_s, isNone_i, isNone_t, isNone_l, kPure_ap, pickD_1, pickD_2, pickD_3, pickD_4, appD_l, extD_l, List.getElem?_cons_zero, List.getElem?_cons_succ, List.set_cons_zero, List.set_cons_succ, initE, Option.map_some, List.replicate, posT, getO, fillA, putA, Bool.not_true, Bool.not_false, if_true, if_false, Bool.false_eq_true, Option.bind_some, wipeE, restE, reduceIte, List.length_cons, List.length_nil, fwp_mk, fwp_mko, Nat.reduceAdd, Nat.reduceSub, List.append_nil, List.nil_append, List.cons_append, List.reverse_cons, List.reverse_nil, Int.reduceLT, Int.reduceLE, Int.reduceAdd, Int.reduceMul, Int.reduceNeg, decide_true, decide_false, decide_eq_true_eq, Int.reduceEq, Option.map_none, and_self, and_true, true_and, Bool.true_and, Bool.false_and, Bool.or_true, Bool.or_false, List.isEmpty_nil, List.isEmpty_cons, List.getElem?_nil, Option.isSome_some, Int.cast_ofNat_Int, Bool.not_eq_true, Bool.and_true, Bool.and_self, Bool.true_or, Bool.false_or, Bool.and_false, Int.reduceSub, Int.natCast_zero, Int.reduceGT, Int.reduceGE, ne_eq, not_true_eq_false, not_false_eq_true, rOk_s (a := 4) (by omega)]
    refine kLc_of (fun rest acc e => ∃ p' : D, e = [.fz (.list (ns.map PyData.int)), .fz (.int t), .op p', .un] ∧ PotOk (2000 * acc.length) p' ∧ acc = List.replicate acc.length (.bool true) ∧ acc.length + rest.length = 4) ?_ ?_ ?_
    · simp -implicitDefEqProofs only [owp_ok, fwp_ok, onS_s, onS_n, gR_f, gQ_f, gQ_o, gL_f, gL_o, gO_o, opL_op, wp_ret, kE_ap, kSet_ap, ifM_t, ifM_f, wp_vr, wp_vq, wp_vl, wp_vo, kBin2_ap, kBin1_ap, wp_bin, kUna_ap, wp_una, kBL2_ap, kBL1_ap, kBL0_ap, wp_binL, wp_seq0, kS2_ap, kS1_ap, wp_seq1, kTup_ap, wp_tup, kLst_ap, wp_lst, wp_seqP0, kP3_ap, kP2_ap, kP1_ap, wp_seqP1, wp_noX, kDsp_ap, wp_dsp, kBool_ap, wp_boolOf, kN_ap, kNN_ap, wp_isN, wp_isNN, kC4_ap, kC3_ap, wp_bl, kC2_ap, kC1_ap, wp_chn, kTru_ap, wp_truM, kNot_ap, wp_notM, kIf_ap, wp_andM, wp_orM, wp_ite, wp_if, kAndV2_ap, kAndV_ap, wp_andV, kOrV2_ap, kOrV_ap, wp_orV, kNotV2_ap, kNotV_ap, wp_notV, wp_part0, kPart_ap, wp_part1, kSl2_ap, kSl1_ap, kSl0_ap, wp_sl, kSL3_ap, kSL2_ap, kSL1_ap, kSL0_ap, wp_slL, wp_evA0, kA1_ap, wp_evAv, kA2_ap, wp_evAio, kCall4_ap, kCall3_ap, kCall2_ap, kCall1_ap, wp_call, kK2_ap, kK1_ap, wp_callK, wp_nx, wp_bk, wp_ct, wp_no, kSeq_nx, kSeq_rt, kSeq_ro, kSeq_bk, kSeq_ct, wp_seq, kNx_ap, kExp_ap, kRt_ap, kRo_ap, wp_expr, wp_rt, wp_rtN, wp_ro, kAsg_ap, wp_asg, wp_asgO, kI3_ap, kI2_ap, kI1_ap, kI0b_ap, kI0_ap, wp_setIx, kM2_ap, kM1_ap, kM0_ap, wp_mt, kIt_ap, kIts_ap, wp_walkA, wp_range1, wp_range2, wp_range3, wp_zipM, wp_enumM, kFor_ap, wp_for, kTurn_nx, kTurn_ct, kTurn_bk, kTurn_rt, kTurn_ro, kElt_ap, kCond_t, kCond_f, wp_lc, endF_rt, endF_nx, endO_ro, kBody_ap, addD_i, addD_s, addD_t, addD_l, subD_i, mulD_i, modD_i, ltD_i, ltD_s, leD_i, gtD_i, geD_i, negD_i, isBD_b, isnBD_b, truD_b, truD_i, truD_n, truD_l, truD_t, lenD_l, lenD_t, lenD_s, intD_i, intD_b, absD_i, listD_l, listD_t, tupD_l, tupD_t, max2D_i, min2D_i, isiD_d, revD_l, slD_l, slD_t, itemsA_l, itemsA_t, itemsA_s, ixD_l, ixD_t, zpD_l, zpD_t, setT_t, setTr_t, setNs_0, setNs_1, setN_z, setN_s, setO_z, setO_s, atI_z, atI_1, atI_2, atI_3, atI_4, setIx_0, setIx_1, setIx_2, sumD_map, rg1_i, rg2_i, eqD_i, neD_i, isi_int_n, isi_int_b, isi_int_i, isi_int_s, isi_int_l, isi_int_t, isi_int_d, isi_bool_n, isi_bool_b, isi_bool_i, isi_bool_s, isi_bool_l, isi_bool_t, isi_bool_d, isi_str_n, isi_str_b, isi_str_i, isi_str_s, isi_str_l, isi_str_t, isi_str_d, isi_list_n, isi_list_b, isi_list_i, isi_list_s, isi_list_l, isi_list_t, isi_list_d, isi_tuple_n, isi_tuple_b, isi_tuple_i, isi_tuple_s, isi_tuple_l, isi_tuple_t, isi_tuple_d, isi_dict_n, isi_dict_b, isi_dict_i, isi_dict_s, isi_dict_l, isi_dict_t, isi_dict_d, notD_b, isNone_n, isNone_s, isNone_i, isNone_t, isNone_l, kPure_ap, pickD_1, pickD_2, pickD_3, pickD_4, appD_l, extD_l, List.getElem?_cons_zero, List.getElem?_cons_succ, List.set_cons_zero, List.set_cons_succ, initE, Option.map_some, List.replicate, posT, getO, fillA, putA, Bool.not_true, Bool.not_false, if_true, if_false, Bool.false_eq_true, Option.bind_some, wipeE, restE, reduceIte, List.length_cons, List.length_nil, fwp_mk, fwp_mko, Nat.reduceAdd, Nat.reduceSub, List.append_nil, List.nil_append, List.cons_append, List.reverse_cons, List.reverse_nil, Int.reduceLT, Int.reduceLE, Int.reduceAdd, Int.reduceMul, Int.reduceNeg, decide_true, decide_false, decide_eq_true_eq, Int.reduceEq, Option.map_none, and_self, and_true, true_and, Bool.true_and, Bool.false_and, Bool.or_true, Bool.or_false, List.isEmpty_nil, List.isEmpty_cons, List.getElem?_nil, Option.isSome_some, Int.cast_ofNat_Int, Bool.not_eq_true, Bool.and_true, Bool.and_self, Bool.true_or, Bool.false_or, Bool.and_false, Int.reduceSub, Int.natCast_zero, Int.reduceGT, Int.reduceGE, ne_eq, not_true_eq_false, not_false_eq_true]
      refine ⟨p, rfl, by simpa using hp, ?_⟩
      rw [rng_len]; rfl
    · intro d rest acc e0 hI
      obtain ⟨p', he, hp', ha, hn⟩ := hI
      rw [he]
      rw [List.length_cons] at hn
      simp -implicitDefEqProofs only [owp_ok, fwp_ok, onS_s, onS_n, gR_f, gQ_f, gQ_o, gL_f, gL_o, gO_o, opL_op, wp_ret, kE_ap, kSet_ap, ifM_t, ifM_f, wp_vr, wp_vq, wp_vl, wp_vo, kBin2_ap, kBin1_ap, wp_bin, kUna_ap, wp_una, kBL2_ap, kBL1_ap, kBL0_ap, wp_binL, wp_seq0, kS2_ap, kS1_ap, wp_seq1, kTup_ap, wp_tup, kLst_ap, wp_lst, wp_seqP0, kP3_ap, kP2_ap, kP1_ap, wp_seqP1, wp_noX, kDsp_ap, wp_dsp, kBool_ap, wp_boolOf, kN_ap, kNN_ap, wp_isN, wp_isNN, kC4_ap, kC3_ap, wp_bl, kC2_ap, kC1_ap, wp_chn, kTru_ap, wp_truM, kNot_ap, wp_notM, kIf_ap, wp_andM, wp_orM, wp_ite, wp_if, kAndV2_ap, kAndV_ap, wp_andV, kOrV2_ap, kOrV_ap, wp_orV, kNotV2_ap, kNotV_ap, wp_notV, wp_part0, kPart_ap, wp_part1, kSl2_ap, kSl1_ap, kSl0_ap, wp_sl, kSL3_ap, kSL2_ap, kSL1_ap, kSL0_ap, wp_slL, wp_evA0, kA1_ap, wp_evAv, kA2_ap, wp_evAio, kCall4_ap, kCall3_ap, kCall2_ap, kCall1_ap, wp_call, kK2_ap, kK1_ap, wp_callK, wp_nx, wp_bk, wp_ct, wp_no, kSeq_nx, kSeq_rt, kSeq_ro, kSeq_bk, kSeq_ct, wp_seq, kNx_ap, kExp_ap, kRt_ap, kRo_ap, wp_expr, wp_rt, wp_rtN, wp_ro, kAsg_ap, wp_asg, wp_asgO, kI3_ap, kI2_ap, kI1_ap, kI0b_ap, kI0_ap, wp_setIx, kM2_ap, kM1_ap, kM0_ap, wp_mt, kIt_ap, kIts_ap, wp_walkA, wp_range1, wp_range2, wp_range3, wp_zipM, wp_enumM, kFor_ap, wp_for, kTurn_nx, kTurn_ct, kTurn_bk, kTurn_rt, kTurn_ro, kElt_ap, kCond_t, kCond_f, wp_lc, endF_rt, endF_nx, endO_ro, kBody_ap, addD_i, addD_s, addD_t, addD_l, subD_i, mulD_i, modD_i, ltD_i, ltD_s, leD_i, gtD_i, geD_i, negD_i, isBD_b, isnBD_b, truD_b, truD_i, truD_n, truD_l, truD_t, lenD_l, lenD_t, lenD_s, intD_i, intD_b, absD_i, listD_l, listD_t, tupD_l, tupD_t, max2D_i, min2D_i, isiD_d, revD_l, slD_l, slD_t, itemsA_l, itemsA_t, itemsA_s, ixD_l, ixD_t, zpD_l, zpD_t, setT_t, setTr_t, setNs_0, setNs_1, setN_z, setN_s, setO_z, setO_s, atI_z, atI_1, atI_2, atI_3, atI_4, setIx_0, setIx_1, setIx_2, sumD_map, rg1_i, rg2_i, eqD_i, neD_i, isi_int_n, isi_int_b, isi_int_i, isi_int_s, isi_int_l, isi_int_t, isi_int_d, isi_bool_n, isi_bool_b, isi_bool_i, isi_bool_s, isi_bool_l, isi_bool_t, isi_bool_d, isi_str_n, isi_str_b, isi_str_i, isi_str_s, isi_str_l, isi_str_t, isi_str_d, isi_list_n, isi_list_b, isi_list_i, isi_list_s, isi_list_l, isi_list_t, isi_list_d, isi_tuple_n, isi_tuple_b, isi_tuple_i, isi_tuple_s, isi_tuple_l, isi_tuple_t, isi_tuple_d, isi_dict_n, isi_dict_b, isi_dict_i, isi_dict_s, isi_dict_l, isi_dict_t, isi_dict_d, notD_b, isNone_n, isNone_s, isNone_i, isNone_t, isNone_l, kPure_ap, pickD_1, pickD_2, pickD_3, pickD_4, appD_l, extD_l, List.getElem?_cons_zero, List.getElem?_cons_succ, List.set_cons_zero, List.set_cons_succ, initE, Option.map_some, List.replicate, posT, getO, fillA, putA, Bool.not_true, Bool.not_false, if_true, if_false, Bool.false_eq_true, Option.bind_some, wipeE, restE, reduceIte, List.length_cons, List.length_nil, fwp_mk, fwp_mko, Nat.reduceAdd, Nat.reduceSub, List.append_nil, List.nil_append, List.cons_append, List.reverse_cons, List.reverse_nil, Int.reduceLT, Int.reduceLE, Int.reduceAdd, Int.reduceMul, Int.reduceNeg, decide_true, decide_false, decide_eq_true_eq, Int.reduceEq, Option.map_none, and_self, and_true, true_and, Bool.true_and, Bool.false_and, Bool.or_true, Bool.or_false, List.isEmpty_nil, List.isEmpty_cons, List.getElem?_nil, Option.isSome_some, Int.cast_ofNat_Int, Bool.not_eq_true, Bool.and_true, Bool.and_self, Bool.true_or, Bool.false_or, Bool.and_false, Int.reduceSub, Int.natCast_zero, Int.reduceGT, Int.reduceGE, ne_eq, not_true_eq_false, not_false_eq_true]
      refine (lap_ok hp' (by omega)).mono ?_
      intro d os hx
      obtain ⟨p2, e1, e2, hp2⟩ := hx
      rw [e1, e2]
      simp -implicitDefEqProofs only [owp_ok, fwp_ok, onS_s, onS_n, gR_f, gQ_f, gQ_o, gL_f, gL_o, gO_o, opL_op, wp_ret, kE_ap, kSet_ap, ifM_t, ifM_f, wp_vr, wp_vq, wp_vl, wp_vo, kBin2_ap, kBin1_ap, wp_bin, kUna_ap, wp_una, kBL2_ap, kBL1_ap, kBL0_ap, wp_binL, wp_seq0, kS2_ap, kS1_ap, wp_seq1, kTup_ap, wp_tup, kLst_ap, wp_lst, wp_seqP0, kP3_ap, kP2_ap, kP1_ap, wp_seqP1, wp_noX, kDsp_ap, wp_dsp, kBool_ap, wp_boolOf, kN_ap, kNN_ap, wp_isN, wp_isNN, kC4_ap, kC3_ap, wp_bl, kC2_ap, kC1_ap, wp_chn, kTru_ap, wp_truM, kNot_ap, wp_notM, kIf_ap, wp_andM, wp_orM, wp_ite, wp_if, kAndV2_ap, kAndV_ap, wp_andV, kOrV2_ap, kOrV_ap, wp_orV, kNotV2_ap, kNotV_ap, wp_notV, wp_part0, kPart_ap, wp_part1, kSl2_ap, kSl1_ap, kSl0_ap, wp_sl, kSL3_ap, kSL2_ap, kSL1_ap, kSL0_ap, wp_slL, wp_evA0, kA1_ap, wp_evAv, kA2_ap, wp_evAio, kCall4_ap, kCall3_ap, kCall2_ap, kCall1_ap, wp_call, kK2_ap, kK1_ap, wp_callK, wp_nx, wp_bk, wp_ct, wp_no, kSeq_nx, kSeq_rt, kSeq_ro, kSeq_bk, kSeq_ct, wp_seq, kNx_ap, kExp_ap, kRt_ap, kRo_ap, wp_expr, wp_rt, wp_rtN, wp_ro, kAsg_ap, wp_asg, wp_asgO, kI3_ap, kI2_ap, kI1_ap, kI0b_ap, kI0_ap, wp_setIx, kM2_ap, kM1_ap, kM0_ap, wp_mt, kIt_ap, kIts_ap, wp_walkA, wp_range1, wp_range2, wp_range3, wp_zipM, wp_enumM, kFor_ap, wp_for, kTurn_nx, kTurn_ct, kTurn_bk, kTurn_rt, kTurn_ro, kElt_ap, kCond_t, kCond_f, wp_lc, endF_rt, endF_nx, endO_ro, kBody_ap, addD_i, addD_s, addD_t, addD_l, subD_i, mulD_i, modD_i, ltD_i, ltD_s, leD_i, gtD_i, geD_i, negD_i, isBD_b, isnBD_b, truD_b, truD_i, truD_n, truD_l, truD_t, lenD_l, lenD_t, lenD_s, intD_i, intD_b, absD_i, listD_l, listD_t, tupD_l, tupD_t, max2D_i, min2D_i, isiD_d, revD_l, slD_l, slD_t, itemsA_l, itemsA_t, itemsA_s, ixD_l, ixD_t, zpD_l, zpD_t, setT_t, setTr_t, setNs_0, setNs_1, setN_z, setN_s, setO_z, setO_s, atI_z, atI_1, atI_2, atI_3, atI_4, setIx_0, setIx_1, setIx_2, sumD_map, rg1_i, rg2_i, eqD_i, neD_i, isi_int_n, isi_int_b, isi_int_i, isi_int_s, isi_int_l, isi_int_t, isi_int_d, isi_bool_n, isi_bool_b, isi_bool_i, isi_bool_s, isi_bool_l, isi_bool_t, isi_bool_d, isi_str_n, isi_str_b, isi_str_i, isi_str_s, isi_str_l, isi_str_t, isi_str_d, isi_list_n, isi_list_b, isi_list_i, isi_list_s, isi_list_l, isi_list_t, isi_list_d, isi_tuple_n, isi_tuple_b, isi_tuple_i, isi_tuple_s, isi_tuple_l, isi_tuple_t, isi_tuple_d, isi_dict_n, isi_dict_b, isi_dict_i, isi_dict_s, isi_dict_l, isi_dict_t, isi_dict_d, notD_b, isNone_n, isNone_s, isNone_i, isNone_t, isNone_l, kPure_ap, pickD_1, pickD_2, pickD_3, pickD_4, appD_l, extD_l, List.getElem?_cons_zero, List.getElem?_cons_succ, List.set_cons_zero, List.set_cons_succ, initE, Option.map_some, List.replicate, posT, getO, fillA, putA, Bool.not_true, Bool.not_false, if_true, if_false, Bool.false_eq_true, Option.bind_some, wipeE, restE, reduceIte, List.length_cons, List.length_nil, fwp_mk, fwp_mko, Nat.reduceAdd, Nat.reduceSub, List.append_nil, List.nil_append, List.cons_append, List.reverse_cons, List.reverse_nil, Int.reduceLT, Int.reduceLE, Int.reduceAdd, Int.reduceMul, Int.reduceNeg, decide_true, decide_false, decide_eq_true_eq, Int.reduceEq, Option.map_none, and_self, and_true, true_and, Bool.true_and, Bool.false_and, Bool.or_true, Bool.or_false, List.isEmpty_nil, List.isEmpty_cons, List.getElem?_nil, Option.isSome_some, Int.cast_ofNat_Int, Bool.not_eq_true, Bool.and_true, Bool.and_self, Bool.true_or, Bool.false_or, Bool.and_false, Int.reduceSub, Int.natCast_zero, Int.reduceGT, Int.reduceGE, ne_eq, not_true_eq_false, not_false_eq_true, kCond_t, kElt_ap]
      refine ⟨p2, rfl, ?_, ?_, by rw [List.length_append, List.length_cons, List.length_nil]; omega⟩
      · refine hp2.mono ?_
        rw [List.length_append, List.length_cons, List.length_nil]; omega
      · rw [List.length_append, List.length_cons, List.length_nil, List.replicate_succ', ← ha]
    · intro acc e0 hI
      obtain ⟨p', he, hp', ha, hn⟩ := hI
      rw [he]
      rw [List.length_nil] at hn
      refine ⟨by rw [sizeLine_eq]; omega, ?_⟩
      rw [ha, show acc.length = 4 by omega]
      have hall : allD (.list [.bool true, .bool true, .bool true, .bool true]) = some (.bool true) := rfl
      simp -implicitDefEqProofs only [owp_ok, fwp_ok, onS_s, onS_n, gR_f, gQ_f, gQ_o, gL_f, gL_o, gO_o, opL_op, wp_ret, kE_ap, kSet_ap, ifM_t, ifM_f, wp_vr, wp_vq, wp_vl, wp_vo, kBin2_ap, kBin1_ap, wp_bin, kUna_ap, wp_una, kBL2_ap, kBL1_ap, kBL0_ap, wp_binL, wp_seq0, kS2_ap, kS1_ap, wp_seq1, kTup_ap, wp_tup, kLst_ap, wp_lst, wp_seqP0, kP3_ap, kP2_ap, kP1_ap, wp_seqP1, wp_noX, kDsp_ap, wp_dsp, kBool_ap, wp_boolOf, kN_ap, kNN_ap, wp_isN, wp_isNN, kC4_ap, kC3_ap, wp_bl, kC2_ap, kC1_ap, wp_chn, kTru_ap, wp_truM, kNot_ap, wp_notM, kIf_ap, wp_andM, wp_orM, wp_ite, wp_if, kAndV2_ap, kAndV_ap, wp_andV, kOrV2_ap, kOrV_ap, wp_orV, kNotV2_ap, kNotV_ap, wp_notV, wp_part0, kPart_ap, wp_part1, kSl2_ap, kSl1_ap, kSl0_ap, wp_sl, kSL3_ap, kSL2_ap, kSL1_ap, kSL0_ap, wp_slL, wp_evA0, kA1_ap, wp_evAv, kA2_ap, wp_evAio, kCall4_ap, kCall3_ap, kCall2_ap, kCall1_ap, wp_call, kK2_ap, kK1_ap, wp_callK, wp_nx, wp_bk, wp_ct, wp_no, kSeq_nx, kSeq_rt, kSeq_ro, kSeq_bk, kSeq_ct, wp_seq, kNx_ap, kExp_ap, kRt_ap, kRo_ap, wp_expr, wp_rt, wp_rtN, wp_ro, kAsg_ap, wp_asg, wp_asgO, kI3_ap, kI2_ap, kI1_ap, kI0b_ap, kI0_ap, wp_setIx, kM2_ap, kM1_ap, kM0_ap, wp_mt, kIt_ap, kIts_ap, wp_walkA, wp_range1, wp_range2, wp_range3, wp_zipM, wp_enumM, kFor_ap, wp_for, kTurn_nx, kTurn_ct, kTurn_bk, kTurn_rt, kTurn_ro, kElt_ap, kCond_t, kCond_f, wp_lc, endF_rt, endF_nx, endO_ro, kBody_ap, addD_i, addD_s, addD_t, addD_l, subD_i, mulD_i, modD_i, ltD_i, ltD_s, leD_i, gtD_i, geD_i, negD_i, isBD_b, isnBD_b, truD_b, truD_i, truD_n, truD_l, truD_t, lenD_l, lenD_t, lenD_s, intD_i, intD_b, absD_i, listD_l, listD_t, tupD_l, tupD_t, max2D_i, min2D_i, isiD_d, revD_l, slD_l, slD_t, itemsA_l, itemsA_t, itemsA_s, ixD_l, ixD_t, zpD_l, zpD_t, setT_t, setTr_t, setNs_0, setNs_1, setN_z, setN_s, setO_z, setO_s, atI_z, atI_1, atI_2, atI_3, atI_4, setIx_0, setIx_1, setIx_2, sumD_map, rg1_i, rg2_i, eqD_i, neD_i, isi_int_n, isi_int_b, isi_int_i, isi_int_s, isi_int_l, isi_int_t, isi_int_d, isi_bool_n, isi_bool_b, isi_bool_i, isi_bool_s, isi_bool_l, isi_bool_t, isi_bool_d, isi_str_n, isi_str_b, isi_str_i, isi_str_s, isi_str_l, isi_str_t, isi_str_d, isi_list_n, isi_list_b, isi_list_i, isi_list_s, isi_list_l, isi_list_t, isi_list_d, isi_tuple_n, isi_tuple_b, isi_tuple_i, isi_tuple_s, isi_tuple_l, isi_tuple_t, isi_tuple_d, isi_dict_n, isi_dict_b, isi_dict_i, isi_dict_s, isi_dict_l, isi_dict_t, isi_dict_d, notD_b, isNone_n, isNone_s, isNone_i, isNone_t, isNone_l, kPure_ap, pickD_1, pickD_2, pickD_3, pickD_4, appD_l, extD_l, List.getElem?_cons_zero, List.getElem?_cons_succ, List.set_cons_zero, List.set_cons_succ, initE, Option.map_some, List.replicate, posT, getO, fillA, putA, Bool.not_true, Bool.not_false, if_true, if_false, Bool.false_eq_true, Option.bind_some, wipeE, restE, reduceIte, List.length_cons, List.length_nil, fwp_mk, fwp_mko, Nat.reduceAdd, Nat.reduceSub, List.append_nil, List.nil_append, List.cons_append, List.reverse_cons, List.reverse_nil, Int.reduceLT, Int.reduceLE, Int.reduceAdd, Int.reduceMul, Int.reduceNeg, decide_true, decide_false, decide_eq_true_eq, Int.reduceEq, Option.map_none, and_self, and_true, true_and, Bool.true_and, Bool.false_and, Bool.or_true, Bool.or_false, List.isEmpty_nil, List.isEmpty_cons, List.getElem?_nil, Option.isSome_some, Int.cast_ofNat_Int, Bool.not_eq_true, Bool.and_true, Bool.and_self, Bool.true_or, Bool.false_or, Bool.and_false, Int.reduceSub, Int.natCast_zero, Int.reduceGT, Int.reduceGE, ne_eq, not_true_eq_false, not_false_eq_true, hall, kTurn_nx]
      exact ⟨fun d hd => hds d (List.mem_cons_of_mem _ hd), _, _, _, rfl⟩
  · intro e0 hI
    obtain ⟨_, s1, s2, s3, he⟩ := hI
    rw [he]
    simp -implicitDefEqProofs only [owp_ok, fwp_ok, onS_s, onS_n, gR_f, gQ_f, gQ_o, gL_f, gL_o, gO_o, opL_op, wp_ret, kE_ap, kSet_ap, ifM_t, ifM_f, wp_vr, wp_vq, wp_vl, wp_vo, kBin2_ap, kBin1_ap, wp_bin, kUna_ap, wp_una, kBL2_ap, kBL1_ap, kBL0_ap, wp_binL, wp_seq0, kS2_ap, kS1_ap, wp_seq1, kTup_ap, wp_tup, kLst_ap, wp_lst, wp_seqP0, kP3_ap, kP2_ap, kP1_ap, wp_seqP1, wp_noX, kDsp_ap, wp_dsp, kBool_ap, wp_boolOf, kN_ap, kNN_ap, wp_isN, wp_isNN, kC4_ap, kC3_ap, wp_bl, kC2_ap, kC1_ap, wp_chn, kTru_ap, wp_truM, kNot_ap, wp_notM, kIf_ap, wp_andM, wp_orM, wp_ite, wp_if, kAndV2_ap, kAndV_ap, wp_andV, kOrV2_ap, kOrV_ap, wp_orV, kNotV2_ap, kNotV_ap, wp_notV, wp_part0, kPart_ap, wp_part1, kSl2_ap, kSl1_ap, kSl0_ap, wp_sl, kSL3_ap, kSL2_ap, kSL1_ap, kSL0_ap, wp_slL, wp_evA0, kA1_ap, wp_evAv, kA2_ap, wp_evAio, kCall4_ap, kCall3_ap, kCall2_ap, kCall1_ap, wp_call, kK2_ap, kK1_ap, wp_callK, wp_nx, wp_bk, wp_ct, wp_no, kSeq_nx, kSeq_rt, kSeq_ro, kSeq_bk, kSeq_ct, wp_seq, kNx_ap, kExp_ap, kRt_ap, kRo_ap, wp_expr, wp_rt, wp_rtN, wp_ro, kAsg_ap, wp_asg, wp_asgO, kI3_ap, kI2_ap, kI1_ap, kI0b_ap, kI0_ap, wp_setIx, kM2_ap, kM1_ap, kM0_ap, wp_mt, kIt_ap, kIts_ap, wp_walkA, wp_range1, wp_range2, wp_range3, wp_zipM, wp_enumM, kFor_ap, wp_for, kTurn_nx, kTurn_ct, kTurn_bk, kTurn_rt, kTurn_ro, kElt_ap, kCond_t, kCond_f, wp_lc, endF_rt, endF_nx, endO_ro, kBody_ap, addD_i, addD_s, addD_t, addD_l, subD_i, mulD_i, modD_i, ltD_i, ltD_s, leD_i, gtD_i, geD_i, negD_i, isBD_b, isnBD_b, truD_b, truD_i, truD_n, truD_l, truD_t, lenD_l, lenD_t, lenD_s, intD_i, intD_b, absD_i, listD_l, listD_t, tupD_l, tupD_t, max2D_i, min2D_i, isiD_d, revD_l, slD_l, slD_t, itemsA_l, itemsA_t, itemsA_s, ixD_l, ixD_t, zpD_l, zpD_t, setT_t, setTr_t, setNs_0, setNs_1, setN_z, setN_s, setO_z, setO_s, atI_z, atI_1, atI_2, atI_3, atI_4, setIx_0, setIx_1, setIx_2, sumD_map, rg1_i, rg2_i, eqD_i, neD_i, isi_int_n, isi_int_b, isi_int_i, isi_int_s, isi_int_l, isi_int_t, isi_int_d, isi_bool_n, isi_bool_b, isi_bool_i, isi_bool_s, isi_bool_l, isi_bool_t, isi_bool_d, isi_str_n, isi_str_b, isi_str_i, isi_str_s, isi_str_l, isi_str_t, isi_str_d, isi_list_n, isi_list_b, isi_list_i, isi_list_s, isi_list_l, isi_list_t, isi_list_d, isi_tuple_n, isi_tuple_b, isi_tuple_i, isi_tuple_s, isi_tuple_l, isi_tuple_t, isi_tuple_d, isi_dict_n, isi_dict_b, isi_dict_i, isi_dict_s, isi_dict_l, isi_dict_t, isi_dict_d, notD_b, isNone_n, isNone_s, isNone_i, isNone_t, isNone_l, kPure_ap, pickD_1, pickD_2, pickD_3, pickD_4, appD_l, extD_l, List.getElem?_cons_zero, List.getElem?_cons_succ, List.set_cons_zero, List.set_cons_succ, initE, Option.map_some, List.replicate, posT, getO, fillA, putA, Bool.not_true, Bool.not_false, if_true, if_false, Bool.false_eq_true, Option.bind_some, wipeE, restE, reduceIte, List.length_cons, List.length_nil, fwp_mk, fwp_mko, Nat.reduceAdd, Nat.reduceSub, List.append_nil, List.nil_append, List.cons_append, List.reverse_cons, List.reverse_nil, Int.reduceLT, Int.reduceLE, Int.reduceAdd, Int.reduceMul, Int.reduceNeg, decide_true, decide_false, decide_eq_true_eq, Int.reduceEq, Option.map_none, and_self, and_true, true_and, Bool.true_and, Bool.false_and, Bool.or_true, Bool.or_false, List.isEmpty_nil, List.isEmpty_cons, List.getElem?_nil, Option.isSome_some, Int.cast_ofNat_Int, Bool.not_eq_true, Bool.and_true, Bool.and_self, Bool.true_or, Bool.false_or, Bool.and_false, Int.reduceSub, Int.natCast_zero, Int.reduceGT, Int.reduceGE, ne_eq, not_true_eq_false, not_false_eq_true]
  · obtain ⟨t, e, t0, t1⟩ := rng_mem hd
    exact ⟨t, e, t0, by rcases hk with rfl | rfl <;> omega⟩
end Vk10

open PySem PySem.W PyProof.Rows
set_option maxHeartbeats 0 in
theorem PySem.Challenge.cw_kerbtruth_k10_signs_hour_by_hour_holds : PySem.Challenge.rw_kerbtruth_k10_signs_hour_by_hour.Holds := by
  w_on; o_law; k_head; (case hw => w_witness2)
  k_fill
  refine ZZ.walkG (n := 63) (k := 11) (st := Vk10.st_law) (x := "script") (FL := Vk10.F_law) rfl (by decide) rfl ⟨rfl, by decide, by decide⟩ (fun w h Y => PySem.W.kIn_of Y) ?F Vk10.good
  case F =>
    intro w mg fa h Y KX G hmg
    refine' (Vk10.all_mk KX G hmg ?a1 ?l1 ?c1 ?k1 ?a2 ?l2 ?c2 ?k2 ?a3 ?l3 ?c3 ?k3 ?a4 ?l4 ?c4 ?k4 ?a5 ?l5 ?c5 ?k5 ?a6 ?l6 ?c6 ?k6 ?a7 ?l7 ?c7 ?k7 ?a8 ?l8 ?c8 ?k8 ?a9 ?l9 ?c9 ?k9 ?a10 ?l10 ?c10 ?k10 ?a11 ?l11 ?c11 ?k11 ?a12 ?l12 ?c12 ?k12 ?a13 ?l13 ?c13 ?k13 ?a14 ?l14 ?c14 ?k14 ?a15 ?l15 ?c15 ?k15 ?a16 ?l16 ?c16 ?k16 ?a17 ?l17 ?c17 ?k17 ?a18 ?l18 ?c18 ?k18 ?a19 ?l19 ?c19 ?k19 ?a20 ?l20 ?c20 ?k20 ?a21 ?l21 ?c21 ?k21 ?a22 ?l22 ?c22 ?k22 ?a23 ?l23 ?c23 ?k23 ?a24 ?l24 ?c24 ?k24 ?a25 ?l25 ?c25 ?k25 ?a26 ?l26 ?c26 ?k26 ?a27 ?l27 ?c27 ?k27 ?a28 ?l28 ?c28 ?k28 ?a29 ?l29 ?c29 ?k29 ?a30 ?l30 ?c30 ?k30 ?a31 ?l31 ?c31 ?k31 ?a32 ?l32 ?c32 ?k32 ?a33 ?l33 ?c33 ?k33 ?a34 ?l34 ?c34 ?k34 ?z_abs ?z_all ?z_any ?z_bool ?z_int ?z_isinstance ?z_len ?z_list ?z_max ?z_min ?z_range ?z_repr ?z_str ?z_sum ?z_tuple ?z_zip ?g_MOST_SIGNS ?g_LETTERS ?g_FIGURES ?g_MOST_KINDS ?g_MOST_LIMIT ?g_MOST_GONE ?g_DAYS ?g_ANY ?g_PLAIN ?g_FEAST ?g_EVE ?g_MOST_HOURS ?g_MOST_ROWS ?g_MOST_FEASTS ?g_LAST_DAY ?g_LAST_TICK ?g_FREE).2
    (case a1 => k_is)
    (case l1 => k_is)
    (case c1 => k_is)
    (case k1 => k_is)
    (case a2 => k_is)
    (case l2 => k_is)
    (case c2 => k_is)
    (case k2 => k_is)
    (case a3 => k_is)
    (case l3 => k_is)
    (case c3 => k_is)
    (case k3 => k_is)
    (case a4 => k_is)
    (case l4 => k_is)
    (case c4 => k_is)
    (case k4 => k_is)
    (case a5 => k_is)
    (case l5 => k_is)
    (case c5 => k_is)
    (case k5 => k_is)
    (case a6 => k_is)
    (case l6 => k_is)
    (case c6 => k_is)
    (case k6 => k_is)
    (case a7 => k_is)
    (case l7 => k_is)
    (case c7 => k_is)
    (case k7 => k_is)
    (case a8 => k_is)
    (case l8 => k_is)
    (case c8 => k_is)
    (case k8 => k_is)
    (case a9 => k_is)
    (case l9 => k_is)
    (case c9 => k_is)
    (case k9 => k_is)
    (case a10 => k_is)
    (case l10 => k_is)
    (case c10 => k_is)
    (case k10 => k_is)
    (case a11 => k_is)
    (case l11 => k_is)
    (case c11 => k_is)
    (case k11 => k_is)
    (case a12 => k_is)
    (case l12 => k_is)
    (case c12 => k_is)
    (case k12 => k_is)
    (case a13 => k_is)
    (case l13 => k_is)
    (case c13 => k_is)
    (case k13 => k_is)
    (case a14 => k_is)
    (case l14 => k_is)
    (case c14 => k_is)
    (case k14 => k_is)
    (case a15 => k_is)
    (case l15 => k_is)
    (case c15 => k_is)
    (case k15 => k_is)
    (case a16 => k_is)
    (case l16 => k_is)
    (case c16 => k_is)
    (case k16 => k_is)
    (case a17 => k_is)
    (case l17 => k_is)
    (case c17 => k_is)
    (case k17 => k_is)
    (case a18 => k_is)
    (case l18 => k_is)
    (case c18 => k_is)
    (case k18 => k_is)
    (case a19 => k_is)
    (case l19 => k_is)
    (case c19 => k_is)
    (case k19 => k_is)
    (case a20 => k_is)
    (case l20 => k_is)
    (case c20 => k_is)
    (case k20 => k_is)
    (case a21 => k_is)
    (case l21 => k_is)
    (case c21 => k_is)
    (case k21 => k_is)
    (case a22 => k_is)
    (case l22 => k_is)
    (case c22 => k_is)
    (case k22 => k_is)
    (case a23 => k_is)
    (case l23 => k_is)
    (case c23 => k_is)
    (case k23 => k_is)
    (case a24 => k_is)
    (case l24 => k_is)
    (case c24 => k_is)
    (case k24 => k_is)
    (case a25 => k_is)
    (case l25 => k_is)
    (case c25 => k_is)
    (case k25 => k_is)
    (case a26 => k_is)
    (case l26 => k_is)
    (case c26 => k_is)
    (case k26 => k_is)
    (case a27 => k_is)
    (case l27 => k_is)
    (case c27 => k_is)
    (case k27 => k_is)
    (case a28 => k_is)
    (case l28 => k_is)
    (case c28 => k_is)
    (case k28 => k_is)
    (case a29 => k_is)
    (case l29 => k_is)
    (case c29 => k_is)
    (case k29 => k_is)
    (case a30 => k_is)
    (case l30 => k_is)
    (case c30 => k_is)
    (case k30 => k_is)
    (case a31 => k_is)
    (case l31 => k_is)
    (case c31 => k_is)
    (case k31 => k_is)
    (case a32 => k_is)
    (case l32 => k_is)
    (case c32 => k_is)
    (case k32 => k_is)
    (case a33 => k_is)
    (case l33 => k_is)
    (case c33 => k_is)
    (case k33 => k_is)
    (case a34 => k_is)
    (case l34 => k_is)
    (case c34 => k_is)
    (case k34 => k_is)
    (case z_abs => k_is)
    (case z_all => k_is)
    (case z_any => k_is)
    (case z_bool => k_is)
    (case z_int => k_is)
    (case z_isinstance => k_is)
    (case z_len => k_is)
    (case z_list => k_is)
    (case z_max => k_is)
    (case z_min => k_is)
    (case z_range => k_is)
    (case z_repr => k_is)
    (case z_str => k_is)
    (case z_sum => k_is)
    (case z_tuple => k_is)
    (case z_zip => k_is)
    (case g_MOST_SIGNS => k_is)
    (case g_LETTERS => k_is)
    (case g_FIGURES => k_is)
    (case g_MOST_KINDS => k_is)
    (case g_MOST_LIMIT => k_is)
    (case g_MOST_GONE => k_is)
    (case g_DAYS => k_is)
    (case g_ANY => k_is)
    (case g_PLAIN => k_is)
    (case g_FEAST => k_is)
    (case g_EVE => k_is)
    (case g_MOST_HOURS => k_is)
    (case g_MOST_ROWS => k_is)
    (case g_MOST_FEASTS => k_is)
    (case g_LAST_DAY => k_is)
    (case g_LAST_TICK => k_is)
    (case g_FREE => k_is)
