import PyProof.Rows.All
import Wide.All
import OpenK.AllK
import Wide.FinOn
import HandS.ForMost
import HandS.EndBits
import HandS.Flow
import HandS.Conv
import HandS.Style
import HandS.TupAny
import HandS.TupMul
import HandS.IsInst
import HandS.Wide
import HandS.Defaults
import HandS.WordsExc
import HandS.Lambda
import HandS.NoneIn
import HandS.Dict
import PyProof.P3In
import HandS.Walk
import HandS.Zip
import PyProof.ReprRoads
import HandS.RaiseMore
import KE.SortData
import HandS.Sort
import HandS.SortRule
import HandS.SetFor
import HandS.Strs
import KE.DataMinMax
import HandS.Text
import KE.KRevSl
import KE.SortKeyHeap
import KE.KSortKey
import KE.KNest
import HandS.EndTab
import HandS.More
import HandS.Small
import HandS.Star
import HandS.DictComp
import PySem.Challenge.RW_kerbtruth_k21_whole_begins_that_changes
set_option Elab.async false
set_option linter.all false
set_option maxRecDepth 100000
set_option maxHeartbeats 4000000
namespace ZZ
open PySem PySem.Spec L2
abbrev SS := L2.St
/-- the tables of code objects that are kept in sight, with the names of what they hold -/
class TabC where
  T : List (Addr × Str)
/-- none, where nothing is told -/
instance (priority := low) tabNone : TabC := ⟨[]⟩
def MutZ : Option HO → Prop
  | some (.lst _) => True
  | some (.dK _) => True
  | _ => False
theorem MutZ.mut {o : Option HO} (h : MutZ o) : Mut o := by
  cases o with
  | none => exact h
  | some u => cases u <;> first | trivial | exact h.elim
/-- what is kept: the object, or a table that is a table still -/
def Stay (o : HO) (u : Option HO) : Prop := u = some o ∨ ∃ ps ps', o = .tbl ps ∧ u = some (.tbl ps')
theorem Stay.refl (o : HO) : Stay o (some o) := .inl rfl
theorem Stay.mut {o : HO} {u : Option HO} (h : Stay o u) (m : MutZ (some o)) : u = some o := by
  rcases h with h | ⟨ps, ps', h, _⟩
  · exact h
  · rw [h] at m; exact m.elim
theorem Stay.is {o : HO} {u : Option HO} (h : Stay o u) : ∃ v, u = some v := by
  rcases h with h | ⟨ps, ps', _, h⟩ <;> exact ⟨_, h⟩
theorem Stay.trans {o : HO} {u v : Option HO} (h : Stay o u) (k : ∀ x, u = some x → Stay x v) : Stay o v := by
  rcases h with h | ⟨ps, ps', h1, h2⟩
  · exact k o h
  · rcases k _ h2 with q | ⟨qs, qs', q1, q2⟩
    · exact .inr ⟨ps, ps', h1, q⟩
    · exact .inr ⟨ps, qs', h1, q2⟩

/-! ### outcomes -/
abbrev D := PyData
inductive Sl where
  | un | fz (d : D) | op (d : D)
  /-- an open dict among whose keys is None -/
  | nd (ps : List (D × D))
abbrev En := List Sl
structure Exn where
  cls : Str
  val : D
inductive Out (α : Type) where
  | ok (a : α) (e : En) | exc (x : Exn) (e : En) | no
abbrev M (α : Type) := En → Out α
def bnd {α β : Type} (m : M α) (f : α → M β) : M β := fun e => match m e with
  | .ok a e1 => f a e1
  | .exc x e1 => .exc x e1
  | .no => .no
def ret {α : Type} (a : α) : M α := fun e => .ok a e
def lft {α : Type} (o : Option α) : M α := fun e => match o with
  | some a => .ok a e
  | none => .no

/-! ### what stands for data -/
def FzL (K : PySem.W.Frag) (H : Hp) (a : Addr) (xs : List V) : Prop :=
  (∃ o, H a = some (.frz o (.lst xs))) ∨
    ∃ (its : Array Value) (n : Nat), K.lookup a = some { cls := .type "list", data := .seq its n } ∧ its.size ≤ sizeLine ∧ Vals xs its.toList
theorem FzL.sq {K : PySem.W.Frag} {H : Hp} {a : Addr} {xs : List V} (h : FzL K H a xs) : SqL K H a xs := by
  rcases h with ⟨o, h⟩ | ⟨its, n, h, hz, r⟩
  · exact .inl (.inr ⟨o, h⟩)
  · exact .inr ⟨_, its, n, h, rfl, rfl, rfl, hz, r⟩
def kD : Key → D
  | .inl i => .int i
  | .inr x => .str x
mutual
inductive Rp (K : PySem.W.Frag) (H : Hp) : V → D → Prop
  | non : Rp K H .non .none
  | bl (b : Bool) : Rp K H (.bl b) (.bool b)
  | int (i : Int) : Rp K H (.int i) (.int i)
  | str (x : Str) : Rp K H (.str x) (.str x)
  | lst {a : Addr} {xs : List V} {ds : List D} : FzL K H a xs → RpA K H xs ds → Rp K H (.ref a) (.list ds)
  | tup {a : Addr} {xs : List V} {ds : List D} : SqT K H a xs → RpA K H xs ds → Rp K H (.ref a) (.tuple ds)
  | dic {a : Addr} {o : Obj} {kvs : List (Key × V)} {ds : List (D × D)} : H a = some (.frz o (.dK kvs)) → RpK K H kvs ds → Rp K H (.ref a) (.dict ds)
inductive RpA (K : PySem.W.Frag) (H : Hp) : List V → List D → Prop
  | nil : RpA K H [] []
  | cons {v : V} {vs : List V} {d : D} {ds : List D} : Rp K H v d → RpA K H vs ds → RpA K H (v :: vs) (d :: ds)
inductive RpK (K : PySem.W.Frag) (H : Hp) : List (Key × V) → List (D × D) → Prop
  | nil : RpK K H [] []
  | cons {k : Key} {v : V} {vs : List (Key × V)} {d : D} {ds : List (D × D)} : Rp K H v d → RpK K H vs ds → RpK K H ((k, v) :: vs) ((kD k, d) :: ds)
end
variable [TabC]
structure Mono (H H' : Hp) : Prop where
  tups : ∀ b xs, H b = some (.tup xs) → H' b = some (.tup xs)
  frzs : ∀ b o u, H b = some (.frz o u) → H' b = some (.frz o u)
  tabs : ∀ p ∈ TabC.T, LamX.TabS H p.1 p.2 → LamX.TabS H' p.1 p.2
theorem Mono.refl {H : Hp} : Mono H H := ⟨fun _ _ h => h, fun _ _ _ h => h, fun _ _ h => h⟩
theorem Mono.trans {H H1 H2 : Hp} (a : Mono H H1) (b : Mono H1 H2) : Mono H H2 := ⟨fun c x h => b.tups c x (a.tups c x h), fun c o x h => b.frzs c o x (a.frzs c o x h), fun p hp h => b.tabs p hp (a.tabs p hp h)⟩
theorem Mono.same {H H' : Hp} (s : Same H H') : Mono H H' := ⟨fun b xs h => s b _ h, fun b o u h => s b _ h, fun p _ h => h.ext s⟩
theorem Mono.sqT {K : PySem.W.Frag} {H H' : Hp} (m : Mono H H') {a : Addr} {xs : List V} (h : SqT K H a xs) : SqT K H' a xs := by
  rcases h with (h | ⟨o, h⟩) | h
  · exact .inl (.inl (m.tups _ _ h))
  · exact .inl (.inr ⟨o, m.frzs _ _ _ h⟩)
  · exact .inr h
theorem Mono.fzL {K : PySem.W.Frag} {H H' : Hp} (m : Mono H H') {a : Addr} {xs : List V} (h : FzL K H a xs) : FzL K H' a xs := by
  rcases h with ⟨o, h⟩ | h
  · exact .inl ⟨o, m.frzs _ _ _ h⟩
  · exact .inr h
mutual
theorem Rp.mono {K : PySem.W.Frag} {H H' : Hp} (m : Mono H H') : ∀ {v : V} {d : D}, Rp K H v d → Rp K H' v d
  | _, _, .non => .non
  | _, _, .bl b => .bl b
  | _, _, .int i => .int i
  | _, _, .str x => .str x
  | _, _, .lst h r => .lst (m.fzL h) (RpA.mono m r)
  | _, _, .tup h r => .tup (m.sqT h) (RpA.mono m r)
  | _, _, .dic h r => .dic (m.frzs _ _ _ h) (RpK.mono m r)
theorem RpA.mono {K : PySem.W.Frag} {H H' : Hp} (m : Mono H H') : ∀ {v : List V} {d : List D}, RpA K H v d → RpA K H' v d
  | _, _, .nil => .nil
  | _, _, .cons r t => .cons (Rp.mono m r) (RpA.mono m t)
theorem RpK.mono {K : PySem.W.Frag} {H H' : Hp} (m : Mono H H') : ∀ {v : List (Key × V)} {d : List (D × D)}, RpK K H v d → RpK K H' v d
  | _, _, .nil => .nil
  | _, _, .cons r t => .cons (Rp.mono m r) (RpK.mono m t)
end
theorem RpA.length {K : PySem.W.Frag} {H : Hp} : ∀ {vs : List V} {ds : List D}, RpA K H vs ds → vs.length = ds.length
  | _, _, .nil => rfl
  | _, _, .cons _ t => congrArg (· + 1) (RpA.length t)
theorem RpA.get {K : PySem.W.Frag} {H : Hp} : ∀ {vs : List V} {ds : List D}, RpA K H vs ds → ∀ (i : Nat) (d : D), ds[i]? = some d → ∃ v, vs[i]? = some v ∧ Rp K H v d
  | _, _, .nil, i, d, h => by simp at h
  | _, _, .cons r t, 0, d, h => by simp at h; subst h; exact ⟨_, rfl, r⟩
  | _, _, .cons r t, i + 1, d, h => by
    obtain ⟨v, e, q⟩ := RpA.get t i d (by simpa using h)
    exact ⟨v, by simpa using e, q⟩
theorem RpA.append {K : PySem.W.Frag} {H : Hp} : ∀ {vs ws : List V} {ds es : List D}, RpA K H vs ds → RpA K H ws es → RpA K H (vs ++ ws) (ds ++ es)
  | _, _, _, _, .nil, s => s
  | _, _, _, _, .cons r t, s => .cons r (RpA.append t s)
theorem RpA.take {K : PySem.W.Frag} {H : Hp} : ∀ {vs : List V} {ds : List D} (n : Nat), RpA K H vs ds → RpA K H (vs.take n) (ds.take n)
  | _, _, 0, _ => .nil
  | _, _, _ + 1, .nil => .nil
  | _, _, n + 1, .cons r t => .cons r (RpA.take n t)
theorem RpA.drop {K : PySem.W.Frag} {H : Hp} : ∀ {vs : List V} {ds : List D} (n : Nat), RpA K H vs ds → RpA K H (vs.drop n) (ds.drop n)
  | _, _, 0, r => r
  | _, _, _ + 1, .nil => .nil
  | _, _, n + 1, .cons _ t => RpA.drop n t
theorem RpA.set {K : PySem.W.Frag} {H : Hp} {v : V} {d : D} (r : Rp K H v d) : ∀ {vs : List V} {ds : List D} (i : Nat), RpA K H vs ds → RpA K H (vs.set i v) (ds.set i d)
  | _, _, _, .nil => .nil
  | _, _, 0, .cons _ t => .cons r t
  | _, _, i + 1, .cons q t => .cons q (RpA.set r i t)
theorem RpA.reverse {K : PySem.W.Frag} {H : Hp} : ∀ {vs : List V} {ds : List D}, RpA K H vs ds → RpA K H vs.reverse ds.reverse
  | _, _, .nil => .nil
  | _, _, .cons r t => by
    rw [List.reverse_cons, List.reverse_cons]
    exact RpA.append (RpA.reverse t) (.cons r .nil)
mutual
theorem Rp.dp {K : PySem.W.Frag} {H : Hp} : ∀ {v : V} {d : D}, Rp K H v d → PyData.canLay0 d = true → Dp K H v d
  | _, _, .non, _ => .non
  | _, _, .bl b, _ => .bl b
  | _, _, .int i, _ => .int i
  | _, _, .str x, _ => .str x
  | _, _, .lst h r, s => .lst h.sq (RpA.dp r (by simpa only [PyData.canLay0] using s))
  | _, _, .tup h r, s => .tup h (RpA.dp r (by simpa only [PyData.canLay0] using s))
  | _, _, .dic h r, s => by simp only [PyData.canLay0] at s; cases s
theorem RpA.dp {K : PySem.W.Frag} {H : Hp} : ∀ {v : List V} {d : List D}, RpA K H v d → PyData.canLayAll0 d = true → DpAll K H v d
  | _, _, .nil, _ => .nil
  | _, _, .cons r t, s => by
    simp only [PyData.canLayAll0, Bool.and_eq_true] at s
    exact .cons (Rp.dp r s.1) (RpA.dp t s.2)
end

/-! ### the state of a def: its slots -/
/-- a dict whose keys are None, ints and texts -/
def DNo (P : Program) (w : World) (a : Addr) (kvs : List (Option Key × V)) : HO := .ext fun h => kvs.length ≤ sizeLine ∧ (a == PySem.sysModules) = false ∧ ∃ vs, KV kvs vs ∧ h.DictOf (noneKind P w) a vs
def kNk : Option Key → D
  | none => .none
  | some k => kD k
def kNV : Option Key → V
  | none => .non
  | some k => kV k
inductive RpN (K : PySem.W.Frag) (H : Hp) : List (Option Key × V) → List (D × D) → Prop
  | nil : RpN K H [] []
  | cons {k : Option Key} {v : V} {vs : List (Option Key × V)} {d : D} {ds : List (D × D)} : Rp K H v d → RpN K H vs ds → RpN K H ((k, v) :: vs) ((kNk k, d) :: ds)
theorem RpN.mono {K : PySem.W.Frag} {H H' : Hp} (m : Mono H H') : ∀ {v : List (Option Key × V)} {d : List (D × D)}, RpN K H v d → RpN K H' v d
  | _, _, .nil => .nil
  | _, _, .cons r t => .cons (Rp.mono m r) (RpN.mono m t)
structure ZC where
  Hb : Hp
  ios : List Nat
  adr : Nat → Addr
  tmp : List (Addr × HO)
  W : Exn → En → SS → Hp → Prop
  pw : Option (Program × World)
def NDic (K : PySem.W.Frag) (pw : Option (Program × World)) (H : Hp) (a : Addr) (ps : List (D × D)) : Prop :=
  TabC.T = [] ∧ ∃ P w kvs, pw = some (P, w) ∧ H a = some (DNo P w a kvs) ∧ RpN K H kvs ps
/-- the slots that are such dicts -/
structure NdR (K : PySem.W.Frag) (Z : ZC) (σ : SS) (H : Hp) (e : En) : Prop where
  at_ : ∀ (i : Nat) (ps : List (D × D)), e[i]? = some (.nd ps) → ∃ a : Addr, σ[i]? = some (some (.ref a)) ∧ NDic K Z.pw H a ps ∧ Z.Hb a = none
  inj : ∀ (i j : Nat) (ps qs : List (D × D)) (a : Addr), e[i]? = some (.nd ps) → e[j]? = some (.nd qs) → σ[i]? = some (some (.ref a)) → σ[j]? = some (some (.ref a)) → i = j
section
variable {K : PySem.W.Frag} {Z : ZC} {σ : SS} {H H' : Hp} {e : En}
theorem NDic.keep {pw : Option (Program × World)} {a : Addr} {ps : List (D × D)} (h : NDic K pw H a ps) (m : Mono H H') (k : ∀ φ, H a = some (.ext φ) → H' a = some (.ext φ)) : NDic K pw H' a ps := by
  obtain ⟨t, P, w, kvs, h1, h2, h3⟩ := h
  exact ⟨t, P, w, kvs, h1, k _ h2, h3.mono m⟩
theorem NdR.keep (R : NdR K Z σ H e) (m : Mono H H') (k : ∀ a φ, Z.Hb a = none → H a = some (.ext φ) → H' a = some (.ext φ)) : NdR K Z σ H' e where
  at_ := fun i ps h => let ⟨a, h1, h2, h3⟩ := R.at_ i ps h; ⟨a, h1, h2.keep m fun φ q => k a φ h3 q, h3⟩
  inj := R.inj
theorem ext_upd {a : Addr} {u o : HO} (hu : H a = some u) (mu : MutZ (some u)) (b : Addr) (φ : Heap → Prop) (h : H b = some (.ext φ)) : upd H a o b = some (.ext φ) := by
  rw [upd_ne]; exact h
  rintro rfl
  rw [hu] at h; cases h; exact mu
/-- a slot is set otherwise -/
theorem NdR.set {i : Nat} {x : Option V} {s : Sl} (R : NdR K Z σ H e) (hn : ∀ ps, s ≠ .nd ps) : NdR K Z (σ.set i x) H (e.set i s) where
  at_ := fun j ps h => by
    by_cases hj : i = j
    · subst hj
      by_cases hi : i < e.length
      · rw [List.getElem?_set_self hi] at h; cases h; exact absurd rfl (hn ps)
      · rw [List.getElem?_eq_none (by rw [List.length_set]; omega)] at h; cases h
    · rw [List.getElem?_set_ne hj] at h ⊢
      exact R.at_ j ps h
  inj := fun j k ps qs a h1 h2 h3 h4 => by
    have nn : ∀ (j : Nat) (ps : List (D × D)), (e.set i s)[j]? = some (.nd ps) → i ≠ j := fun j ps h z => by
      subst z
      by_cases hi : i < e.length
      · rw [List.getElem?_set_self hi] at h; cases h; exact absurd rfl (hn ps)
      · rw [List.getElem?_eq_none (by rw [List.length_set]; omega)] at h; cases h
    have n1 := nn j ps h1
    have n2 := nn k qs h2
    rw [List.getElem?_set_ne n1] at h1 h3
    rw [List.getElem?_set_ne n2] at h2 h4
    exact R.inj j k ps qs a h1 h2 h3 h4
/-- .. the state's slot as it was -/
theorem NdR.set0 {i : Nat} {s : Sl} (R : NdR K Z σ H e) (hn : ∀ ps, s ≠ .nd ps) : NdR K Z σ H (e.set i s) where
  at_ := fun j ps h => by
    by_cases hj : i = j
    · subst hj
      by_cases hi : i < e.length
      · rw [List.getElem?_set_self hi] at h; cases h; exact absurd rfl (hn ps)
      · rw [List.getElem?_eq_none (by rw [List.length_set]; omega)] at h; cases h
    · rw [List.getElem?_set_ne hj] at h
      exact R.at_ j ps h
  inj := fun j k ps qs a h1 h2 h3 h4 => by
    have nn : ∀ (j : Nat) (ps : List (D × D)), (e.set i s)[j]? = some (.nd ps) → i ≠ j := fun j ps h z => by
      subst z
      by_cases hi : i < e.length
      · rw [List.getElem?_set_self hi] at h; cases h; exact absurd rfl (hn ps)
      · rw [List.getElem?_eq_none (by rw [List.length_set]; omega)] at h; cases h
    have n1 := nn j ps h1
    have n2 := nn k qs h2
    rw [List.getElem?_set_ne n1] at h1
    rw [List.getElem?_set_ne n2] at h2
    exact R.inj j k ps qs a h1 h2 h3 h4
end
def Opn (K : PySem.W.Frag) (H : Hp) (a : Addr) : D → Prop
  | .list ds => ∃ xs, H a = some (.lst xs) ∧ RpA K H xs ds
  | .dict ds => ∃ kvs, H a = some (.dK kvs) ∧ RpK K H kvs ds
  | _ => False
theorem Opn.there {K : PySem.W.Frag} {H : Hp} {a : Addr} {d : D} (h : Opn K H a d) : ∃ u, H a = some u ∧ MutZ (some u) := by
  cases d with
  | list ds => obtain ⟨xs, h, _⟩ := h; exact ⟨_, h, trivial⟩
  | dict ds => obtain ⟨xs, h, _⟩ := h; exact ⟨_, h, trivial⟩
  | _ => exact h.elim
theorem Opn.mono {K : PySem.W.Frag} {H H' : Hp} {a : Addr} {d : D} (h : Opn K H a d) (m : Mono H H') (e : H' a = H a) : Opn K H' a d := by
  cases d with
  | list ds => obtain ⟨xs, h, r⟩ := h; exact ⟨xs, e.trans h, r.mono m⟩
  | dict ds => obtain ⟨xs, h, r⟩ := h; exact ⟨xs, e.trans h, r.mono m⟩
  | _ => exact h.elim
/-- what is locked now is data -/
theorem Opn.lock {K : PySem.W.Frag} {H : Hp} {a : Addr} {d : D} {u : HO} (h : Opn K H a d) (e : H a = some u) (m : ∀ od, Mono H (upd H a (.frz od u))) (od : Obj) : Rp K (upd H a (.frz od u)) (.ref a) d := by
  cases d with
  | list ds =>
    obtain ⟨xs, h, r⟩ := h
    rw [e] at h; cases h
    exact .lst (.inl ⟨od, upd_same⟩) (r.mono (m od))
  | dict ds =>
    obtain ⟨xs, h, r⟩ := h
    rw [e] at h; cases h
    exact .dic (o := od) upd_same (r.mono (m od))
  | _ => exact h.elim
theorem mono_upd {H : Hp} {a : Addr} {u o : HO} (e : H a = some u) (mu : MutZ (some u)) : Mono H (upd H a o) := by
  refine ⟨fun b xs h => ?_, fun b ob x h => ?_, fun pq _ h => ?_⟩
  · rw [upd_ne]; exact h
    rintro rfl; rw [e] at h; cases h; exact mu
  · rw [upd_ne]; exact h
    rintro rfl; rw [e] at h; cases h; exact mu
  · obtain ⟨ps, h1, h2, h3⟩ := h
    refine ⟨ps, ?_, h2, fun pos cv hc => ?_⟩
    · rw [upd_ne]; exact h1
      rintro rfl; rw [e] at h1; cases h1; exact mu
    · obtain ⟨c, e1, e2⟩ := h3 pos cv hc
      refine ⟨c, e1, ?_⟩
      rw [upd_ne]; exact e2
      rintro rfl
      have : u = LamX.CodeO c pq.2 := Option.some.inj (e.symm.trans e2)
      rw [this] at mu
      unfold LamX.CodeO at mu
      exact mu
structure Rel (K : PySem.W.Frag) (Z : ZC) (σ : SS) (H : Hp) (e : En) : Prop where
  len : e.length = σ.length
  fz : ∀ (i : Nat) (d : D), e[i]? = some (.fz d) → ∃ v, σ[i]? = some (some v) ∧ Rp K H v d
  op : ∀ (i : Nat) (d : D), e[i]? = some (.op d) → ∃ a : Addr, σ[i]? = some (some (.ref a)) ∧ Opn K H a d ∧ (Z.Hb a = none ∨ (i ∈ Z.ios ∧ a = Z.adr i))
  inj : ∀ (i j : Nat) (d f : D) (a : Addr), e[i]? = some (.op d) → e[j]? = some (.op f) → σ[i]? = some (some (.ref a)) → σ[j]? = some (some (.ref a)) → i = j
  fr : ∀ b o, Z.Hb b = some o → (∀ i ∈ Z.ios, b ≠ Z.adr i) → Stay o (H b)
  io : ∀ i ∈ Z.ios, (∃ u, H (Z.adr i) = some u) ∧ σ[i]? = some (some (.ref (Z.adr i)))
  tab : ∀ p ∈ TabC.T, LamX.TabS H p.1 p.2
  nd : NdR K Z σ H e
  tp : ∀ p ∈ Z.tmp, H p.1 = some p.2 ∧ MutZ (some p.2) ∧ Z.Hb p.1 = none ∧ ∀ (i : Nat) (d : D), e[i]? = some (.op d) → σ[i]? ≠ some (some (.ref p.1))
section
variable {K : PySem.W.Frag} {Z : ZC} {σ : SS} {H H' : Hp} {e : En}
theorem Rel.same (R : Rel K Z σ H e) (s : Same H H') : Rel K Z σ H' e where
  len := R.len
  fz := fun i d h => let ⟨v, h1, h2⟩ := R.fz i d h; ⟨v, h1, h2.mono (.same s)⟩
  op := fun i d h => by
    obtain ⟨a, h1, h2, h3⟩ := R.op i d h
    obtain ⟨u, hu, _⟩ := h2.there
    exact ⟨a, h1, h2.mono (.same s) ((s a u hu).trans hu.symm), h3⟩
  inj := R.inj
  fr := fun b o h n => (R.fr b o h n).trans fun x hx => .inl (s b x hx)
  tab := fun p hp => (R.tab p hp).ext s
  nd := R.nd.keep (.same s) fun a φ _ q => s a _ q
  io := fun i hi => let ⟨⟨u, hu⟩, h⟩ := R.io i hi; ⟨⟨u, s _ _ hu⟩, h⟩
  tp := fun p hp => let ⟨h, q⟩ := R.tp p hp; ⟨s _ _ h, q⟩
/-- an open one is locked, or changed: all else stays -/
theorem Rel.fresh (R : Rel K Z σ H e) {a : Addr} (h : H a = none) : Z.Hb a = none ∧ (∀ (i : Nat) (d : D), e[i]? = some (.op d) → σ[i]? ≠ some (some (.ref a))) ∧ ∀ p ∈ Z.tmp, p.1 ≠ a := by
  refine ⟨?_, fun i d hi hs => ?_, fun p hp z => ?_⟩
  · cases q : Z.Hb a with
    | none => rfl
    | some o =>
      by_cases hn : ∃ i, i ∈ Z.ios ∧ a = Z.adr i
      · obtain ⟨i, hi, rfl⟩ := hn
        obtain ⟨⟨u, hu⟩, _⟩ := R.io i hi
        rw [h] at hu; cases hu
      · obtain ⟨v, this⟩ := (R.fr a o q fun i hi e => hn ⟨i, hi, e⟩).is
        rw [h] at this; cases this
  · obtain ⟨b, h1, h2, _⟩ := R.op i d hi
    rw [hs] at h1; cases h1
    obtain ⟨u, hu, _⟩ := h2.there
    rw [h] at hu; cases hu
  · have := (R.tp p hp).1
    rw [z, h] at this; cases this
/-- an address that is no slot's and not of the entry may change -/
theorem Rel.other (R : Rel K Z σ H e) {a : Addr} {u o : HO} (hu : H a = some u) (mu : MutZ (some u)) (hb : Z.Hb a = none) (hs : ∀ (i : Nat) (d : D), e[i]? = some (.op d) → σ[i]? ≠ some (some (.ref a))) (ht : ∀ p ∈ Z.tmp, p.1 ≠ a) : Rel K Z σ (upd H a o) e where
  len := R.len
  fz := fun i d h => let ⟨v, h1, h2⟩ := R.fz i d h; ⟨v, h1, h2.mono (mono_upd hu mu)⟩
  op := fun i d h => by
    obtain ⟨b, h1, h2, h3⟩ := R.op i d h
    refine ⟨b, h1, h2.mono (mono_upd hu mu) (upd_ne ?_), h3⟩
    rintro rfl
    exact hs i d h h1
  inj := R.inj
  fr := fun b o' h n => by
    rw [upd_ne]; exact R.fr b o' h n
    rintro rfl; rw [hb] at h; cases h
  io := fun i hi => by
    obtain ⟨⟨v, hv⟩, h⟩ := R.io i hi
    by_cases e : Z.adr i = a
    · exact ⟨⟨o, by rw [e, upd_same]⟩, h⟩
    · exact ⟨⟨v, by rw [upd_ne e]; exact hv⟩, h⟩
  tp := fun p hp => let ⟨h, q⟩ := R.tp p hp; ⟨by rw [upd_ne (ht p hp)]; exact h, q⟩
  tab := fun p hp => (mono_upd hu mu).tabs p hp (R.tab p hp)
  nd := R.nd.keep (mono_upd hu mu) fun b φ _ q => ext_upd hu mu b φ q
theorem lt_of_get {α : Type} {l : List α} {i : Nat} {x : α} (h : l[i]? = some x) : i < l.length := (List.getElem?_eq_some_iff.mp h).1
theorem Rel.setF (R : Rel K Z σ H e) {i : Nat} (hi : i < e.length) (hio : i ∉ Z.ios) {v : V} {d : D} (r : Rp K H v d) : Rel K Z (σ.set i (some v)) H (e.set i (.fz d)) where
  len := by rw [List.length_set, List.length_set]; exact R.len
  fz := fun j d' h => by
    by_cases hj : i = j
    · subst hj
      rw [List.getElem?_set_self hi] at h; cases h
      exact ⟨v, by rw [List.getElem?_set_self (by rw [← R.len]; exact hi)], r⟩
    · rw [List.getElem?_set_ne hj] at h
      rw [List.getElem?_set_ne hj]
      exact R.fz j d' h
  op := fun j d' h => by
    by_cases hj : i = j
    · subst hj
      rw [List.getElem?_set_self hi] at h; cases h
    · rw [List.getElem?_set_ne hj] at h
      rw [List.getElem?_set_ne hj]
      exact R.op j d' h
  inj := fun j k d1 d2 a h1 h2 h3 h4 => by
    have nj : i ≠ j := by rintro rfl; rw [List.getElem?_set_self hi] at h1; cases h1
    have nk : i ≠ k := by rintro rfl; rw [List.getElem?_set_self hi] at h2; cases h2
    rw [List.getElem?_set_ne nj] at h1 h3
    rw [List.getElem?_set_ne nk] at h2 h4
    exact R.inj j k d1 d2 a h1 h2 h3 h4
  fr := R.fr
  tab := R.tab
  nd := R.nd.set fun _ => by simp
  io := fun j hj => by
    have nj : i ≠ j := by rintro rfl; exact hio hj
    rw [List.getElem?_set_ne nj]
    exact R.io j hj
  tp := fun p hp => by
    obtain ⟨h1, h2, h3, h4⟩ := R.tp p hp
    refine ⟨h1, h2, h3, fun j f hj => ?_⟩
    have nj : i ≠ j := by rintro rfl; rw [List.getElem?_set_self hi] at hj; cases hj
    rw [List.getElem?_set_ne nj] at hj ⊢
    exact h4 j f hj
theorem Rel.setO (R : Rel K Z σ H e) {i : Nat} (hi : i < e.length) (hio : i ∉ Z.ios) {a : Addr} {d : D} (r : Opn K H a d) (hb : Z.Hb a = none) (hs : ∀ (j : Nat) (f : D), e[j]? = some (.op f) → σ[j]? ≠ some (some (.ref a))) (ht : ∀ p ∈ Z.tmp, p.1 ≠ a) : Rel K Z (σ.set i (some (.ref a))) H (e.set i (.op d)) where
  len := by rw [List.length_set, List.length_set]; exact R.len
  fz := fun j d' h => by
    by_cases hj : i = j
    · subst hj
      rw [List.getElem?_set_self hi] at h; cases h
    · rw [List.getElem?_set_ne hj] at h
      rw [List.getElem?_set_ne hj]
      exact R.fz j d' h
  op := fun j d' h => by
    by_cases hj : i = j
    · subst hj
      rw [List.getElem?_set_self hi] at h; cases h
      exact ⟨a, by rw [List.getElem?_set_self (by rw [← R.len]; exact hi)], r, .inl hb⟩
    · rw [List.getElem?_set_ne hj] at h
      rw [List.getElem?_set_ne hj]
      exact R.op j d' h
  inj := fun j k d1 d2 b h1 h2 h3 h4 => by
    by_cases hj : i = j
    · by_cases hk : i = k
      · exact hj.symm.trans hk
      · subst hj
        rw [List.getElem?_set_self (by rw [← R.len]; exact hi)] at h3; cases h3
        rw [List.getElem?_set_ne hk] at h2 h4
        exact absurd h4 (hs k d2 h2)
    · by_cases hk : i = k
      · subst hk
        rw [List.getElem?_set_self (by rw [← R.len]; exact hi)] at h4; cases h4
        rw [List.getElem?_set_ne hj] at h1 h3
        exact absurd h3 (hs j d1 h1)
      · rw [List.getElem?_set_ne hj] at h1 h3
        rw [List.getElem?_set_ne hk] at h2 h4
        exact R.inj j k d1 d2 b h1 h2 h3 h4
  fr := R.fr
  tab := R.tab
  nd := R.nd.set fun _ => by simp
  io := fun j hj => by
    have nj : i ≠ j := by rintro rfl; exact hio hj
    rw [List.getElem?_set_ne nj]
    exact R.io j hj
  tp := fun p hp => by
    obtain ⟨h1, h2, h3, h4⟩ := R.tp p hp
    refine ⟨h1, h2, h3, fun j f hj => ?_⟩
    by_cases nj : i = j
    · subst nj
      rw [List.getElem?_set_self (by rw [← R.len]; exact hi)]
      intro z; cases z
      exact ht p hp rfl
    · rw [List.getElem?_set_ne nj] at hj ⊢
      exact h4 j f hj
/-- an open slot's object is changed (its new value open again) -/
theorem Rel.mut (R : Rel K Z σ H e) {i : Nat} {a : Addr} {d f : D} {u o : HO} (h : e[i]? = some (.op d)) (ha : σ[i]? = some (some (.ref a))) (hu : H a = some u) (mu : MutZ (some u)) (r : Opn K (upd H a o) a f) : Rel K Z σ (upd H a o) (e.set i (.op f)) := by
  have hi := lt_of_get h
  have m : Mono H (upd H a o) := mono_upd hu mu
  refine ⟨by rw [List.length_set]; exact R.len, fun j d' hj => ?_, fun j d' hj => ?_, fun j k d1 d2 b h1 h2 h3 h4 => ?_, fun b o' hb n => ?_, fun j hj => ?_, fun p hp => m.tabs p hp (R.tab p hp), (R.nd.keep m fun b φ _ q => ext_upd hu mu b φ q).set0 fun _ => by simp, fun p hp => ?_⟩
  · by_cases e1 : i = j
    · subst e1; rw [List.getElem?_set_self hi] at hj; cases hj
    · rw [List.getElem?_set_ne e1] at hj
      obtain ⟨v, q1, q2⟩ := R.fz j d' hj
      exact ⟨v, q1, q2.mono m⟩
  · by_cases e1 : i = j
    · subst e1; rw [List.getElem?_set_self hi] at hj; cases hj
      obtain ⟨b, q1, q2, q3⟩ := R.op i d h
      rw [ha] at q1; cases q1
      exact ⟨a, ha, r, q3⟩
    · rw [List.getElem?_set_ne e1] at hj
      obtain ⟨b, q1, q2, q3⟩ := R.op j d' hj
      refine ⟨b, q1, q2.mono m (upd_ne ?_), q3⟩
      rintro rfl
      exact e1 (R.inj i j d d' b h hj ha q1)
  · have at_ : ∀ (j : Nat) (d1 : D), (e.set i (.op f))[j]? = some (.op d1) → ∃ d', e[j]? = some (.op d') := fun j d1 q => by
      by_cases e1 : i = j
      · subst e1; exact ⟨d, h⟩
      · rw [List.getElem?_set_ne e1] at q; exact ⟨d1, q⟩
    obtain ⟨d1', q1⟩ := at_ j d1 h1
    obtain ⟨d2', q2⟩ := at_ k d2 h2
    exact R.inj j k d1' d2' b q1 q2 h3 h4
  · rw [upd_ne]; exact R.fr b o' hb n
    rintro rfl
    obtain ⟨c, q1, _, q3⟩ := R.op i d h
    rw [ha] at q1; cases q1
    rcases q3 with q3 | ⟨q3, q4⟩
    · rw [hb] at q3; cases q3
    · exact n i q3 q4
  · obtain ⟨⟨v, hv⟩, q⟩ := R.io j hj
    by_cases e1 : Z.adr j = a
    · exact ⟨⟨o, by rw [e1, upd_same]⟩, q⟩
    · exact ⟨⟨v, by rw [upd_ne e1]; exact hv⟩, q⟩
  · obtain ⟨h1, h2, h3, h4⟩ := R.tp p hp
    refine ⟨?_, h2, h3, fun j f hj => ?_⟩
    · rw [upd_ne]; exact h1
      rintro rfl; exact h4 i d h ha
    · by_cases e1 : i = j
      · subst e1; exact h4 i d h
      · rw [List.getElem?_set_ne e1] at hj; exact h4 j f hj
/-- an open slot is locked: plain data from now on -/
theorem Rel.lock (R : Rel K Z σ H e) {i : Nat} {a : Addr} {d : D} {u : HO} (h : e[i]? = some (.op d)) (ha : σ[i]? = some (some (.ref a))) (hu : H a = some u) (mu : MutZ (some u)) (od : Obj) : Rel K Z σ (upd H a (.frz od u)) (e.set i (.fz d)) := by
  have hi := lt_of_get h
  have m : Mono H (upd H a (.frz od u)) := mono_upd hu mu
  obtain ⟨a', q1, q2, q3⟩ := R.op i d h
  rw [ha] at q1; cases q1
  refine ⟨by rw [List.length_set]; exact R.len, fun j d' hj => ?_, fun j d' hj => ?_, fun j k d1 d2 b h1 h2 h3 h4 => ?_, fun b o' hb n => ?_, fun j hj => ?_, fun p hp => m.tabs p hp (R.tab p hp), (R.nd.keep m fun b φ _ q => ext_upd hu mu b φ q).set0 fun _ => by simp, fun p hp => ?_⟩
  · by_cases e1 : i = j
    · subst e1; rw [List.getElem?_set_self hi] at hj; cases hj
      exact ⟨_, ha, q2.lock hu (fun _ => mono_upd hu mu) od⟩
    · rw [List.getElem?_set_ne e1] at hj
      obtain ⟨v, r1, r2⟩ := R.fz j d' hj
      exact ⟨v, r1, r2.mono m⟩
  · by_cases e1 : i = j
    · subst e1; rw [List.getElem?_set_self hi] at hj; cases hj
    · rw [List.getElem?_set_ne e1] at hj
      obtain ⟨b, r1, r2, r3⟩ := R.op j d' hj
      refine ⟨b, r1, r2.mono m (upd_ne ?_), r3⟩
      rintro rfl
      exact e1 (R.inj i j d d' b h hj ha r1)
  · have at_ : ∀ (j : Nat) (d1 : D), (e.set i (.fz d))[j]? = some (.op d1) → e[j]? = some (.op d1) := fun j d1 q => by
      by_cases e1 : i = j
      · subst e1; rw [List.getElem?_set_self hi] at q; cases q
      · rw [List.getElem?_set_ne e1] at q; exact q
    exact R.inj j k d1 d2 b (at_ j d1 h1) (at_ k d2 h2) h3 h4
  · rw [upd_ne]; exact R.fr b o' hb n
    rintro rfl
    rcases q3 with q3 | ⟨q3, q4⟩
    · rw [hb] at q3; cases q3
    · exact n i q3 q4
  · obtain ⟨⟨v, hv⟩, q⟩ := R.io j hj
    by_cases e1 : Z.adr j = a
    · exact ⟨⟨_, by rw [e1, upd_same]⟩, q⟩
    · exact ⟨⟨v, by rw [upd_ne e1]; exact hv⟩, q⟩
  · obtain ⟨h1, h2, h3, h4⟩ := R.tp p hp
    refine ⟨?_, h2, h3, fun j f hj => ?_⟩
    · rw [upd_ne]; exact h1
      rintro rfl; exact h4 i d h ha
    · by_cases e1 : i = j
      · subst e1; rw [List.getElem?_set_self hi] at hj; cases hj
      · rw [List.getElem?_set_ne e1] at hj; exact h4 j f hj
end
end ZZ

namespace ZZ
open PySem PySem.Spec L2
variable [TabC]

/-! ### readings -/
abbrev RR (β α : Type) := SS → En → Hp → β → α → Prop
def pst (K : PySem.W.Frag) (Z : ZC) {α β : Type} (r : RR β α) (σ : SS) (H : Hp) (Q : β → Hp → Prop) : Out α → Prop
  | .ok d e => ∀ b H', Mono H H' → Rel K Z σ H' e → r σ e H' b d → Q b H'
  | .exc x e => ∀ H', Mono H H' → Rel K Z σ H' e → Z.W x e σ H'
  | .no => False
def tG (K : PySem.W.Frag) (Z : ZC) {α β : Type} (r : RR β α) (m : M α) : SS → Hp → (β → Hp → Prop) → Prop := fun σ H Q => ∃ e, Rel K Z σ H e ∧ pst K Z r σ H Q (m e)
/-- data -/
def rV (K : PySem.W.Frag) : RR V D := fun _ _ H v d => Rp K H v d
def rVs (K : PySem.W.Frag) : RR (List V) (List D) := fun _ _ H v d => RpA K H v d
def rB : RR Bool Bool := fun _ _ _ b c => b = c
/-- a new thing, open -/
def NewO (K : PySem.W.Frag) (Z : ZC) (σ : SS) (e : En) (H : Hp) (v : V) (d : D) : Prop := ∃ a, v = .ref a ∧ Opn K H a d ∧ Z.Hb a = none ∧ (∀ (i : Nat) (f : D), e[i]? = some (.op f) → σ[i]? ≠ some (some (.ref a))) ∧ ∀ p ∈ Z.tmp, p.1 ≠ a
def rO (K : PySem.W.Frag) (Z : ZC) : RR V D := fun σ e H v d => NewO K Z σ e H v d
/-- the one or the other -/
def rX (K : PySem.W.Frag) (Z : ZC) : RR V D := fun σ e H v d => Rp K H v d ∨ NewO K Z σ e H v d
/-- looked at for the moment -/
def Rq (K : PySem.W.Frag) (H : Hp) (v : V) (d : D) : Prop := Rp K H v d ∨ ∃ a, v = .ref a ∧ Opn K H a d
def rQ (K : PySem.W.Frag) : RR V D := fun _ _ H v d => Rq K H v d
abbrev tM (K : PySem.W.Frag) (Z : ZC) (m : M D) : TE := tG K Z (rV K) m
abbrev tO (K : PySem.W.Frag) (Z : ZC) (m : M D) : TE := tG K Z (rO K Z) m
abbrev tX (K : PySem.W.Frag) (Z : ZC) (m : M D) : TE := tG K Z (rX K Z) m
abbrev tQ (K : PySem.W.Frag) (Z : ZC) (m : M D) : TE := tG K Z (rQ K) m
abbrev tMs (K : PySem.W.Frag) (Z : ZC) (m : M (List D)) : TA := tG K Z (rVs K) m
abbrev tT (K : PySem.W.Frag) (Z : ZC) (m : M Bool) : TT := tG K Z rB m
section
variable {K : PySem.W.Frag} {Z : ZC} {α β γ δ : Type} {r : RR β α} {r2 : RR δ γ} {σ : SS} {H H' : Hp} {Q : β → Hp → Prop}
theorem pst.mono {o : Out α} (h : pst K Z r σ H Q o) (m : Mono H H') : pst K Z r σ H' Q o := by
  cases o with
  | ok d e => exact fun b H2 m2 R p => h b H2 (m.trans m2) R p
  | exc x e => exact fun H2 m2 R => h H2 (m.trans m2) R
  | no => exact h
theorem pst_bnd {m : M α} {f : α → M γ} {e : En} {Q2 : δ → Hp → Prop} (h : pst K Z r2 σ H Q2 (bnd m f e))
    (k : ∀ b H1 d e1, Mono H H1 → Rel K Z σ H1 e1 → r σ e1 H1 b d → pst K Z r2 σ H1 Q2 (f d e1) → Q b H1) : pst K Z r σ H Q (m e) := by
  unfold bnd at h
  cases q : m e with
  | ok d e1 =>
    rw [q] at h
    exact fun b H1 m1 R p => k b H1 d e1 m1 R p (h.mono m1)
  | exc x e1 =>
    rw [q] at h
    exact h
  | no =>
    rw [q] at h
    exact h
theorem pst_lft {o : Option α} {e : En} (h : pst K Z r σ H Q (lft o e)) : ∃ d, o = some d ∧ ∀ b H', Mono H H' → Rel K Z σ H' e → r σ e H' b d → Q b H' := by
  cases o with
  | none => exact h.elim
  | some d => exact ⟨d, rfl, h⟩
theorem tG_imp {m : M α} {r' : RR β α} (w : ∀ σ e H b d, r' σ e H b d → r σ e H b d) (Q : β → Hp → Prop) (h : tG K Z r m σ H Q) : tG K Z r' m σ H Q := by
  obtain ⟨e, R, p⟩ := h
  refine ⟨e, R, ?_⟩
  cases q : m e with
  | ok d e1 => rw [q] at p; exact fun b H1 m1 R1 p1 => p b H1 m1 R1 (w _ _ _ _ _ p1)
  | exc x e1 => rw [q] at p; exact p
  | no => rw [q] at p; exact p
end
section
variable {X : Cx} {Z : ZC}
theorem PE_weak {e : Expr} {t t' : TE} (h : PE X e t) (w : ∀ σ H Q, t' σ H Q → t σ H Q) : PE X e t' := ⟨fun pins s σ H Q I q => h.run pins s σ H Q I (w σ H Q q)⟩
theorem PT_weak {e : Expr} {t t' : TT} (h : PT X e t) (w : ∀ σ H Q, t' σ H Q → t σ H Q) : PT X e t' := ⟨fun pins s σ H Q I q => h.run pins s σ H Q I (w σ H Q q)⟩
theorem PA_weak {e : List Expr} {t t' : TA} (h : PA X e t) (w : ∀ σ H Q, t' σ H Q → t σ H Q) : PA X e t' := ⟨fun pos pins s σ H Q I q => h.run pos pins s σ H Q I (w σ H Q q)⟩
theorem PS_weak {e : Stmt} {t t' : TS} (h : PS X e t) (w : ∀ D σ H, t' D σ H → t D σ H) : PS X e t' := ⟨fun pins s σ H D I q => h.run pins s σ H D I (w D σ H q)⟩
theorem PSs_weak {e : List Stmt} {t t' : TS} (h : PSs X e t) (w : ∀ D σ H, t' D σ H → t D σ H) : PSs X e t' := ⟨fun pins s σ H D I q => h.run pins s σ H D I (w D σ H q)⟩

/-! ### locking -/
def LkQ (Q : VK) : VK := fun v H => Q v H ∨ ∃ a u, v = .ref a ∧ H a = some u ∧ MutZ (some u) ∧ ∀ od, Q v (upd H a (.frz od u))
theorem pe_lk {e : Expr} {t : TE} (h : PE X e t) : PE X e (fun σ H Q => t σ H (LkQ Q)) := by
  refine ⟨fun pins s σ H Q I q => thn (h.run pins s σ H _ I q) fun v s' ⟨x, H1, I1, r1, q1⟩ => ?_⟩
  rcases q1 with q1 | ⟨a, u, rfl, hu, mu, q1⟩
  · exact ⟨x, H1, I1, r1, q1⟩
  · obtain ⟨od, I2⟩ := I1.lock hu mu.mut
    exact ⟨.ref a, _, I2, r1, q1 od⟩
/-- what comes new and open is locked at once -/
theorem e_lk {e : Expr} {m : M D} (h : PE X e (tX X.K Z m)) : PE X e (tM X.K Z m) := by
  refine PE_weak (pe_lk h) fun σ H Q ⟨en, R, p⟩ => ⟨en, R, ?_⟩
  cases q : m en with
  | ok d e1 =>
    rw [q] at p
    intro v H1 m1 R1 r1
    rcases r1 with r1 | ⟨a, rfl, o, hb, hs, ht⟩
    · exact .inl (p v H1 m1 R1 r1)
    · obtain ⟨u, hu, mu⟩ := o.there
      refine .inr ⟨a, u, rfl, hu, mu, fun od => ?_⟩
      exact p _ _ (m1.trans (mono_upd hu mu)) (R1.other hu mu hb hs ht) (o.lock hu (fun _ => mono_upd hu mu) od)
  | exc x e1 => rw [q] at p; exact p
  | no => rw [q] at p; exact p
theorem e_ox {e : Expr} {m : M D} (h : PE X e (tO X.K Z m)) : PE X e (tX X.K Z m) := PE_weak h fun σ H Q => tG_imp (fun _ _ _ _ _ => .inr) Q
theorem e_mx {e : Expr} {m : M D} (h : PE X e (tM X.K Z m)) : PE X e (tX X.K Z m) := PE_weak h fun σ H Q => tG_imp (fun _ _ _ _ _ => .inl) Q
theorem e_om {e : Expr} {m : M D} (h : PE X e (tO X.K Z m)) : PE X e (tM X.K Z m) := e_lk (e_ox h)
theorem e_q {e : Expr} {m : M D} (h : PE X e (tM X.K Z m)) : PE X e (tQ X.K Z m) := PE_weak h fun σ H Q => tG_imp (fun _ _ _ _ _ => .inl) Q

/-! ### constants, names -/
theorem e_int {i j pos} : PE X (.Constant (.int i) j pos) (tM X.K Z (ret (.int i))) := PE_weak pe_int fun σ H Q ⟨e, R, p⟩ => p (.int i) H .refl R (.int i)
theorem e_bl {b j pos} : PE X (.Constant (.bool b) j pos) (tM X.K Z (ret (.bool b))) := PE_weak pe_bl fun σ H Q ⟨e, R, p⟩ => p (.bl b) H .refl R (.bl b)
theorem e_non {j pos} : PE X (.Constant .none j pos) (tM X.K Z (ret .none)) := PE_weak pe_non fun σ H Q ⟨e, R, p⟩ => p .non H .refl R .non
theorem e_str {x j pos} : PE X (.Constant (.str x) j pos) (tM X.K Z (ret (.str x))) := PE_weak pe_str fun σ H Q ⟨e, R, p⟩ => p (.str x) H .refl R (.str x)
/-- a name in slot i: data; or open: locked from here on (vl); or open, looked at for the moment (vq) -/
def vr (i : Nat) : M D := fun e => match e[i]? with
  | some (.fz d) => .ok d e
  | _ => .no
def vl (i : Nat) : M D := fun e => match e[i]? with
  | some (.fz d) => .ok d e
  | some (.op d) => .ok d (e.set i (.fz d))
  | _ => .no
def vq (i : Nat) : M D := fun e => match e[i]? with
  | some (.fz d) => .ok d e
  | some (.op d) => .ok d e
  | _ => .no
theorem e_vr {e : Expr} {i : Nat} (h : PE X e (tVar i)) : PE X e (tM X.K Z (vr i)) := PE_weak h fun σ H Q ⟨en, R, p⟩ => by
  unfold vr at p
  split at p
  · rename_i d hd
    obtain ⟨v, hv, r⟩ := R.fz i d hd
    exact ⟨v, hv, p v H .refl R r⟩
  · exact p.elim
theorem e_vq {e : Expr} {i : Nat} (h : PE X e (tVar i)) : PE X e (tQ X.K Z (vq i)) := PE_weak h fun σ H Q ⟨en, R, p⟩ => by
  unfold vq at p
  split at p
  · rename_i d hd
    obtain ⟨v, hv, r⟩ := R.fz i d hd
    exact ⟨v, hv, p v H .refl R (.inl r)⟩
  · rename_i d hd
    obtain ⟨a, ha, o, _⟩ := R.op i d hd
    exact ⟨.ref a, ha, p _ H .refl R (.inr ⟨a, rfl, o⟩)⟩
  · exact p.elim
theorem e_vl {e : Expr} {i : Nat} (h : PE X e (tVar i)) : PE X e (tM X.K Z (vl i)) := PE_weak (pe_lk h) fun σ H Q ⟨en, R, p⟩ => by
  unfold vl at p
  split at p
  · rename_i d hd
    obtain ⟨v, hv, r⟩ := R.fz i d hd
    exact ⟨v, hv, .inl (p v H .refl R r)⟩
  · rename_i d hd
    obtain ⟨a, ha, o, _⟩ := R.op i d hd
    obtain ⟨u, hu, mu⟩ := o.there
    exact ⟨.ref a, ha, .inr ⟨a, u, rfl, hu, mu, fun od => p _ _ (mono_upd hu mu) (R.lock hd ha hu mu od) (o.lock hu (fun _ => mono_upd hu mu) od)⟩⟩
  · exact p.elim

/-! ### operators -/
def bin (op : D → D → Option D) (a b : M D) : M D := bnd a fun x => bnd b fun y => lft (op x y)
def una (op : D → Option D) (a : M D) : M D := bnd a fun x => lft (op x)
/-- what an operation on data asks of its rule -/
def BinR (K : PySem.W.Frag) (r : R2) (op : D → D → Option D) : Prop := ∀ (v w : V) (x y d : D) (H : Hp) (Q : VK), Rp K H v x → Rq K H w y → op x y = some d → (∀ u H', Same H H' → Rp K H' u d → Q u H') → r v w H Q
def BinX (K : PySem.W.Frag) (r : R2) (op : D → D → Option D) : Prop := ∀ (v w : V) (x y d : D) (H : Hp) (Q : VK), Rp K H v x → Rq K H w y → op x y = some d → (∀ u H', Same H H' → (Rp K H' u d ∨ ∃ a, u = .ref a ∧ Opn K H' a d ∧ H a = none) → Q u H') → r v w H Q
theorem t_bin {K : PySem.W.Frag} {r : R2} {op : D → D → Option D} {a b : M D} (h : BinR K r op) (σ : SS) (H : Hp) (Q : VK) (p : tM K Z (bin op a b) σ H Q) : tOp r (tM K Z a) (tQ K Z b) σ H Q := by
  obtain ⟨e, R, p⟩ := p
  refine ⟨e, R, pst_bnd p fun v H1 x e1 m1 R1 r1 p1 => ⟨e1, R1, pst_bnd p1 fun w H2 y e2 m2 R2 r2 p2 => ?_⟩⟩
  obtain ⟨d, hd, q⟩ := pst_lft p2
  exact h v w x y d H2 Q (Rp.mono m2 r1) r2 hd fun u H' s ru => q u H' (.same s) (R2.same s) ru
theorem t_binX {K : PySem.W.Frag} {r : R2} {op : D → D → Option D} {a b : M D} (h : BinX K r op) (σ : SS) (H : Hp) (Q : VK) (p : tX K Z (bin op a b) σ H Q) : tOp r (tM K Z a) (tQ K Z b) σ H Q := by
  obtain ⟨e, R, p⟩ := p
  refine ⟨e, R, pst_bnd p fun v H1 x e1 m1 R1 r1 p1 => ⟨e1, R1, pst_bnd p1 fun w H2 y e2 m2 R2 r2 p2 => ?_⟩⟩
  obtain ⟨d, hd, q⟩ := pst_lft p2
  refine h v w x y d H2 Q (Rp.mono m2 r1) r2 hd fun u H' s ru => q u H' (.same s) (R2.same s) ?_
  rcases ru with ru | ⟨c, rfl, o, hc⟩
  · exact .inl ru
  · obtain ⟨hb, hs⟩ := R2.fresh hc
    exact .inr ⟨c, rfl, o, hb, hs⟩
/-- the left operand an open name's, the right one as it comes -/
def binL (op : D → D → Option D) (i : Nat) (b : M D) : M D := bnd (vq i) fun _ => bnd b fun y => bnd (vq i) fun x => lft (op x y)
def BinL (K : PySem.W.Frag) (r : R2) (op : D → D → Option D) : Prop := ∀ (v w : V) (x y d : D) (H : Hp) (Q : VK), Rq K H v x → Rp K H w y → op x y = some d → (∀ u H', Same H H' → (Rp K H' u d ∨ ∃ a, u = .ref a ∧ Opn K H' a d ∧ H a = none) → Q u H') → r v w H Q
theorem slot_of {K : PySem.W.Frag} {σ : SS} {H : Hp} {e : En} {i : Nat} {d : D} (R : Rel K Z σ H e) (h : e[i]? = some (.fz d) ∨ e[i]? = some (.op d)) : ∃ v, σ[i]? = some (some v) ∧ Rq K H v d := by
  rcases h with h | h
  · obtain ⟨v, hv, r⟩ := R.fz i d h; exact ⟨v, hv, .inl r⟩
  · obtain ⟨a, ha, o, _⟩ := R.op i d h; exact ⟨_, ha, .inr ⟨a, rfl, o⟩⟩
theorem vq_ok {K : PySem.W.Frag} {α β : Type} {r : RR β α} {σ : SS} {H : Hp} {Q : β → Hp → Prop} {i : Nat} {f : D → M α} {e : En} (R : Rel K Z σ H e) (p : pst K Z r σ H Q (bnd (vq i) f e)) :
    ∃ v d, σ[i]? = some (some v) ∧ Rq K H v d ∧ pst K Z r σ H Q (f d e) := by
  unfold bnd at p
  split at p
  · rename_i d e1 h
    unfold vq at h
    split at h
    · rename_i f hf; cases h
      obtain ⟨v, hv, q⟩ := slot_of R (.inl hf)
      exact ⟨v, _, hv, q, p⟩
    · rename_i f hf; cases h
      obtain ⟨v, hv, q⟩ := slot_of R (.inr hf)
      exact ⟨v, _, hv, q, p⟩
    · cases h
  · rename_i h; unfold vq at h; split at h <;> cases h
  · exact p.elim
theorem t_binL {K : PySem.W.Frag} {r : R2} {op : D → D → Option D} {i : Nat} {b : M D} (h : BinL K r op) (σ : SS) (H : Hp) (Q : VK) (p : tX K Z (binL op i b) σ H Q) : tOp r (tVar i) (tM K Z b) σ H Q := by
  obtain ⟨e, R, p⟩ := p
  obtain ⟨v, _, hv, _, p⟩ := vq_ok R p
  refine ⟨v, hv, e, R, pst_bnd p fun w H1 y e1 m1 R1 r1 p1 => ?_⟩
  obtain ⟨v', x, hv', rq, p2⟩ := vq_ok R1 p1
  rw [hv] at hv'; cases hv'
  obtain ⟨d, hd, q⟩ := pst_lft p2
  refine h v w x y d H1 Q rq r1 hd fun u H' s ru => q u H' (.same s) (R1.same s) ?_
  rcases ru with ru | ⟨c, rfl, o, hc⟩
  · exact .inl ru
  · obtain ⟨hb, hs⟩ := R1.fresh hc
    exact .inr ⟨c, rfl, o, hb, hs⟩
end
end ZZ

namespace ZZ
open PySem PySem.Spec L2
variable [TabC]

/-! ### operations on data -/
def ofInt : D → Option Int
  | .int i => some i
  | _ => none
theorem ofInt_eq {d : D} {i : Int} (h : ofInt d = some i) : d = .int i := by
  cases d <;> simp [ofInt] at h
  rw [h]
theorem rq_int {K : PySem.W.Frag} {H : Hp} {v : V} {i : Int} (h : Rq K H v (.int i)) : v = .int i := by
  rcases h with h | ⟨a, _, o⟩
  · cases h; rfl
  · exact o.elim
theorem rp_int {K : PySem.W.Frag} {H : Hp} {v : V} {i : Int} (h : Rp K H v (.int i)) : v = .int i := by cases h; rfl
theorem rp_str {K : PySem.W.Frag} {H : Hp} {v : V} {i : Str} (h : Rp K H v (.str i)) : v = .str i := by cases h; rfl
theorem rp_bl {K : PySem.W.Frag} {H : Hp} {v : V} {i : Bool} (h : Rp K H v (.bool i)) : v = .bl i := by cases h; rfl
theorem rq_str {K : PySem.W.Frag} {H : Hp} {v : V} {i : Str} (h : Rq K H v (.str i)) : v = .str i := by
  rcases h with h | ⟨a, _, o⟩
  · cases h; rfl
  · exact o.elim
theorem rq_bl {K : PySem.W.Frag} {H : Hp} {v : V} {i : Bool} (h : Rq K H v (.bool i)) : v = .bl i := by
  rcases h with h | ⟨a, _, o⟩
  · cases h; rfl
  · exact o.elim
theorem rq_lst {K : PySem.W.Frag} {H : Hp} {v : V} {ds : List D} (h : Rq K H v (.list ds)) : ∃ a xs, v = .ref a ∧ SqL K H a xs ∧ RpA K H xs ds := by
  rcases h with h | ⟨a, rfl, xs, h, r⟩
  · cases h with
    | lst h r => exact ⟨_, _, rfl, h.sq, r⟩
  · exact ⟨a, xs, rfl, SqL.of h, r⟩
theorem rp_lst {K : PySem.W.Frag} {H : Hp} {v : V} {ds : List D} (h : Rp K H v (.list ds)) : ∃ a xs, v = .ref a ∧ SqL K H a xs ∧ RpA K H xs ds := rq_lst (.inl h)
theorem rp_tup {K : PySem.W.Frag} {H : Hp} {v : V} {ds : List D} (h : Rp K H v (.tuple ds)) : ∃ a xs, v = .ref a ∧ SqT K H a xs ∧ RpA K H xs ds := by
  cases h with
  | tup h r => exact ⟨_, _, rfl, h, r⟩
theorem rq_tup {K : PySem.W.Frag} {H : Hp} {v : V} {ds : List D} (h : Rq K H v (.tuple ds)) : ∃ a xs, v = .ref a ∧ SqT K H a xs ∧ RpA K H xs ds := by
  rcases h with h | ⟨a, _, o⟩
  · exact rp_tup h
  · exact o.elim
theorem Rp.same {K : PySem.W.Frag} {H H' : Hp} {v : V} {d : D} (s : Same H H') (h : Rp K H v d) : Rp K H' v d := h.mono (.same s)
theorem same_upd {H : Hp} {p : Addr} {o : HO} (h : H p = none) : Same H (upd H p o) := fun b x e => by
  rw [upd_ne (ne_of_none e h)]
  exact e
theorem nil_iff {K : PySem.W.Frag} {H : Hp} {xs : List V} {ds : List D} (r : RpA K H xs ds) : xs = [] ↔ ds = [] := by
  cases r <;> simp

section
variable {X : Cx}
/-- a rule for x op y, x an expression, y for the moment -/
theorem e_bin {e : Expr} {a b : Expr} {o : Operator} {pos : Pos} {r : R2} {op : D → D → Option D} {Z : ZC} {ma mb : M D} (ho : OpR X (binaryOp o) r) (h : BinR X.K r op) (ha : PE X a (tM X.K Z ma)) (hb : PE X b (tM X.K Z mb)) :
    PE X (.BinOp a o b pos) (tM X.K Z (bin op ma mb)) := PE_weak (pe_op ho ha (e_q hb)) (t_bin h)
theorem e_binX {a b : Expr} {o : Operator} {pos : Pos} {r : R2} {op : D → D → Option D} {Z : ZC} {ma mb : M D} (ho : OpR X (binaryOp o) r) (h : BinX X.K r op) (ha : PE X a (tM X.K Z ma)) (hb : PE X b (tQ X.K Z mb)) :
    PE X (.BinOp a o b pos) (tX X.K Z (bin op ma mb)) := PE_weak (pe_op ho ha hb) (t_binX h)

/-! + -/
theorem op_catS : OpR X (binaryOp .Add) (fun x y H Q => ∃ l b xs zs, x = V.ref l ∧ y = V.ref b ∧ SqL X.K H l xs ∧ SqL X.K H b zs ∧ xs.length + zs.length ≤ sizeLine ∧ ∀ p, H p = none → Q (.ref p) (upd H p (.lst (xs ++ zs)))) := by
  intro pins s σ H x y v u Q I rx ry h
  obtain ⟨l, b, xs, zs, rfl, rfl, hl, hb, hz, q⟩ := h
  cases rx
  cases ry
  obtain ⟨its, r, ⟨⟨cls, dd, data, sl⟩, n, ho, hc, _, hd⟩, _⟩ := I.list hl
  obtain ⟨its2, r2, ⟨⟨cls2, dd2, data2, sl2⟩, n2, ho2, hc2, _, hd2⟩, _⟩ := I.list hb
  simp only at hc hd hc2 hd2
  subst hc hd hc2 hd2
  have e1 := r.length
  have e2 := r2.length
  have e : its.toArray ++ its2.toArray = (its ++ its2).toArray := by simp
  refine PySem.concat_meets ⟨_, ho, rfl⟩ ⟨_, ho2, rfl⟩ noFill_list_add seq_list_add PySem.F.slot_list_add PySem.F.entry_list_add (PySem.F.args_list_add_2 _ _) (PyProof.Rows.list_addW l b its.toArray its2.toArray n n2 dd dd2 sl sl2 (by rw [List.size_toArray, List.size_toArray]; omega)) ⟨ho, ho2, ?_⟩
  rw [e]
  exact ⟨.ref _, _, I.lnew (t' := s.toks) (r.append r2) (by rw [List.length_append]; omega), rfl, q _ I.fresh⟩
def addD : D → D → Option D
  | .int i, .int j => some (.int (i + j))
  | .str i, .str j => if i.length + j.length ≤ sizeLine then some (.str (i ++ j)) else none
  | .tuple xs, .tuple ys => if xs.length + ys.length ≤ sizeLine then some (.tuple (xs ++ ys)) else none
  | .list xs, .list ys => if xs.length + ys.length ≤ sizeLine then some (.list (xs ++ ys)) else none
  | _, _ => none
abbrev rAdd (K : PySem.W.Frag) : R2 := fun x y H Q =>
  (∃ i j, x = .int i ∧ y = .int j ∧ Q (.int (i + j)) H) ∨ (∃ i j, x = .str i ∧ y = .str j ∧ i.length + j.length ≤ sizeLine ∧ Q (.str (i ++ j)) H) ∨ rCatA K x y H Q ∨
  (∃ l b xs zs, x = V.ref l ∧ y = V.ref b ∧ SqL K H l xs ∧ SqL K H b zs ∧ xs.length + zs.length ≤ sizeLine ∧ ∀ p, H p = none → Q (.ref p) (upd H p (.lst (xs ++ zs))))
theorem o_add : OpR X (binaryOp .Add) (rAdd X.K) := op_add.or (op_add_str.or (op_catA.or op_catS))
theorem add_ok {K : PySem.W.Frag} {v w : V} {x y d : D} {H : Hp} {Q : VK} (hx : Rq K H v x) (hy : Rq K H w y) (h : addD x y = some d) (q : ∀ u H', Same H H' → (Rp K H' u d ∨ ∃ a, u = .ref a ∧ Opn K H' a d ∧ H a = none) → Q u H') : rAdd K v w H Q := by
  cases x <;> cases y <;> simp only [addD] at h <;> try cases h
  · cases rq_int hx; cases rq_int hy
    exact .inl ⟨_, _, rfl, rfl, q _ H (Same.refl H) (.inl (.int _))⟩
  · cases rq_str hx; cases rq_str hy
    split at h
    · cases h
      exact .inr (.inl ⟨_, _, rfl, rfl, by assumption, q _ H (Same.refl H) (.inl (.str _))⟩)
    · cases h
  · rename_i ds es
    obtain ⟨a, xs, rfl, ha, ra⟩ := rq_lst hx
    obtain ⟨b, ys, rfl, hb, rb⟩ := rq_lst hy
    have ea := ra.length
    have eb := rb.length
    split at h
    · cases h
      refine .inr (.inr (.inr ⟨a, b, xs, ys, rfl, rfl, ha, hb, by omega, fun p hp => q _ _ (same_upd hp) (.inr ⟨p, rfl, ⟨_, upd_same, ?_⟩, hp⟩)⟩))
      exact (ra.append rb).mono (.same (same_upd hp))
    · cases h
  · rename_i ds es
    obtain ⟨a, xs, rfl, ha, ra⟩ := rq_tup hx
    obtain ⟨b, ys, rfl, hb, rb⟩ := rq_tup hy
    have ea := ra.length
    have eb := rb.length
    split at h
    · cases h
      refine .inr (.inr (.inl ⟨a, b, xs, ys, rfl, rfl, ha, hb, by omega, fun e => ?_, fun _ e => ?_, fun _ _ p hp => ?_⟩))
      · have : ds = [] := (nil_iff ra).mp e
        subst this
        exact q _ H (Same.refl H) (.inl (.tup hb rb))
      · have : es = [] := (nil_iff rb).mp e
        subst this
        rw [List.append_nil] at q
        exact q _ H (Same.refl H) (.inl (.tup ha ra))
      · exact q _ _ (same_upd hp) (.inl (.tup (SqT.of upd_same) ((ra.append rb).mono (.same (same_upd hp)))))
    · cases h
theorem b_add {K : PySem.W.Frag} : BinX K (rAdd K) addD := fun v w x y d H Q hx hy h q => add_ok (.inl hx) hy h q
theorem bl_add {K : PySem.W.Frag} : BinL K (rAdd K) addD := fun v w x y d H Q hx hy h q => add_ok hx (.inl hy) h q
theorem e_add {a b : Expr} {pos : Pos} {Z : ZC} {ma mb : M D} (ha : PE X a (tM X.K Z ma)) (hb : PE X b (tQ X.K Z mb)) : PE X (.BinOp a .Add b pos) (tX X.K Z (bin addD ma mb)) := e_binX o_add b_add ha hb
theorem e_addL {a b : Expr} {pos : Pos} {Z : ZC} {i : Nat} {mb : M D} (ha : PE X a (tVar i)) (hb : PE X b (tM X.K Z mb)) : PE X (.BinOp a .Add b pos) (tX X.K Z (binL addD i mb)) := PE_weak (pe_op o_add ha hb) (t_binL bl_add)

/-! ints -/
def subD : D → D → Option D
  | .int i, .int j => some (.int (i - j))
  | _, _ => none
theorem b_sub {K : PySem.W.Frag} : BinR K (rI0 fun i j => .int (i - j)) subD := fun v w x y d H Q hx hy h q => by
  cases x <;> cases y <;> simp only [subD] at h <;> cases h
  cases rp_int hx; cases rq_int hy
  exact ⟨_, _, rfl, rfl, q _ H (Same.refl H) (.int _)⟩
theorem e_sub {a b : Expr} {pos : Pos} {Z : ZC} {ma mb : M D} (ha : PE X a (tM X.K Z ma)) (hb : PE X b (tM X.K Z mb)) : PE X (.BinOp a .Sub b pos) (tM X.K Z (bin subD ma mb)) := PE_weak (pe_op op_sub ha (e_q hb)) (t_bin b_sub)
def mulOk (i j : Int) : Bool := decide (i.natAbs < 18446744073709551616) || decide (j.natAbs < 18446744073709551616) || decide (i.natAbs.log2 + j.natAbs.log2 < 1000000)
def mulD : D → D → Option D
  | .int i, .int j => if mulOk i j = true then some (.int (i * j)) else none
  | .tuple xs, .int k => if xs ≠ [] ∧ 2 ≤ k ∧ k ≤ 1000 ∧ xs.length ≤ 1000 then some (.tuple (List.replicate k.toNat xs).flatten) else if k = 1 ∧ False then none else none
  | _, _ => none
abbrev rMul (K : PySem.W.Frag) : R2 := fun x y H Q => rI CMul (fun i j => .int (i * j)) x y H Q ∨ rI CMulW (fun i j => .int (i * j)) x y H Q ∨ rRepT K x y H Q
theorem o_mul : OpR X (binaryOp .Mult) (rMul X.K) := op_mul.or (op_mulW.or op_repT)
theorem mulOk_of {i j : Int} (h : mulOk i j = true) : CMul i j ∨ CMulW i j := by
  unfold mulOk at h
  simp only [Bool.or_eq_true, decide_eq_true_eq] at h
  rcases h with (h | h) | h
  · exact .inl (.inl (by omega))
  · exact .inl (.inr (by omega))
  · exact .inr h
theorem RpA.rep {K : PySem.W.Frag} {H : Hp} {xs : List V} {ds : List D} (r : RpA K H xs ds) : ∀ n : Nat, RpA K H (List.replicate n xs).flatten (List.replicate n ds).flatten
  | 0 => .nil
  | n + 1 => by
    rw [List.replicate_succ, List.replicate_succ, List.flatten_cons, List.flatten_cons]
    exact r.append (r.rep n)
theorem b_mul {K : PySem.W.Frag} : BinR K (rMul K) mulD := fun v w x y d H Q hx hy h q => by
  cases x <;> cases y <;> simp only [mulD] at h <;> try cases h
  · cases rp_int hx; cases rq_int hy
    split at h
    · cases h
      rename_i hm
      rcases mulOk_of hm with hm | hm
      · exact .inl ⟨_, _, rfl, rfl, hm, q _ H (Same.refl H) (.int _)⟩
      · exact .inr (.inl ⟨_, _, rfl, rfl, hm, q _ H (Same.refl H) (.int _)⟩)
    · cases h
  · cases rq_int hy
    obtain ⟨a, xs, rfl, ha, ra⟩ := rp_tup hx
    split at h
    · rename_i hk
      cases h
      obtain ⟨h1, h2, h3, h4⟩ := hk
      have := ra.length
      exact .inr (.inr ⟨a, _, xs, rfl, rfl, ha, fun e => h1 ((nil_iff ra).mp e), h2, h3, by omega, fun p hp => q _ _ (same_upd hp) (.tup (SqT.of upd_same) ((ra.rep _).mono (.same (same_upd hp))))⟩)
    · simp at h
theorem e_mul {a b : Expr} {pos : Pos} {Z : ZC} {ma mb : M D} (ha : PE X a (tM X.K Z ma)) (hb : PE X b (tM X.K Z mb)) : PE X (.BinOp a .Mult b pos) (tM X.K Z (bin mulD ma mb)) := PE_weak (pe_op o_mul ha (e_q hb)) (t_bin b_mul)
def modD : D → D → Option D
  | .int i, .int j => if 0 < j then some (.int (i % j)) else none
  | _, _ => none
theorem b_mod {K : PySem.W.Frag} : BinR K (rI (fun _ j => 0 < j) fun i j => .int (i % j)) modD := fun v w x y d H Q hx hy h q => by
  cases x <;> cases y <;> simp only [modD] at h <;> try cases h
  cases rp_int hx; cases rq_int hy
  split at h
  · cases h
    exact ⟨_, _, rfl, rfl, by assumption, q _ H (Same.refl H) (.int _)⟩
  · cases h
theorem e_mod {a b : Expr} {pos : Pos} {Z : ZC} {ma mb : M D} (ha : PE X a (tM X.K Z ma)) (hb : PE X b (tM X.K Z mb)) : PE X (.BinOp a .Mod b pos) (tM X.K Z (bin modD ma mb)) := PE_weak (pe_op op_mod ha (e_q hb)) (t_bin b_mod)
def divD : D → D → Option D
  | .int i, .int j => if 0 < j ∧ j < 1073741824 then some (.int (i / j)) else if 0 < j ∧ j.natAbs.log2 < 9000 then some (.int (i / j)) else none
  | _, _ => none
abbrev rDiv : R2 := fun x y H Q => rI CDiv (fun i j => .int (i / j)) x y H Q ∨ rI CDivW (fun i j => .int (i / j)) x y H Q
theorem o_div : OpR X (binaryOp .FloorDiv) rDiv := op_fdiv.or op_fdivW
theorem b_div {K : PySem.W.Frag} : BinR K rDiv divD := fun v w x y d H Q hx hy h q => by
  cases x <;> cases y <;> simp only [divD] at h <;> try cases h
  cases rp_int hx; cases rq_int hy
  split at h
  · cases h
    exact .inl ⟨_, _, rfl, rfl, by assumption, q _ H (Same.refl H) (.int _)⟩
  · split at h
    · cases h
      exact .inr ⟨_, _, rfl, rfl, by assumption, q _ H (Same.refl H) (.int _)⟩
    · cases h
theorem e_div {a b : Expr} {pos : Pos} {Z : ZC} {ma mb : M D} (ha : PE X a (tM X.K Z ma)) (hb : PE X b (tM X.K Z mb)) : PE X (.BinOp a .FloorDiv b pos) (tM X.K Z (bin divD ma mb)) := PE_weak (pe_op o_div ha (e_q hb)) (t_bin b_div)
def powOk (i j : Int) : Bool := decide (0 ≤ j) && (decide (j ≤ 1000000 ∧ i.natAbs < 2 ^ 64) || decide ((Builtin.Int.intBits i : Int) * j ≤ 2 ^ 27))
def powD : D → D → Option D
  | .int i, .int j => if powOk i j = true then some (.int (i ^ j.toNat)) else none
  | _, _ => none
abbrev rPow : R2 := fun x y H Q => rI CPow (fun i j => .int (i ^ j.toNat)) x y H Q ∨ rI (fun i j => 0 ≤ j ∧ (Builtin.Int.intBits i : Int) * j ≤ 2 ^ 27) (fun i j => .int (i ^ j.toNat)) x y H Q
theorem o_pow : OpR X (binaryOp .Pow) rPow := op_pow.or (opI fun _ _ _ _ _ _ _ hc q => PyProof.Rows.pow_int hc.1 hc.2 q)
theorem b_pow {K : PySem.W.Frag} : BinR K rPow powD := fun v w x y d H Q hx hy h q => by
  cases x <;> cases y <;> simp only [powD] at h <;> try cases h
  cases rp_int hx; cases rq_int hy
  split at h
  · cases h
    rename_i hp
    unfold powOk at hp
    simp only [Bool.and_eq_true, Bool.or_eq_true, decide_eq_true_eq] at hp
    obtain ⟨h0, hp | hp⟩ := hp
    · exact .inl ⟨_, _, rfl, rfl, ⟨h0, hp.1, hp.2⟩, q _ H (Same.refl H) (.int _)⟩
    · exact .inr ⟨_, _, rfl, rfl, ⟨h0, hp⟩, q _ H (Same.refl H) (.int _)⟩
  · cases h
theorem e_pow {a b : Expr} {pos : Pos} {Z : ZC} {ma mb : M D} (ha : PE X a (tM X.K Z ma)) (hb : PE X b (tM X.K Z mb)) : PE X (.BinOp a .Pow b pos) (tM X.K Z (bin powD ma mb)) := PE_weak (pe_op o_pow ha (e_q hb)) (t_bin b_pow)
end
end ZZ

namespace ZZ
open PySem PySem.Spec L2
variable [TabC]

/-- both for the moment -/
def BinQ (K : PySem.W.Frag) (r : R2) (op : D → D → Option D) : Prop := ∀ (v w : V) (x y d : D) (H : Hp) (Q : VK), Rq K H v x → Rq K H w y → op x y = some d → (∀ u, Rp K H u d → Q u H) → r v w H Q
theorem BinQ.r {K : PySem.W.Frag} {r : R2} {op : D → D → Option D} (h : BinQ K r op) : BinR K r op := fun v w x y d H Q hx hy e q => h v w x y d H Q (.inl hx) hy e fun u ru => q u H (Same.refl H) ru
theorem t_binQL {K : PySem.W.Frag} {Z : ZC} {r : R2} {op : D → D → Option D} {i : Nat} {b : M D} (h : BinQ K r op) (σ : SS) (H : Hp) (Q : VK) (p : tM K Z (binL op i b) σ H Q) : tOp r (tVar i) (tM K Z b) σ H Q := by
  obtain ⟨e, R, p⟩ := p
  obtain ⟨v, _, hv, _, p⟩ := vq_ok R p
  refine ⟨v, hv, e, R, pst_bnd p fun w H1 y e1 m1 R1 r1 p1 => ?_⟩
  obtain ⟨v', x, hv', rq, p2⟩ := vq_ok R1 p1
  rw [hv] at hv'; cases hv'
  obtain ⟨d, hd, q⟩ := pst_lft p2
  exact h v w x y d H1 Q rq (.inl r1) hd fun u ru => q u H1 .refl R1 ru
/-! ### comparisons -/
def strs2 : D → D → Option Bool
  | .str a, .str b => some (decide (a = b))
  | _, _ => none
def eqD : D → D → Option D := fun x y => match strs2 x y with
  | some b => some (.bool b)
  | none => if SeqAt.shaped x = true ∧ SeqAt.shaped y = true then some (.bool (PyData.eqv x y)) else none
def neD : D → D → Option D := fun x y => match strs2 x y with
  | some b => some (.bool !b)
  | none => if SeqAt.shaped x = true ∧ SeqAt.shaped y = true then some (.bool (!PyData.eqv x y)) else none
theorem strs2_some {x y : D} {b : Bool} (h : strs2 x y = some b) : ∃ i j, x = .str i ∧ y = .str j ∧ b = decide (i = j) := by
  cases x with
  | str i =>
    cases y with
    | str j => cases h; exact ⟨i, j, rfl, rfl, rfl⟩
    | _ => cases h
  | _ => cases h
theorem Rq.dp {K : PySem.W.Frag} {H : Hp} {v : V} {d : D} (h : Rq K H v d) (s : PyData.canLay0 d = true) : Dp K H v d := by
  rcases h with h | ⟨a, rfl, o⟩
  · exact h.dp s
  · cases d with
    | list ds =>
      obtain ⟨xs, h, r⟩ := o
      exact .lst (SqL.of h) (r.dp (by simpa only [PyData.canLay0] using s))
    | dict ds => simp only [PyData.canLay0] at s; cases s
    | _ => exact o.elim
abbrev rEqA (K : PySem.W.Frag) : R2 := fun x y H Q => rEq x y H Q ∨ rEqD K x y H Q
abbrev rNeA (K : PySem.W.Frag) : R2 := fun x y H Q => rNe x y H Q ∨ rNeD K x y H Q
theorem o_eq {X : Cx} (hu : X.A.units + 64 < cLine) : OpR X (compareOp .Eq) (rEqA X.K) := op_eq.or (op_eqD hu)
theorem o_ne {X : Cx} (hu : X.A.units + 64 < cLine) : OpR X (compareOp .NotEq) (rNeA X.K) := op_ne.or (op_neD hu)
theorem dec_strs {i j : Str} : decide (V.str i = V.str j) = decide (i = j) := by
  by_cases h : i = j
  · rw [decide_eq_true h, decide_eq_true (congrArg V.str h)]
  · rw [decide_eq_false h, decide_eq_false fun e => h (V.str.inj e)]
theorem b_eq {K : PySem.W.Frag}   : BinQ K (rEqA K) eqD := fun v w x y d H Q hx hy h q => by
  simp only [eqD] at h
  split at h
  · rename_i b hb
    cases h
    obtain ⟨i, j, rfl, rfl, rfl⟩ := strs2_some hb
    rw [rq_str hx, rq_str hy]
    exact .inl ⟨rfl, by rw [dec_strs]; exact q _ (.bl _)⟩
  · split at h
    · rename_i s
      cases h
      exact .inr ⟨x, y, hx.dp (SeqAt.canLay_of_shaped s.1), hy.dp (SeqAt.canLay_of_shaped s.2), s.1, s.2, q _ (.bl _)⟩
    · cases h
theorem b_ne {K : PySem.W.Frag}   : BinQ K (rNeA K) neD := fun v w x y d H Q hx hy h q => by
  simp only [neD] at h
  split at h
  · rename_i b hb
    cases h
    obtain ⟨i, j, rfl, rfl, rfl⟩ := strs2_some hb
    rw [rq_str hx, rq_str hy]
    exact .inl ⟨rfl, by rw [dec_strs]; exact q _ (.bl _)⟩
  · split at h
    · rename_i s
      cases h
      exact .inr ⟨x, y, hx.dp (SeqAt.canLay_of_shaped s.1), hy.dp (SeqAt.canLay_of_shaped s.2), s.1, s.2, q _ (.bl _)⟩
    · cases h
def strLt (i j : Str) : Bool := decide (i.cps.toList < j.cps.toList)
def ltD : D → D → Option D
  | .int i, .int j => some (.bool (decide (i < j)))
  | .str i, .str j => some (.bool (strLt i j))
  | _, _ => none
def leD : D → D → Option D
  | .int i, .int j => some (.bool (decide (i ≤ j)))
  | _, _ => none
def gtD : D → D → Option D
  | .int i, .int j => some (.bool (decide (j < i)))
  | _, _ => none
def geD : D → D → Option D
  | .int i, .int j => some (.bool (decide (j ≤ i)))
  | _, _ => none
abbrev rLt : R2 := fun x y H Q => rI0 (fun i j => .bl (decide (i < j))) x y H Q ∨ (∃ i j, x = .str i ∧ y = .str j ∧ Q (.bl (decide (i.cps.toList < j.cps.toList))) H)
theorem b_lt {K : PySem.W.Frag}   : BinQ K rLt ltD := fun v w x y d H Q hx hy h q => by
  cases x <;> cases y <;> simp only [ltD] at h <;> cases h
  · cases rq_int hx; cases rq_int hy
    exact .inl ⟨_, _, rfl, rfl, q _ (.bl _)⟩
  · cases rq_str hx; cases rq_str hy
    exact .inr ⟨_, _, rfl, rfl, q _ (.bl _)⟩
theorem b_le {K : PySem.W.Frag}   : BinQ K (rI0 fun i j => .bl (decide (i ≤ j))) leD := fun v w x y d H Q hx hy h q => by
  cases x <;> cases y <;> simp only [leD] at h <;> cases h
  cases rq_int hx; cases rq_int hy
  exact ⟨_, _, rfl, rfl, q _ (.bl _)⟩
theorem b_gt {K : PySem.W.Frag}   : BinQ K (rI0 fun i j => .bl (decide (j < i))) gtD := fun v w x y d H Q hx hy h q => by
  cases x <;> cases y <;> simp only [gtD] at h <;> cases h
  cases rq_int hx; cases rq_int hy
  exact ⟨_, _, rfl, rfl, q _ (.bl _)⟩
theorem b_ge {K : PySem.W.Frag}   : BinQ K (rI0 fun i j => .bl (decide (j ≤ i))) geD := fun v w x y d H Q hx hy h q => by
  cases x <;> cases y <;> simp only [geD] at h <;> cases h
  cases rq_int hx; cases rq_int hy
  exact ⟨_, _, rfl, rfl, q _ (.bl _)⟩
/-! in -/
def strIn (i j : Str) : Bool := !(Builtin.Str.occurrences j i 0 j.length 1).isEmpty
def inD : D → D → Option D
  | x, .list ds => if SeqAt.shaped x = true ∧ PyData.canLayAll0 ds = true then some (.bool (ds.any fun z => PyData.eqv z x)) else none
  | x, .tuple ds => if SeqAt.shaped x = true ∧ PyData.canLayAll0 ds = true then some (.bool (ds.any fun z => PyData.eqv z x)) else none
  | .str i, .str j => some (.bool (strIn i j))
  | .int i, .dict kvs => some (.bool (kvs.any fun z => PyData.eqv z.1 (.int i)))
  | .str i, .dict kvs => some (.bool (kvs.any fun z => PyData.eqv z.1 (.str i)))
  | _, _ => none
def notD : D → Option D
  | .bool b => some (.bool !b)
  | _ => none
def ninD (x y : D) : Option D := (inD x y).bind notD
abbrev rInA (K : PySem.W.Frag) (neg : Bool) : R2 := fun x y H Q =>
  (∃ d ds, Dp K H x d ∧ (Dp K H y (.list ds) ∨ Dp K H y (.tuple ds)) ∧ SeqAt.shaped d = true ∧ PyData.canLayAll0 ds = true ∧ Q (.bl (if neg then !(ds.any fun z => PyData.eqv z d) else ds.any fun z => PyData.eqv z d)) H) ∨
  (∃ i j, x = .str i ∧ y = .str j ∧ Q (.bl (if neg then !strIn i j else strIn i j)) H) ∨
  (∃ a k kvs, x = kV k ∧ y = .ref a ∧ Rd H a (.dK kvs) ∧ Q (.bl (if neg then !(valV kvs k).isSome else (valV kvs k).isSome)) H)
theorem room_in {A : Around} {ds : List D} {d : D} (sd : SeqAt.shaped d = true) (hu : A.units + 66 < cLine) : A.units + 1 + min (PyData.depthAll ds) d.depth < cLine := by
  have : d.depth ≤ 64 := by
    have h := sd
    unfold SeqAt.shaped at h
    simp only [Bool.and_eq_true, decide_eq_true_eq] at h
    exact h.2
  have : min (PyData.depthAll ds) d.depth ≤ 64 := Nat.le_trans (Nat.min_le_right _ _) this
  omega
section
variable {X : Cx}
theorem o_inA (hu : X.A.units + 66 < cLine) : OpR X (compareOp .In) (rInA X.K false) := by
  intro pins s σ H x y v u Q I rx ry h
  rcases h with ⟨d, ds, hd, he, sd, se, q⟩ | ⟨i, j, rfl, rfl, q⟩ | ⟨a, k, kvs, rfl, rfl, hk, q⟩
  · obtain ⟨as, r1⟩ := Dp.reads I d x v hd rx
    rcases he with he | he
    · obtain ⟨bs, r2⟩ := Dp.reads I _ y u he ry
      exact SeqAt.in_list_reads r2 r1 se (SeqAt.canLay_of_shaped sd) (room_in sd hu) ⟨.bl _, H, I, rfl, q⟩
    · obtain ⟨bs, r2⟩ := Dp.reads I _ y u he ry
      exact SeqAt.in_tuple_reads r2 r1 se (SeqAt.canLay_of_shaped sd) (room_in sd hu) ⟨.bl _, H, I, rfl, q⟩
  · exact op_in_str pins s σ H _ _ v u Q I rx ry ⟨i, j, rfl, rfl, q⟩
  · cases ry
    exact d_in (y := kV k) (by omega) I (.inl ⟨kvs, k, hk, rfl, rfl⟩) rx fun s' I' => ⟨.bl _, H, I', rfl, q⟩
theorem o_ninA (hu : X.A.units + 66 < cLine) : OpR X (compareOp .NotIn) (rInA X.K true) := by
  intro pins s σ H x y v u Q I rx ry h
  rcases h with ⟨d, ds, hd, he, sd, se, q⟩ | ⟨i, j, rfl, rfl, q⟩ | ⟨a, k, kvs, rfl, rfl, hk, q⟩
  · obtain ⟨as, r1⟩ := Dp.reads I d x v hd rx
    rcases he with he | he
    · obtain ⟨bs, r2⟩ := Dp.reads I _ y u he ry
      exact SeqAt.notIn_list_reads r2 r1 se (SeqAt.canLay_of_shaped sd) (room_in sd hu) ⟨.bl _, H, I, rfl, q⟩
    · obtain ⟨bs, r2⟩ := Dp.reads I _ y u he ry
      exact SeqAt.notIn_tuple_reads r2 r1 se (SeqAt.canLay_of_shaped sd) (room_in sd hu) ⟨.bl _, H, I, rfl, q⟩
  · exact op_notin_str pins s σ H _ _ v u Q I rx ry ⟨i, j, rfl, rfl, q⟩
  · cases ry
    exact d_notIn (y := kV k) (by omega) I (.inl ⟨kvs, k, hk, rfl, rfl⟩) rx fun s' I' => ⟨.bl _, H, I', rfl, q⟩
end
theorem eqv_key (k j : Key) : PyData.eqv (kD k) (kD j) = decide (k = j) := by
  cases k <;> cases j <;> simp [kD, PyData.eqv, Bool.beq_eq_decide_eq]
theorem any_kv {K : PySem.W.Frag} {H : Hp} {j : Key} : ∀ {kvs : List (Key × V)} {ds : List (D × D)}, RpK K H kvs ds → (ds.any fun z => PyData.eqv z.1 (kD j)) = (valV kvs j).isSome
  | _, _, .nil => rfl
  | _, _, .cons (k := k) r t => by
    have ih := any_kv (j := j) t
    rw [List.any_cons, ih, eqv_key]
    by_cases h : k = j
    · rw [valV_pos (by exact h)]; simp [h]
    · rw [valV_neg (by exact h)]; simp [h]
theorem rq_dic {K : PySem.W.Frag} {H : Hp} {v : V} {ds : List (D × D)} (h : Rq K H v (.dict ds)) : ∃ a kvs, v = .ref a ∧ Rd H a (.dK kvs) ∧ RpK K H kvs ds := by
  rcases h with h | ⟨a, rfl, kvs, h, r⟩
  · cases h with
    | dic h r => exact ⟨_, _, rfl, .inr ⟨_, h⟩, r⟩
  · exact ⟨a, kvs, rfl, .inl h, r⟩
theorem in_ok {K : PySem.W.Frag} {v w : V} {x y d : D} {H : Hp} {Q : VK} (neg : Bool) (hx : Rq K H v x) (hy : Rq K H w y) (h : inD x y = some d) (q : ∀ b, d = .bool b → Q (.bl (if neg then !b else b)) H) : rInA K neg v w H Q := by
  unfold inD at h
  split at h
  · split at h
    · rename_i s
      cases h
      exact .inl ⟨_, _, hx.dp (SeqAt.canLay_of_shaped s.1), .inl (hy.dp (by simpa only [PyData.canLay0] using s.2)), s.1, s.2, q _ rfl⟩
    · cases h
  · split at h
    · rename_i s
      cases h
      exact .inl ⟨_, _, hx.dp (SeqAt.canLay_of_shaped s.1), .inr (hy.dp (by simpa only [PyData.canLay0] using s.2)), s.1, s.2, q _ rfl⟩
    · cases h
  · cases h
    cases rq_str hx; cases rq_str hy
    exact .inr (.inl ⟨_, _, rfl, rfl, q _ rfl⟩)
  · cases h
    rename_i i kvs
    cases rq_int hx
    obtain ⟨a, ks, rfl, hk, r⟩ := rq_dic hy
    refine .inr (.inr ⟨a, .inl i, ks, rfl, rfl, hk, ?_⟩)
    have e := any_kv (j := .inl i) r
    rw [← e]
    exact q _ rfl
  · cases h
    rename_i i kvs
    cases rq_str hx
    obtain ⟨a, ks, rfl, hk, r⟩ := rq_dic hy
    refine .inr (.inr ⟨a, .inr i, ks, rfl, rfl, hk, ?_⟩)
    have e := any_kv (j := .inr i) r
    rw [← e]
    exact q _ rfl
  · cases h
theorem b_in {K : PySem.W.Frag}   : BinQ K (rInA K false) inD := fun v w x y d H Q hx hy h q => in_ok false hx hy h fun b e => by subst e; exact q _ (.bl _)
theorem b_nin {K : PySem.W.Frag}   : BinQ K (rInA K true) ninD := fun v w x y d H Q hx hy h q => by
  unfold ninD at h
  cases e : inD x y with
  | none => rw [e] at h; cases h
  | some z =>
    rw [e] at h
    refine in_ok true hx hy e fun b eb => ?_
    subst eb
    have h : notD (.bool b) = some d := h
    cases h
    exact q _ (.bl _)
/-! is -/
def isNoneD : D → Bool
  | .none => true
  | _ => false
theorem isNone_ok {K : PySem.W.Frag} {H : Hp} {v : V} {d : D} (h : Rp K H v d) : decide (v = .non) = isNoneD d := by
  cases h <;> simp [isNoneD]
section
variable {X : Cx} {Z : ZC} {a b : Expr} {pos : Pos} {ma mb : M D}
theorem e_cmp {o : CmpOp} {r : R2} {op : D → D → Option D} (ho : OpR X (compareOp o) r) (h : BinQ X.K r op) (ha : PE X a (tM X.K Z ma)) (hb : PE X b (tQ X.K Z mb)) (hm : behindInMarks o b = false) : PE X (.Compare a [o] [b] pos) (tM X.K Z (bin op ma mb)) :=
  PE_weak (pe_cmpR ho ha hb hm) (t_bin h.r)
theorem e_cmpL {o : CmpOp} {r : R2} {op : D → D → Option D} {i : Nat} (ho : OpR X (compareOp o) r) (h : BinQ X.K r op) (ha : PE X a (tVar i)) (hb : PE X b (tM X.K Z mb)) (hm : behindInMarks o b = false) : PE X (.Compare a [o] [b] pos) (tM X.K Z (binL op i mb)) :=
  PE_weak (pe_cmpR ho ha hb hm) (t_binQL h)
def boolOf (m : M D) : M Bool := bnd m fun d => lft (match d with | .bool b => some b | _ => none)
theorem t_test {K : PySem.W.Frag} {t : TE} {m : M D} (h : ∀ σ H Q, tM K Z m σ H Q → t σ H Q) (σ : SS) (H : Hp) (Q : Bool → Hp → Prop) (p : tT K Z (boolOf m) σ H Q) : tTest t σ H Q := by
  refine h σ H _ ?_
  obtain ⟨e, R, p⟩ := p
  refine ⟨e, R, pst_bnd p fun v H1 d e1 m1 R1 r1 p1 => ?_⟩
  obtain ⟨b, hb, q⟩ := pst_lft p1
  cases d with
  | bool c =>
    cases hb
    cases rp_bl r1
    exact ⟨_, rfl, q _ H1 .refl R1 rfl⟩
  | _ => cases hb
theorem c_cmp {o : CmpOp} {r : R2} {op : D → D → Option D} (ho : OpR X (compareOp o) r) (h : BinQ X.K r op) (ha : PE X a (tM X.K Z ma)) (hb : PE X b (tQ X.K Z mb)) (hm : behindInMarks o b = false) : PT X (.Compare a [o] [b] pos) (tT X.K Z (boolOf (bin op ma mb))) :=
  PT_weak (pt_cmpR ho ha hb hm) (t_test (t_bin h.r))
theorem c_cmpL {o : CmpOp} {r : R2} {op : D → D → Option D} {i : Nat} (ho : OpR X (compareOp o) r) (h : BinQ X.K r op) (ha : PE X a (tVar i)) (hb : PE X b (tM X.K Z mb)) (hm : behindInMarks o b = false) : PT X (.Compare a [o] [b] pos) (tT X.K Z (boolOf (binL op i mb))) :=
  PT_weak (pt_cmpR ho ha hb hm) (t_test (t_binQL h))
theorem o_lt : OpR X (compareOp .Lt) rLt := op_lt.or op_lt_str
/-- x is None -/
def isN (m : M D) : M D := bnd m fun d => ret (.bool (isNoneD d))
def isNN (m : M D) : M D := bnd m fun d => ret (.bool (!isNoneD d))
theorem t_isN {K : PySem.W.Frag} {m : M D} (σ : SS) (H : Hp) (Q : VK) (p : tM K Z (isN m) σ H Q) : tIsN (tM K Z m) σ H Q := by
  obtain ⟨e, R, p⟩ := p
  refine ⟨e, R, pst_bnd p fun v H1 d e1 m1 R1 r1 p1 => ?_⟩
  rw [isNone_ok r1]
  exact p1 _ H1 .refl R1 (.bl _)
theorem t_isNN {K : PySem.W.Frag} {m : M D} (σ : SS) (H : Hp) (Q : VK) (p : tM K Z (isNN m) σ H Q) : tNotN (tM K Z m) σ H Q := by
  obtain ⟨e, R, p⟩ := p
  refine ⟨e, R, pst_bnd p fun v H1 d e1 m1 R1 r1 p1 => ?_⟩
  rw [isNone_ok r1]
  exact p1 _ H1 .refl R1 (.bl _)
theorem t_testB {K : PySem.W.Frag} {t : TE} {m : M D} (h : ∀ σ H Q, tM K Z m σ H Q → t σ H Q) (σ : SS) (H : Hp) (Q : Bool → Hp → Prop) (p : tT K Z (boolOf m) σ H Q) : tB t σ H Q := t_test h σ H Q p
theorem e_isN {j pos' pos} (ha : PE X a (tM X.K Z ma)) : PE X (.Compare a [.Is] [.Constant .none j pos'] pos) (tM X.K Z (isN ma)) := PE_weak (pe_cmp (pc_isN ha)) t_isN
theorem e_isNN {j pos' pos} (ha : PE X a (tM X.K Z ma)) : PE X (.Compare a [.IsNot] [.Constant .none j pos'] pos) (tM X.K Z (isNN ma)) := PE_weak (pe_cmp (pc_notN ha)) t_isNN
theorem c_isN {j pos' pos} (ha : PE X a (tM X.K Z ma)) : PT X (.Compare a [.Is] [.Constant .none j pos'] pos) (tT X.K Z (boolOf (isN ma))) := PT_weak (pt_cmp (pc_isN ha)) (t_testB t_isN)
theorem c_isNN {j pos' pos} (ha : PE X a (tM X.K Z ma)) : PT X (.Compare a [.IsNot] [.Constant .none j pos'] pos) (tT X.K Z (boolOf (isNN ma))) := PT_weak (pt_cmp (pc_notN ha)) (t_testB t_isNN)
/-- x is True, x is False, x a bool -/
def isBD : D → D → Option D
  | .bool a, .bool b => some (.bool (decide (a = b)))
  | _, _ => none
def isnBD : D → D → Option D
  | .bool a, .bool b => some (.bool (!decide (a = b)))
  | _, _ => none
theorem b_isB {K : PySem.W.Frag} : BinQ K rIsB isBD := fun v w x y d H Q hx hy h q => by
  cases x <;> cases y <;> simp only [isBD] at h <;> cases h
  cases rq_bl hx; cases rq_bl hy
  exact ⟨_, _, rfl, rfl, q _ (.bl _)⟩
theorem b_isnB {K : PySem.W.Frag} : BinQ K rNotB isnBD := fun v w x y d H Q hx hy h q => by
  cases x <;> cases y <;> simp only [isnBD] at h <;> cases h
  cases rq_bl hx; cases rq_bl hy
  exact ⟨_, _, rfl, rfl, q _ (.bl _)⟩
/-- chains -/
def chn (op op' : D → D → Option D) (a b c : M D) : M D := bnd a fun x => bnd b fun y => bnd (lft (op x y)) fun z => match z with
  | .bool true => bnd c fun w => lft (op' y w)
  | .bool false => ret (.bool false)
  | _ => fun _ => .no
theorem t_chn {K : PySem.W.Frag} {r r' : R2} {op op' : D → D → Option D} {mc : M D} (h : BinQ K r op) (h' : BinQ K r' op') (σ : SS) (H : Hp) (Q : VK) (p : tM K Z (chn op op' ma mb mc) σ H Q) : tChain r r' (tM K Z ma) (tM K Z mb) (tM K Z mc) σ H Q := by
  obtain ⟨e, R, p⟩ := p
  refine ⟨e, R, pst_bnd p fun v H1 x e1 m1 R1 r1 p1 => ⟨e1, R1, pst_bnd p1 fun w H2 y e2 m2 R2 r2 p2 => ?_⟩⟩
  have p3 : ∃ z, op x y = some z ∧ pst K Z (rV K) σ H2 Q ((match z with
  | .bool true => bnd mc fun w => lft (op' y w)
  | .bool false => ret (.bool false)
  | _ => fun _ => .no : M D) e2) := by
    unfold bnd at p2
    cases q : op x y with
    | none => rw [q] at p2; exact p2.elim
    | some z => rw [q] at p2; exact ⟨z, rfl, p2⟩
  obtain ⟨z, hz, p3⟩ := p3
  refine h v w x y z H2 _ (.inl (Rp.mono m2 r1)) (.inl r2) hz fun u ru => ?_
  cases z with
  | bool c =>
    cases rp_bl ru
    refine ⟨c, rfl, ?_⟩
    cases c with
    | false => rw [if_neg Bool.false_ne_true]; exact p3 _ H2 .refl R2 (.bl _)
    | true =>
      rw [if_pos rfl]
      refine ⟨e2, R2, pst_bnd p3 fun w' H3 x' e3 m3 R3 r3 p4 => ?_⟩
      obtain ⟨d, hd, q⟩ := pst_lft p4
      exact h' w w' y x' d H3 Q (.inl (Rp.mono m3 r2)) (.inl r3) hd fun u ru => q u H3 .refl R3 ru
  | _ => exact p3.elim
theorem e_chn {c : Expr} {mc : M D} {o o' : CmpOp} {r r' : R2} {op op' : D → D → Option D} (ho : OpR X (compareOp o) r) (h : BinQ X.K r op) (ho' : OpR X (compareOp o') r') (h' : BinQ X.K r' op') (ha : PE X a (tM X.K Z ma)) (hb : PE X b (tM X.K Z mb)) (hc : PE X c (tM X.K Z mc))
    (hm : lastMarks [o, o'] [b, c] = false := by with_unfolding_all rfl) : PE X (.Compare a [o, o'] [b, c] pos) (tM X.K Z (chn op op' ma mb mc)) := PE_weak (pe_chain ho ho' ha hb hc hm) (t_chn h h')
theorem c_chn {c : Expr} {mc : M D} {o o' : CmpOp} {r r' : R2} {op op' : D → D → Option D} (ho : OpR X (compareOp o) r) (h : BinQ X.K r op) (ho' : OpR X (compareOp o') r') (h' : BinQ X.K r' op') (ha : PE X a (tM X.K Z ma)) (hb : PE X b (tM X.K Z mb)) (hc : PE X c (tM X.K Z mc))
    (hm : lastMarks [o, o'] [b, c] = false := by with_unfolding_all rfl) : PT X (.Compare a [o, o'] [b, c] pos) (tT X.K Z (boolOf (chn op op' ma mb mc))) := PT_weak (pt_chain ho ho' ha hb hc hm) (t_test (t_chn h h'))

/-! ### truth, not, and, or -/
def truD : D → Option Bool
  | .none => some false
  | .bool b => some b
  | .int i => some (i != 0)
  | .str x => if x.length ≤ sizeLine then some ((x.length : Int) != 0) else none
  | .list ds => some (!ds.isEmpty)
  | .tuple ds => some (!ds.isEmpty)
  | .dict _ => none
theorem isEmpty_rp {K : PySem.W.Frag} {H : Hp} {xs : List V} {ds : List D} (r : RpA K H xs ds) : (!ds.isEmpty) = !xs.isEmpty := by cases r <;> rfl
theorem tru_ok {K : PySem.W.Frag} {H : Hp} {v : V} {d : D} {b : Bool} (h : Rq K H v d) (e : truD d = some b) : TruV K v H b := by
  cases d <;> simp only [truD] at e
  · cases e; rcases h with h | ⟨_, _, o⟩
    · cases h; rfl
    · exact o.elim
  · cases e; cases rq_bl h; rfl
  · cases e; cases rq_int h; rfl
  · cases rq_str h
    split at e
    · cases e; exact ⟨by assumption, rfl⟩
    · cases e
  · cases e
    obtain ⟨a, xs, rfl, ha, r⟩ := rq_lst h
    exact .inl ⟨xs, ha, isEmpty_rp r⟩
  · cases e
    obtain ⟨a, xs, rfl, ha, r⟩ := rq_tup h
    exact .inr (.inl ⟨xs, ha, isEmpty_rp r⟩)
  · cases e
def truM (m : M D) : M Bool := bnd m fun d => lft (truD d)
theorem c_tru (ha : PE X a (tQ X.K Z ma)) (he : ∀ whole, isTrue a X.env whole = (do let v ← whole; standAt a.pos; holding [v] (truthy v))) : PT X a (tT X.K Z (truM ma)) :=
  PT_weak (pt_truth ha he) fun σ H Q ⟨e, R, p⟩ => ⟨e, R, pst_bnd p fun v H1 d e1 m1 R1 r1 p1 => by
    obtain ⟨b, hb, q⟩ := pst_lft p1
    exact ⟨b, tru_ok r1 hb, q b H1 .refl R1 rfl⟩⟩
def notM (m : M Bool) : M Bool := bnd m fun b => ret (!b)
theorem c_not {t : M Bool} (h : PT X a (tT X.K Z t)) : PT X (.UnaryOp .Not a pos) (tT X.K Z (notM t)) := PT_weak (pt_not h) fun σ H Q ⟨e, R, p⟩ => ⟨e, R, pst_bnd p fun v H1 d e1 m1 R1 r1 p1 => by
  cases r1
  exact p1 _ H1 .refl R1 rfl⟩
def andM (s t : M Bool) : M Bool := bnd s fun b => if b = true then t else ret false
def orM (s t : M Bool) : M Bool := bnd s fun b => if b = true then ret true else t
theorem w_1a {t : M Bool} (h : PT X a (tT X.K Z t)) : PW X (.BoolOp .And [a] pos) (tT X.K Z t) := pw_and1 h
theorem w_1o {t : M Bool} (h : PT X a (tT X.K Z t)) : PW X (.BoolOp .Or [a] pos) (tT X.K Z t) := pw_or1 h
theorem PW_weak {e : Expr} {t t' : TT} (h : PW X e t) (w : ∀ σ H Q, t' σ H Q → t σ H Q) : PW X e t' := ⟨fun wh pins s σ H Q I q => h.run wh pins s σ H Q I (w σ H Q q)⟩
theorem w_and {rest : List Expr} {s t : M Bool} (h : PT X a (tT X.K Z s)) (k : PW X (.BoolOp .And (b :: rest) pos) (tT X.K Z t)) : PW X (.BoolOp .And (a :: b :: rest) pos) (tT X.K Z (andM s t)) :=
  PW_weak (pw_and h k) fun σ H Q ⟨e, R, p⟩ => ⟨e, R, pst_bnd p fun v H1 d e1 m1 R1 r1 p1 => by
    cases r1
    cases v with
    | true => rw [if_pos rfl] at p1 ⊢; exact ⟨e1, R1, p1⟩
    | false => rw [if_neg Bool.false_ne_true] at p1 ⊢; exact p1 _ H1 .refl R1 rfl⟩
theorem w_or {rest : List Expr} {s t : M Bool} (h : PT X a (tT X.K Z s)) (k : PW X (.BoolOp .Or (b :: rest) pos) (tT X.K Z t)) : PW X (.BoolOp .Or (a :: b :: rest) pos) (tT X.K Z (orM s t)) :=
  PW_weak (pw_or h k) fun σ H Q ⟨e, R, p⟩ => ⟨e, R, pst_bnd p fun v H1 d e1 m1 R1 r1 p1 => by
    cases r1
    cases v with
    | true => rw [if_pos rfl] at p1 ⊢; exact p1 _ H1 .refl R1 rfl
    | false => rw [if_neg Bool.false_ne_true] at p1 ⊢; exact ⟨e1, R1, p1⟩⟩
/-- as values -/
def andV (x y : M D) : M D := bnd x fun d => bnd (lft (truD d)) fun b => if b = true then y else ret d
def orV (x y : M D) : M D := bnd x fun d => bnd (lft (truD d)) fun b => if b = true then ret d else y
def notV (x : M D) : M D := bnd x fun d => bnd (lft (truD d)) fun b => ret (.bool !b)
theorem tru_p {K : PySem.W.Frag} {β α : Type} {r : RR β α} {σ : SS} {H : Hp} {Q : β → Hp → Prop} {d : D} {f : Bool → M α} {e : En} (p : pst K Z r σ H Q (bnd (lft (truD d)) f e)) : ∃ b, truD d = some b ∧ pst K Z r σ H Q (f b e) := by
  unfold bnd at p
  cases q : truD d with
  | none => rw [q] at p; exact p.elim
  | some b => rw [q] at p; exact ⟨b, rfl, p⟩
theorem v_1 {o : BoolOp} {m : M D} (h : PE X a (tM X.K Z m)) : PE X (.BoolOp o [a] pos) (tM X.K Z m) := pe_one h
theorem v_and {rest : List Expr} {x y : M D} (h : PE X a (tM X.K Z x)) (k : PE X (.BoolOp .And (b :: rest) pos) (tM X.K Z y)) : PE X (.BoolOp .And (a :: b :: rest) pos) (tM X.K Z (andV x y)) :=
  PE_weak (pe_andT h k) fun σ H Q ⟨e, R, p⟩ => ⟨e, R, pst_bnd p fun v H1 d e1 m1 R1 r1 p1 => by
    obtain ⟨b, hb, p2⟩ := tru_p p1
    refine ⟨b, tru_ok (.inl r1) hb, ?_⟩
    cases b with
    | true => rw [if_pos rfl] at p2 ⊢; exact ⟨e1, R1, p2⟩
    | false => rw [if_neg Bool.false_ne_true] at p2 ⊢; exact p2 _ H1 .refl R1 r1⟩
theorem v_or {rest : List Expr} {x y : M D} (h : PE X a (tM X.K Z x)) (k : PE X (.BoolOp .Or (b :: rest) pos) (tM X.K Z y)) : PE X (.BoolOp .Or (a :: b :: rest) pos) (tM X.K Z (orV x y)) :=
  PE_weak (pe_orT h k) fun σ H Q ⟨e, R, p⟩ => ⟨e, R, pst_bnd p fun v H1 d e1 m1 R1 r1 p1 => by
    obtain ⟨b, hb, p2⟩ := tru_p p1
    refine ⟨b, tru_ok (.inl r1) hb, ?_⟩
    cases b with
    | true => rw [if_pos rfl] at p2 ⊢; exact p2 _ H1 .refl R1 r1
    | false => rw [if_neg Bool.false_ne_true] at p2 ⊢; exact ⟨e1, R1, p2⟩⟩
theorem v_not {x : M D} (h : PE X a (tQ X.K Z x)) : PE X (.UnaryOp .Not a pos) (tM X.K Z (notV x)) :=
  PE_weak (pe_notT h) fun σ H Q ⟨e, R, p⟩ => ⟨e, R, pst_bnd p fun v H1 d e1 m1 R1 r1 p1 => by
    obtain ⟨b, hb, p2⟩ := tru_p p1
    exact ⟨b, tru_ok r1 hb, p2 _ H1 .refl R1 (.bl _)⟩⟩
def negD : D → Option D
  | .int i => some (.int (-i))
  | _ => none
theorem e_neg (h : PE X a (tM X.K Z ma)) : PE X (.UnaryOp .USub a pos) (tM X.K Z (una negD ma)) := PE_weak (pe_un un_neg h) fun σ H Q ⟨e, R, p⟩ => ⟨e, R, pst_bnd p fun v H1 d e1 m1 R1 r1 p1 => by
  obtain ⟨x, hx, q⟩ := pst_lft p1
  cases d <;> simp only [negD] at hx <;> cases hx
  cases rp_int r1
  exact ⟨_, rfl, q _ H1 .refl R1 (.int _)⟩⟩
/-- a if c else b -/
def iteM {α : Type} (c : M Bool) (x y : M α) : M α := bnd c fun b => if b = true then x else y
theorem e_ite {c : Expr} {t : M Bool} {x y : M D} (h : PT X c (tT X.K Z t)) (h1 : PE X a (tM X.K Z x)) (h2 : PE X b (tM X.K Z y)) : PE X (.IfExp c a b pos) (tM X.K Z (iteM t x y)) :=
  PE_weak (pe_ifExp h h1 h2) fun σ H Q ⟨e, R, p⟩ => ⟨e, R, pst_bnd p fun v H1 d e1 m1 R1 r1 p1 => by
    cases r1
    cases v with
    | true => rw [if_pos rfl] at p1 ⊢; exact ⟨e1, R1, p1⟩
    | false => rw [if_neg Bool.false_ne_true] at p1 ⊢; exact ⟨e1, R1, p1⟩⟩
end
end ZZ

namespace ZZ
open PySem PySem.Spec PyProof.Rows L2
variable [TabC]

/-! ### lists of arguments, displays -/
def seqM : List (M D) → M (List D)
  | [] => ret []
  | m :: ms => bnd m fun x => bnd (seqM ms) fun xs => ret (x :: xs)
theorem seqM_len : ∀ (ms : List (M D)) (e : En) (xs : List D) (e' : En), seqM ms e = .ok xs e' → xs.length = ms.length
  | [], e, xs, e', h => by cases h; rfl
  | m :: ms, e, xs, e', h => by
    simp only [seqM, bnd] at h
    split at h
    · split at h
      · rename_i h2
        cases h
        rw [List.length_cons, List.length_cons, seqM_len ms _ _ _ h2]
      · cases h
      · cases h
    · cases h
    · cases h
section
variable {X : Cx} {Z : ZC} {pos : Pos}
theorem a_nil : PA X [] (tMs X.K Z (seqM [])) := PA_weak pa_nil fun σ H Q ⟨e, R, p⟩ => p [] H .refl R .nil
theorem a_cons {a : Expr} {es : List Expr} {m : M D} {ms : List (M D)} (h : PE X a (tM X.K Z m)) (k : PA X es (tMs X.K Z (seqM ms))) (hs : starEach (a :: es) X.env = (false, eval a X.env) :: starEach es X.env := by rfl) : PA X (a :: es) (tMs X.K Z (seqM (m :: ms))) :=
  PA_weak (pa_cons h k hs) fun σ H Q ⟨e, R, p⟩ => ⟨e, R, pst_bnd p fun v H1 d e1 m1 R1 r1 p1 => ⟨e1, R1, pst_bnd p1 fun w H2 y e2 m2 R2 r2 p2 => p2 _ H2 .refl R2 (.cons (Rp.mono m2 r1) r2)⟩⟩
def tupM (ms : List (M D)) : M D := bnd (seqM ms) fun xs => ret (.tuple xs)
def lstM (ms : List (M D)) : M D := bnd (seqM ms) fun xs => ret (.list xs)
theorem pst_bndE {K : PySem.W.Frag} {α β γ δ : Type} {r : RR β α} {r2 : RR δ γ} {σ : SS} {H : Hp} {Q : β → Hp → Prop} {m : M α} {f : α → M γ} {e : En} {Q2 : δ → Hp → Prop} (h : pst K Z r2 σ H Q2 (bnd m f e))
    (k : ∀ b H1 d e1, m e = .ok d e1 → Mono H H1 → Rel K Z σ H1 e1 → r σ e1 H1 b d → pst K Z r2 σ H1 Q2 (f d e1) → Q b H1) : pst K Z r σ H Q (m e) := by
  unfold bnd at h
  cases q : m e with
  | ok d e1 =>
    rw [q] at h
    exact fun b H1 m1 R p => k b H1 d e1 q m1 R p (h.mono m1)
  | exc x e1 => rw [q] at h; exact h
  | no => rw [q] at h; exact h
theorem e_tup {es : List Expr} {k : Nat} {ms : List (M D)} (h : PA X es (tMs X.K Z (seqM ms))) (hl : ms.length ≤ 1000 := by decide) : PE X (.Tuple es k pos) (tM X.K Z (tupM ms)) :=
  PE_weak (pe_tup h) fun σ H Q ⟨e, R, p⟩ => ⟨e, R, pst_bndE p fun vs H1 ds e1 he m1 R1 r1 p1 => by
    refine ⟨?_, fun q hq => p1 _ _ (.same (same_upd hq)) (R1.same (same_upd hq)) (.tup (SqT.of upd_same) (r1.mono (.same (same_upd hq))))⟩
    have h1 := r1.length
    have h2 := seqM_len _ _ _ _ he
    rw [sizeLine_eq]; omega⟩
theorem e_lst {es : List Expr} {ms : List (M D)} (h : PA X es (tMs X.K Z (seqM ms))) (hl : ms.length ≤ 1000 := by decide) : PE X (.List es pos) (tO X.K Z (lstM ms)) :=
  PE_weak (pe_lst h) fun σ H Q ⟨e, R, p⟩ => ⟨e, R, pst_bndE p fun vs H1 ds e1 he m1 R1 r1 p1 => by
    refine ⟨?_, fun q hq => p1 _ _ (.same (same_upd hq)) (R1.same (same_upd hq)) ⟨q, rfl, ⟨_, upd_same, r1.mono (.same (same_upd hq))⟩, R1.fresh hq⟩⟩
    have h1 := r1.length
    have h2 := seqM_len _ _ _ _ he
    rw [sizeLine_eq]; omega⟩
end

/-! ### defs -/
inductive Fl where
  | nx | rt (d : D) | ro (d : D) | bk | ct
inductive FO where
  | ok (d : D) (outs : List D) | exc (x : Exn) (outs : List D) | no
def posT : List Bool → Nat → List Nat
  | [], _ => []
  | true :: m, i => i :: posT m (i + 1)
  | false :: m, i => posT m (i + 1)
def adrV (vs : List V) (i : Nat) : Addr := match vs[i]? with
  | some (.ref a) => a
  | _ => 0
def ArgR (K : PySem.W.Frag) (H : Hp) : List Bool → List V → List D → Prop
  | [], [], [] => True
  | true :: m, v :: vs, d :: ds => (∃ a, v = .ref a ∧ Opn K H a d) ∧ ArgR K H m vs ds
  | false :: m, v :: vs, d :: ds => Rp K H v d ∧ ArgR K H m vs ds
  | _, _, _ => False
def OutR (K : PySem.W.Frag) (H : Hp) (vs : List V) : List Nat → List D → Prop
  | [], [] => True
  | i :: is, o :: os => Opn K H (adrV vs i) o ∧ OutR K H vs is os
  | _, _ => False
def Frm (H H' : Hp) (A : List Addr) : Prop := ∀ b o, H b = some o → b ∉ A → Stay o (H' b)
def XR (K : PySem.W.Frag) (mg : Str → Option Value) (H : Hp) (x : Exn) (cls : Value) (dd : Option Addr) : Prop := ∃ C d v, mg x.cls = some (.ref C) ∧ cls = .ref C ∧ dd = some d ∧ H d = some (.xd [(("value" : Str), v)]) ∧ Rp K H v x.val
def RetR (K : PySem.W.Frag) (opn : Bool) (H H' : Hp) (v : V) (d : D) : Prop := match opn with
  | true => ∃ a, v = .ref a ∧ Opn K H' a d ∧ H a = none
  | false => Rp K H' v d
def spF (K : PySem.W.Frag) (mask : List Bool) (opn : Bool) (F : List D → FO) : Sp := fun vs H Q _ => (∀ p ∈ TabC.T, LamX.TabS H p.1 p.2) ∧ ∃ ds, ArgR K H mask vs ds ∧ ((posT mask 0).map (adrV vs)).Nodup ∧ match F ds with
  | .ok d outs => ∀ v H', Mono H H' → Frm H H' ((posT mask 0).map (adrV vs)) → OutR K H' vs (posT mask 0) outs → RetR K opn H H' v d → Q v H'
  | _ => False
theorem ArgR.len {K : PySem.W.Frag} {H : Hp} : ∀ {m : List Bool} {vs : List V} {ds : List D}, ArgR K H m vs ds → vs.length = m.length ∧ ds.length = m.length
  | [], [], [], _ => ⟨rfl, rfl⟩
  | true :: m, v :: vs, d :: ds, h => by have := ArgR.len h.2; simp [this.1, this.2]
  | false :: m, v :: vs, d :: ds, h => by have := ArgR.len h.2; simp [this.1, this.2]
  | [], [], _ :: _, h => h.elim
  | [], _ :: _, _, h => h.elim
  | true :: _, [], _, h => h.elim
  | false :: _, [], _, h => h.elim
  | true :: _, _ :: _, [], h => h.elim
  | false :: _, _ :: _, [], h => h.elim
theorem ArgR.get {K : PySem.W.Frag} {H : Hp} : ∀ {m : List Bool} {vs : List V} {ds : List D}, ArgR K H m vs ds → ∀ (i : Nat) (b : Bool) (d : D), m[i]? = some b → ds[i]? = some d → ∃ v, vs[i]? = some v ∧ (b = true → ∃ a, v = .ref a ∧ Opn K H a d) ∧ (b = false → Rp K H v d)
  | [], [], [], _, i, b, d, h, _ => by simp at h
  | true :: m, v :: vs, d :: ds, h, 0, b, d', h1, h2 => by simp at h1 h2; subst h1 h2; exact ⟨v, rfl, fun _ => h.1, fun e => by cases e⟩
  | false :: m, v :: vs, d :: ds, h, 0, b, d', h1, h2 => by simp at h1 h2; subst h1 h2; exact ⟨v, rfl, (fun e => by cases e), fun _ => h.1⟩
  | true :: m, v :: vs, d :: ds, h, i + 1, b, d', h1, h2 => ArgR.get h.2 i b d' (by simpa using h1) (by simpa using h2)
  | false :: m, v :: vs, d :: ds, h, i + 1, b, d', h1, h2 => ArgR.get h.2 i b d' (by simpa using h1) (by simpa using h2)
  | [], [], _ :: _, h, _, _, _, _, _ => h.elim
  | [], _ :: _, _, h, _, _, _, _, _ => h.elim
  | true :: _, [], _, h, _, _, _, _, _ => h.elim
  | false :: _, [], _, h, _, _, _, _, _ => h.elim
  | true :: _, _ :: _, [], h, _, _, _, _, _ => h.elim
  | false :: _, _ :: _, [], h, _, _, _, _, _ => h.elim
theorem posT_mem : ∀ (m : List Bool) (k i : Nat), i ∈ posT m k ↔ ∃ j, i = k + j ∧ m[j]? = some true
  | [], k, i => by simp [posT]
  | true :: m, k, i => by
    simp only [posT, List.mem_cons, posT_mem m (k + 1) i]
    constructor
    · rintro (rfl | ⟨j, rfl, h⟩)
      · exact ⟨0, rfl, rfl⟩
      · exact ⟨j + 1, by omega, by simpa using h⟩
    · rintro ⟨j, rfl, h⟩
      cases j with
      | zero => exact .inl rfl
      | succ j => exact .inr ⟨j, by omega, by simpa using h⟩
  | false :: m, k, i => by
    simp only [posT, posT_mem m (k + 1) i]
    constructor
    · rintro ⟨j, rfl, h⟩
      exact ⟨j + 1, by omega, by simpa using h⟩
    · rintro ⟨j, rfl, h⟩
      cases j with
      | zero => simp at h
      | succ j => exact ⟨j, by omega, by simpa using h⟩
theorem nodup_map {α β : Type} {f : α → β} : ∀ {l : List α}, (l.map f).Nodup → ∀ x y, x ∈ l → y ∈ l → f x = f y → x = y
  | [], _, x, y, h, _, _ => by cases h
  | a :: l, n, x, y, hx, hy, e => by
    rw [List.map_cons, List.nodup_cons] at n
    rcases List.mem_cons.mp hx with hx | hx
    · rcases List.mem_cons.mp hy with hy | hy
      · rw [hx, hy]
      · exact absurd (List.mem_map.mpr ⟨y, hy, by rw [← e, hx]⟩) n.1
    · rcases List.mem_cons.mp hy with hy | hy
      · exact absurd (List.mem_map.mpr ⟨x, hx, by rw [e, hy]⟩) n.1
      · exact nodup_map n.2 x y hx hy e
def initE : List Bool → List D → Nat → Option En
  | [], [], n => some (List.replicate n .un)
  | b :: bs, d :: ds, n => (initE bs ds n).map fun e => (if b = true then .op d else .fz d) :: e
  | _, _, _ => none
theorem initE_len : ∀ {m : List Bool} {ds : List D} {n : Nat} {e : En}, initE m ds n = some e → e.length = m.length + n ∧ ds.length = m.length
  | [], [], n, e, h => by cases h; simp
  | b :: bs, d :: ds, n, e, h => by
    simp only [initE] at h
    obtain ⟨e', h1, rfl⟩ := Option.map_eq_some_iff.mp h
    have := initE_len h1
    simp only [List.length_cons]; omega
  | [], _ :: _, _, _, h => by cases h
  | _ :: _, [], _, _, h => by cases h
theorem initE_get : ∀ {m : List Bool} {ds : List D} {n : Nat} {e : En}, initE m ds n = some e → ∀ (i : Nat) (s : Sl), e[i]? = some s → s = .un ∨ ∃ b d, m[i]? = some b ∧ ds[i]? = some d ∧ s = if b = true then .op d else .fz d
  | [], [], n, e, h, i, s, hs => by
    cases h
    rw [List.getElem?_replicate] at hs
    split at hs
    · cases hs; exact .inl rfl
    · cases hs
  | b :: bs, d :: ds, n, e, h, i, s, hs => by
    simp only [initE] at h
    obtain ⟨e', h1, rfl⟩ := Option.map_eq_some_iff.mp h
    cases i with
    | zero => simp at hs; exact .inr ⟨b, d, rfl, rfl, hs.symm⟩
    | succ i =>
      rcases initE_get h1 i s (by simpa using hs) with r | ⟨b', d', r1, r2, r3⟩
      · exact .inl r
      · exact .inr ⟨b', d', by simpa using r1, by simpa using r2, r3⟩
  | [], _ :: _, _, _, h, _, _, _ => by cases h
  | _ :: _, [], _, _, h, _, _, _ => by cases h
abbrev Z0 (mask : List Bool) (vs : List V) (H : Hp) (W : Exn → En → SS → Hp → Prop) (pw : Option (Program × World)) : ZC := ⟨H, posT mask 0, adrV vs, [], W, pw⟩
theorem start_get {N : List Str} {vs : List V} {i : Nat} {v : V} (h : vs[i]? = some v) : (L2.start N vs)[i]? = some (some v) := by
  unfold L2.start
  have := lt_of_get h
  rw [List.getElem?_append_left (by simpa using this), List.getElem?_map, h]
  rfl
theorem rel_start {K : PySem.W.Frag} {H : Hp} {mask : List Bool} {vs : List V} {ds : List D} {n : Nat} {e : En} {N : List Str} {W : Exn → En → SS → Hp → Prop} {pw : Option (Program × World)} (a : ArgR K H mask vs ds) (tb : ∀ p ∈ TabC.T, LamX.TabS H p.1 p.2) (nd : ((posT mask 0).map (adrV vs)).Nodup) (h : initE mask ds n = some e) (hN : N.length = mask.length + n) :
    Rel K (Z0 mask vs H W pw) (L2.start N vs) H e := by
  have hl := a.len
  have at_ : ∀ (i : Nat) (d : D), mask[i]? = some true → ds[i]? = some d → vs[i]? = some (.ref (adrV vs i)) ∧ Opn K H (adrV vs i) d := fun i d h1 h2 => by
    obtain ⟨v, hv, q, _⟩ := a.get i true d h1 h2
    obtain ⟨x, rfl, o⟩ := q rfl
    have e : adrV vs i = x := by unfold adrV; rw [hv]
    rw [e]
    exact ⟨hv, o⟩
  have mem : ∀ i, i ∈ posT mask 0 ↔ mask[i]? = some true := fun i => by
    rw [posT_mem]
    constructor
    · rintro ⟨j, rfl, h⟩; simpa using h
    · intro h; exact ⟨i, by simp, h⟩
  refine ⟨?_, fun i d hi => ?_, fun i d hi => ?_, fun i j d f x h1 h2 h3 h4 => ?_, fun b o hb _ => .inl hb, fun i hi => ?_, tb, ⟨fun i ps hi => ?_, fun i j ps qs x hi _ _ _ => ?_⟩, fun p hp => absurd hp (by simp)⟩
  rotate_right 2
  · rcases initE_get h i _ hi with r | ⟨b, d', r1, r2, r3⟩
    · cases r
    · cases b <;> cases r3
  · rcases initE_get h i _ hi with r | ⟨b, d', r1, r2, r3⟩
    · cases r
    · cases b <;> cases r3
  · rw [(initE_len h).1]
    unfold L2.start
    rw [List.length_append, List.length_map, List.length_replicate]
    omega
  · rcases initE_get h i _ hi with r | ⟨b, d', r1, r2, r3⟩
    · cases r
    · cases b with
      | true => cases r3
      | false =>
        cases r3
        obtain ⟨v, hv, _, q⟩ := a.get i false d r1 r2
        exact ⟨v, start_get hv, q rfl⟩
  · rcases initE_get h i _ hi with r | ⟨b, d', r1, r2, r3⟩
    · cases r
    · cases b with
      | false => cases r3
      | true =>
        cases r3
        obtain ⟨q1, q2⟩ := at_ i d r1 r2
        exact ⟨_, start_get q1, q2, .inr ⟨(mem i).mpr r1, rfl⟩⟩
  · have k : ∀ (i : Nat) (d : D), e[i]? = some (.op d) → (L2.start N vs)[i]? = some (some (.ref x)) → i ∈ posT mask 0 ∧ adrV vs i = x := fun i d hi hs => by
      rcases initE_get h i _ hi with r | ⟨b, d', r1, r2, r3⟩
      · cases r
      · cases b with
        | false => cases r3
        | true =>
          obtain ⟨q1, q2⟩ := at_ i d' r1 r2
          rw [start_get q1] at hs
          cases hs
          exact ⟨(mem i).mpr r1, rfl⟩
    obtain ⟨k1, k2⟩ := k i d h1 h3
    obtain ⟨k3, k4⟩ := k j f h2 h4
    exact nodup_map nd i j k1 k3 (k2.trans k4.symm)
  · have hi' := (mem i).mp hi
    have : i < ds.length := by rw [hl.2]; exact lt_of_get hi'
    obtain ⟨q1, q2⟩ := at_ i ds[i] hi' (by simp [this])
    obtain ⟨u, hu, _⟩ := q2.there
    exact ⟨⟨u, hu⟩, start_get q1⟩
def getO : List Nat → En → Option (List D)
  | [], _ => some []
  | i :: is, e => match e[i]? with
    | some (.op d) => (getO is e).map (d :: ·)
    | _ => none
def mkF (mask : List Bool) (n : Nat) (body : M Fl) : List D → FO := fun ds => match initE mask ds n with
  | none => .no
  | some e0 => match body e0 with
    | .ok (.rt d) e => (match getO (posT mask 0) e with | some os => .ok d os | none => .no)
    | .ok .nx e => (match getO (posT mask 0) e with | some os => .ok .none os | none => .no)
    | .exc x e => (match getO (posT mask 0) e with | some os => .exc x os | none => .no)
    | _ => .no
/-- for a def that hands back an open list -/
def mkFo (mask : List Bool) (n : Nat) (body : M Fl) : List D → FO := fun ds => match initE mask ds n with
  | none => .no
  | some e0 => match body e0 with
    | .ok (.ro d) e => (match getO (posT mask 0) e with | some os => .ok d os | none => .no)
    | .exc x e => (match getO (posT mask 0) e with | some os => .exc x os | none => .no)
    | _ => .no
def pstS (K : PySem.W.Frag) (Z : ZC) (D : Ends) (σ : SS) (H : Hp) : Out Fl → Prop
  | .ok .nx e => ∀ σ' H', Mono H H' → Rel K Z σ' H' e → D.nx σ' H'
  | .ok .bk e => ∀ σ' H', Mono H H' → Rel K Z σ' H' e → D.bk σ' H'
  | .ok .ct e => ∀ σ' H', Mono H H' → Rel K Z σ' H' e → D.ct σ' H'
  | .ok (.rt d) e => ∀ σ' v H', Mono H H' → Rel K Z σ' H' e → Rp K H' v d → D.rt v H'
  | .ok (.ro d) e => ∀ σ' a H', Mono H H' → Rel K Z σ' H' e → Opn K H' a d → Z.Hb a = none → D.rt (.ref a) H'
  | .exc x e => ∀ σ' H', Mono H H' → Rel K Z σ' H' e → Z.W x e σ' H'
  | .no => False
def tS (K : PySem.W.Frag) (Z : ZC) (m : M Fl) : TS := fun D σ H => ∃ e, Rel K Z σ H e ∧ pstS K Z D σ H (m e)
theorem out_of {K : PySem.W.Frag} {Z : ZC} {σ : SS} {H : Hp} {e : En} {vs : List V} (R : Rel K Z σ H e) (hz : Z.adr = adrV vs) : ∀ {is : List Nat} {os : List D}, (∀ i ∈ is, i ∈ Z.ios) → getO is e = some os → OutR K H vs is os
  | [], os, _, h => by cases h; trivial
  | i :: is, os, hi, h => by
    simp only [getO] at h
    split at h
    · rename_i d hd
      obtain ⟨os', h1, rfl⟩ := Option.map_eq_some_iff.mp h
      refine ⟨?_, out_of R hz (fun j hj => hi j (List.mem_cons_of_mem _ hj)) h1⟩
      obtain ⟨a, q1, q2, _⟩ := R.op i d hd
      obtain ⟨_, q3⟩ := R.io i (hi i List.mem_cons_self)
      rw [q1] at q3; cases q3
      rw [hz] at q2
      exact q2
    · cases h

/-! ### what a def keeps, with nothing of repr under way -/
structure FnG (P : Program) (w : World) (K : PySem.W.Frag) (mg : Str → Option Value) (base : Heap) (CX : CXT) (k : Nat) (f : Addr) (fd : FuncData) (ps : List Str) (sp : Sp) : Prop where
  ln : ∀ vs H Q E, sp vs H Q E → vs.length = ps.length
  rn : ∀ (A : Around) (outer : List Env) (s : Shared) (H : Hp) (as : Args) (us : List Value) (vs : List V) (Q : VK) (E : XK), Room k A → A.guards = some [] →
    Env0 P w K mg base A outer s H → BindsTo s fd as (ps.zip us) → Vals vs us → sp vs H Q E → codeAny (model P w) A (.call (.ref f) as) (CR CX outer P w H s Q E) s
theorem FnG.mono {P : Program} {w : World} {K : PySem.W.Frag} {mg : Str → Option Value} {base : Heap} {CX : CXT} {j k : Nat} {f : Addr} {fd : FuncData} {ps : List Str} {sp : Sp} (F : FnG P w K mg base CX j f fd ps sp) (h : j ≤ k) : FnG P w K mg base CX k f fd ps sp :=
  ⟨F.ln, fun A outer s H as us vs Q E r => F.rn A outer s H as us vs Q E (r.mono h)⟩
def CodeAt (K : PySem.W.Frag) (f : Addr) (cdv : Value) : Prop := ∃ oc od fd osl, K.lookup f = some ⟨oc, od, .func fd, osl⟩ ∧ fd.code = cdv
theorem fnG_of {CX : CXT} {P : Program} {w : World} {K : PySem.W.Frag} {mg : Str → Option Value} {base : Heap} {k : Nat} {f : Addr} {x qual : Str} {st : Stmt} {fd : FuncData} {N ps : List Str} {sp : Sp} (F : Fun K x qual st f fd) (S : FnScope N ps (defScope st)) (ln : ∀ vs H Q E, sp vs H Q E → vs.length = ps.length)
    (body : ∀ (cdv : Value) (_ : CodeAt K f cdv) (A : Around) (outer : List Env) (s : Shared) (H : Hp) (vs : List V) (Q : VK) (E : XK), Room k (A.deeper (envOfC qual (defScope st) s.heap.objs.size f cdv)) → A.guards = some [] → sp vs H Q E →
      ∃ t, PSs (cxOf CX P w K mg base N qual (defScope st) f cdv A outer s H E) (defBody st) t ∧ t { nx := fun _ H' => Q .non H', rt := Q } (L2.start N vs) H) : FnG P w K mg base CX (k + 1) f fd ps sp := by
  obtain ⟨oc, od, kV, doc, pm, an, cdv, ct, osl, rfl, lk, hcd⟩ := F.ex
  refine ⟨ln, fun A outer s H as us vs Q E hr hgd e0 hb r hsp => ?_⟩
  have KX : K.In s.heap := e0.mod.kin.keeps fun b o e => (e0.bs b o e).1
  have kinds : ∀ y ∈ ps.zip us, (defScope st).names.lookup y.1 = some .local ∨ ((defScope st).names.lookup y.1 = some .cell ∧ ((cellsFrom (s.heap.objs.size + 1) (defScope st).names []).lookup y.1).isSome = true) := fun ⟨n, v⟩ hy => (S.par n (List.of_mem_zip hy).1).imp id fun q => ⟨q, PySem.W.cellsFrom_some _ _ _ (.inl q)⟩
  refine codeAny_call_function hr.depth (KX _ _ lk) rfl S.co S.gen rfl (PySem.W.codeRec_of KX hcd) (hb _ _ _ _ (wpAny_newFunctionEnv_cells S.kind kinds fun env he s1 ic => ?_))
  subst he
  refine ⟨(e0.mod.nolimit.keeps fun b o e => (e0.bs b o e).1).keeps ic.toInCall.keep, codeAny_func ?_⟩
  obtain ⟨t, ht, hq⟩ := body cdv ⟨_, _, _, _, lk, rfl⟩ A outer s H vs Q E (hr.deeper _) hgd hsp
  have I := inv_start (CX := CX) (N := N) (qual := qual) (f := f) (cd := cdv) (E := E) S hr.hd e0 (ln _ _ _ _ hsp) r ic
  refine wpAny_mono (ht.run [] s1 (L2.start N vs) H _ I hq) (fun fl s' hs => ?_) fun _ _ hs => hs
  cases fl with
  | ret u => obtain ⟨v, σ', H', J, rv, q⟩ := hs; exact ⟨v, H', J.os, J.bare, J.base, J.hok, rv, q⟩
  | next => obtain ⟨σ', H', J, q⟩ := hs; exact ⟨V.non, H', J.os, J.bare, J.base, J.hok, rfl, q⟩
  | brk => obtain ⟨_, _, _, q⟩ := hs; exact q.elim
  | cont => obtain ⟨_, _, _, q⟩ := hs; exact q.elim
/-- where exceptions do not leave the def -/
theorem fnG0 {P : Program} {w : World} {K : PySem.W.Frag} {mg : Str → Option Value} {base : Heap} {k : Nat} {f : Addr} {x qual : Str} {st : Stmt} {fd : FuncData} {N ps : List Str} {mask : List Bool} {n : Nat} {m : M Fl} (F : Fun K x qual st f fd) (S : FnScope N ps (defScope st)) (hps : ps.length = mask.length) (hN : N.length = mask.length + n)
    (body : ∀ (cdv : Value) (_ : CodeAt K f cdv) (A : Around) (outer : List Env) (s : Shared) (H : Hp) (E : XK) (Z : ZC), Z.ios = posT mask 0 ∧ Z.pw = some (P, w) → Room k (A.deeper (envOfC qual (defScope st) s.heap.objs.size f cdv)) → (A.deeper (envOfC qual (defScope st) s.heap.objs.size f cdv)).guards = some [] →
      PSs (cxOf CX0 P w K mg base N qual (defScope st) f cdv A outer s H E).nox (defBody st) (tS K Z m)) : FnG P w K mg base CX0 (k + 1) f fd ps (spF K mask false (mkF mask n m)) := by
  refine fnG_of F S (fun vs H Q E ⟨_, ds, a, _⟩ => a.len.1.trans hps.symm) fun cdv hcd A outer s H vs Q E hr hgd ⟨tb, ds, a, nd, p⟩ => ?_
  refine ⟨_, (body cdv hcd A outer s H E (Z0 mask vs H (fun _ _ _ _ => False) (some (P, w))) ⟨rfl, rfl⟩ hr hgd).nox, ?_⟩
  unfold mkF at p
  cases hi : initE mask ds n with
  | none => rw [hi] at p; exact p.elim
  | some e0 =>
    rw [hi] at p
    have R := rel_start (W := fun _ _ _ _ => False) (pw := some (P, w)) (N := N) a tb nd hi hN
    refine ⟨e0, R, ?_⟩
    dsimp only at p
    have outs : ∀ {σ' : SS} {H' : Hp} {e : En} {os : List D}, Rel K (Z0 mask vs H (fun _ _ _ _ => False) (some (P, w))) σ' H' e → getO (posT mask 0) e = some os → OutR K H' vs (posT mask 0) os ∧ Frm H H' ((posT mask 0).map (adrV vs)) := fun {σ' H' e os} R' ho => by
      refine ⟨out_of R' rfl (fun i hi => hi) ho, fun b o hb hn => R'.fr b o hb fun i hi e => hn (List.mem_map.mpr ⟨i, hi, e.symm⟩)⟩
    cases hm : m e0 with
    | no => rw [hm] at p; exact p.elim
    | exc x e =>
      rw [hm] at p
      dsimp only at p
      split at p <;> (first | exact p.elim | (rename_i h; split at h <;> cases h))
    | ok fl e =>
      rw [hm] at p
      cases fl with
      | nx =>
        dsimp only at p
        cases ho : getO (posT mask 0) e with
        | none => rw [ho] at p; exact p.elim
        | some os =>
          rw [ho] at p
          exact fun σ' H' mo R' => p .non H' mo (outs R' ho).2 (outs R' ho).1 .non
      | rt d =>
        dsimp only at p
        cases ho : getO (posT mask 0) e with
        | none => rw [ho] at p; exact p.elim
        | some os =>
          rw [ho] at p
          exact fun σ' v H' mo R' r => p v H' mo (outs R' ho).2 (outs R' ho).1 r
      | ro d => exact p.elim
      | bk => exact p.elim
      | ct => exact p.elim
theorem fnG0o {P : Program} {w : World} {K : PySem.W.Frag} {mg : Str → Option Value} {base : Heap} {k : Nat} {f : Addr} {x qual : Str} {st : Stmt} {fd : FuncData} {N ps : List Str} {mask : List Bool} {n : Nat} {m : M Fl} (F : Fun K x qual st f fd) (S : FnScope N ps (defScope st)) (hps : ps.length = mask.length) (hN : N.length = mask.length + n)
    (body : ∀ (cdv : Value) (_ : CodeAt K f cdv) (A : Around) (outer : List Env) (s : Shared) (H : Hp) (E : XK) (Z : ZC), Z.ios = posT mask 0 ∧ Z.pw = some (P, w) → Room k (A.deeper (envOfC qual (defScope st) s.heap.objs.size f cdv)) → (A.deeper (envOfC qual (defScope st) s.heap.objs.size f cdv)).guards = some [] →
      PSs (cxOf CX0 P w K mg base N qual (defScope st) f cdv A outer s H E).nox (defBody st) (tS K Z m)) : FnG P w K mg base CX0 (k + 1) f fd ps (spF K mask true (mkFo mask n m)) := by
  refine fnG_of F S (fun vs H Q E ⟨_, ds, a, _⟩ => a.len.1.trans hps.symm) fun cdv hcd A outer s H vs Q E hr hgd ⟨tb, ds, a, nd, p⟩ => ?_
  refine ⟨_, (body cdv hcd A outer s H E (Z0 mask vs H (fun _ _ _ _ => False) (some (P, w))) ⟨rfl, rfl⟩ hr hgd).nox, ?_⟩
  unfold mkFo at p
  cases hi : initE mask ds n with
  | none => rw [hi] at p; exact p.elim
  | some e0 =>
    rw [hi] at p
    have R := rel_start (W := fun _ _ _ _ => False) (pw := some (P, w)) (N := N) a tb nd hi hN
    refine ⟨e0, R, ?_⟩
    dsimp only at p
    have outs : ∀ {σ' : SS} {H' : Hp} {e : En} {os : List D}, Rel K (Z0 mask vs H (fun _ _ _ _ => False) (some (P, w))) σ' H' e → getO (posT mask 0) e = some os → OutR K H' vs (posT mask 0) os ∧ Frm H H' ((posT mask 0).map (adrV vs)) := fun {σ' H' e os} R' ho => by
      refine ⟨out_of R' rfl (fun i hi => hi) ho, fun b o hb hn => R'.fr b o hb fun i hi e => hn (List.mem_map.mpr ⟨i, hi, e.symm⟩)⟩
    cases hm : m e0 with
    | no => rw [hm] at p; exact p.elim
    | exc x e =>
      rw [hm] at p
      dsimp only at p
      split at p <;> (first | exact p.elim | (rename_i h; split at h <;> cases h))
    | ok fl e =>
      rw [hm] at p
      cases fl with
      | ro d =>
        dsimp only at p
        cases ho : getO (posT mask 0) e with
        | none => rw [ho] at p; exact p.elim
        | some os =>
          rw [ho] at p
          exact fun σ' a' H' mo R' r hb => p (.ref a') H' mo (outs R' ho).2 (outs R' ho).1 ⟨a', rfl, r, hb⟩
      | nx => exact p.elim
      | rt d => exact p.elim
      | bk => exact p.elim
      | ct => exact p.elim

/-! ### calls of defs -/
inductive Arg where
  | v (m : M D) | io (i : Nat)
def maskA : List Arg → List Bool
  | [] => []
  | .v _ :: r => false :: maskA r
  | .io _ :: r => true :: maskA r
def chkO (i : Nat) : M Unit := fun e => match e[i]? with
  | some (.op _) => .ok () e
  | _ => .no
def evA : List Arg → M (List D)
  | [] => ret []
  | .v m :: r => bnd m fun d => bnd (evA r) fun ds => ret (d :: ds)
  | .io i :: r => bnd (chkO i) fun _ => bnd (evA r) fun ds => ret (.none :: ds)
def fillA : List Arg → En → List D → Option (List D)
  | [], _, [] => some []
  | .v _ :: r, e, d :: ds => (fillA r e ds).map (d :: ·)
  | .io i :: r, e, _ :: ds => match e[i]? with
    | some (.op d) => (fillA r e ds).map (d :: ·)
    | _ => none
  | _, _, _ => none
def putA : List Arg → List D → En → Option En
  | [], [], e => some e
  | .v _ :: r, os, e => putA r os e
  | .io i :: r, o :: os, e => putA r os (e.set i (.op o))
  | _, _, _ => none
def slA : List Arg → List Nat
  | [] => []
  | .v _ :: r => slA r
  | .io i :: r => i :: slA r
def callM (F : List D → FO) (as : List Arg) : M D := bnd (evA as) fun ds e => match fillA as e ds with
  | none => .no
  | some full => match F full with
    | .ok d outs => (match putA as outs e with | some e2 => .ok d e2 | none => .no)
    | _ => .no
def ARel (K : PySem.W.Frag) (σ : SS) (H : Hp) : List Arg → List V → List D → Prop
  | [], [], [] => True
  | .v _ :: r, v :: vs, d :: ds => Rp K H v d ∧ ARel K σ H r vs ds
  | .io i :: r, v :: vs, _ :: ds => σ[i]? = some (some v) ∧ ARel K σ H r vs ds
  | _, _, _ => False
theorem ARel.mono {K : PySem.W.Frag} {σ : SS} {H H' : Hp} (m : Mono H H') : ∀ {as : List Arg} {vs : List V} {ds : List D}, ARel K σ H as vs ds → ARel K σ H' as vs ds
  | [], [], [], _ => trivial
  | .v _ :: r, v :: vs, d :: ds, h => ⟨h.1.mono m, ARel.mono m h.2⟩
  | .io i :: r, v :: vs, _ :: ds, h => ⟨h.1, ARel.mono m h.2⟩
  | [], [], _ :: _, h => h.elim
  | [], _ :: _, _, h => h.elim
  | .v _ :: _, [], _, h => h.elim
  | .v _ :: _, _ :: _, [], h => h.elim
  | .io _ :: _, [], _, h => h.elim
  | .io _ :: _, _ :: _, [], h => h.elim
section
variable {X : Cx} {Z : ZC} {pos : Pos}
def rA (K : PySem.W.Frag) (as : List Arg) : RR (List V) (List D) := fun σ _ H vs ds => ARel K σ H as vs ds
abbrev tA (K : PySem.W.Frag) (Z : ZC) (as : List Arg) : TA := tG K Z (rA K as) (evA as)
theorem g_nil : PA X [] (tA X.K Z []) := PA_weak pa_nil fun σ H Q ⟨e, R, p⟩ => p [] H .refl R trivial
theorem g_v {a : Expr} {es : List Expr} {m : M D} {as : List Arg} (h : PE X a (tM X.K Z m)) (k : PA X es (tA X.K Z as)) (hs : starEach (a :: es) X.env = (false, eval a X.env) :: starEach es X.env := by rfl) : PA X (a :: es) (tA X.K Z (.v m :: as)) :=
  PA_weak (pa_cons h k hs) fun σ H Q ⟨e, R, p⟩ => ⟨e, R, pst_bnd p fun v H1 d e1 m1 R1 r1 p1 => ⟨e1, R1, pst_bnd p1 fun w H2 y e2 m2 R2 r2 p2 => p2 _ H2 .refl R2 ⟨Rp.mono m2 r1, r2⟩⟩⟩
theorem g_io {a : Expr} {es : List Expr} {i : Nat} {as : List Arg} (h : PE X a (tVar i)) (k : PA X es (tA X.K Z as)) (hs : starEach (a :: es) X.env = (false, eval a X.env) :: starEach es X.env := by rfl) : PA X (a :: es) (tA X.K Z (.io i :: as)) :=
  PA_weak (pa_cons h k hs) fun σ H Q ⟨e, R, p⟩ => by
    have p : pst X.K Z (rA X.K (.io i :: as)) σ H Q (bnd (chkO i) (fun _ => bnd (evA as) fun ds => ret (.none :: ds)) e) := p
    unfold bnd chkO at p
    split at p
    · rename_i u e1 h1
      split at h1
      · cases h1
        rename_i d hd
        obtain ⟨x, hx, _⟩ := R.op i d hd
        exact ⟨.ref x, hx, e, R, pst_bnd p fun w H2 y e2 m2 R2 r2 p2 => p2 _ H2 .refl R2 ⟨hx, r2⟩⟩
      · cases h1
    · rename_i h1; split at h1 <;> cases h1
    · exact p.elim
end
/-- the slots behind a call -/
theorem rel_after {K : PySem.W.Frag} {Z : ZC} {σ : SS} {H H' : Hp} {e e' : En} {S : List Nat} {A : List Addr} (R : Rel K Z σ H e) (m : Mono H H') (fr : Frm H H' A) (hl : e'.length = e.length)
    (out : ∀ j : Nat, j ∉ S → e'[j]? = e[j]?) (ins : ∀ j ∈ S, ∃ d f a, e[j]? = some (.op d) ∧ e'[j]? = some (.op f) ∧ σ[j]? = some (some (.ref a)) ∧ Opn K H' a f) (hA : ∀ a ∈ A, ∃ j ∈ S, σ[j]? = some (some (.ref a))) : Rel K Z σ H' e' := by
  have nA : ∀ (j : Nat) (d : D) (a : Addr), j ∉ S → e[j]? = some (.op d) → σ[j]? = some (some (.ref a)) → a ∉ A := fun j d a hj hd ha hm => by
    obtain ⟨i, hi, hs⟩ := hA a hm
    obtain ⟨d', _, _, q1, _, _, _⟩ := ins i hi
    have := R.inj i j d' d a q1 hd hs ha
    exact hj (this ▸ hi)
  have op' : ∀ (j : Nat) (f : D), e'[j]? = some (.op f) → ∃ d, e[j]? = some (.op d) := fun j f h => by
    by_cases hj : j ∈ S
    · obtain ⟨d, _, _, q1, _, _, _⟩ := ins j hj; exact ⟨d, q1⟩
    · rw [out j hj] at h; exact ⟨f, h⟩
  have nS : ∀ (i : Nat) (ps : List (D × D)), e'[i]? = some (.nd ps) → e[i]? = some (.nd ps) := fun i ps h => by
    by_cases hi : i ∈ S
    · obtain ⟨_, _, _, _, q, _, _⟩ := ins i hi
      rw [q] at h; cases h
    · rw [out i hi] at h; exact h
  have kE : ∀ (a : Addr) (φ : Heap → Prop), H a = some (.ext φ) → H' a = some (.ext φ) := fun a φ hq => by
    rcases fr a _ hq (fun hm => by
      obtain ⟨j, hj, hs⟩ := hA a hm
      obtain ⟨d0, _, _, q1, _, _, _⟩ := ins j hj
      obtain ⟨b, r1, r2, _⟩ := R.op j d0 q1
      rw [hs] at r1; cases r1
      obtain ⟨u, hu, mu⟩ := r2.there
      rw [hq] at hu; cases hu; exact mu) with k | ⟨_, _, k, _⟩
    · exact k
    · cases k
  have hb : ∀ a ∈ A, Z.Hb a = none ∨ ∃ i ∈ Z.ios, a = Z.adr i := fun a ha => by
    obtain ⟨i, hi, hs⟩ := hA a ha
    obtain ⟨d', _, _, q1, _, _, _⟩ := ins i hi
    obtain ⟨b, r1, _, r3⟩ := R.op i d' q1
    rw [hs] at r1; cases r1
    exact r3.imp id fun ⟨x, y⟩ => ⟨i, x, y⟩
  refine ⟨hl.trans R.len, fun i d h => ?_, fun i d h => ?_, fun i j d f a h1 h2 h3 h4 => ?_, fun b o h n => ?_, fun i hi => ?_, fun p hp => m.tabs p hp (R.tab p hp), ⟨fun i ps h => ?_, fun i j ps qs a h1 h2 h3 h4 => ?_⟩, fun p hp => ?_⟩
  rotate_left 5
  · obtain ⟨a, q1, q2, q3⟩ := R.nd.at_ i ps (nS i ps h)
    exact ⟨a, q1, q2.keep m (kE a), q3⟩
  · exact R.nd.inj i j ps qs a (nS i ps h1) (nS j qs h2) h3 h4
  rotate_left 1
  · have hj : i ∉ S := fun hj => by
      obtain ⟨_, _, _, _, q, _, _⟩ := ins i hj
      rw [q] at h; cases h
    rw [out i hj] at h
    obtain ⟨v, h1, h2⟩ := R.fz i d h
    exact ⟨v, h1, h2.mono m⟩
  · by_cases hj : i ∈ S
    · obtain ⟨d0, f, a, q1, q2, q3, q4⟩ := ins i hj
      rw [q2] at h; cases h
      obtain ⟨b, r1, _, r3⟩ := R.op i d0 q1
      rw [q3] at r1; cases r1
      exact ⟨a, q3, q4, r3⟩
    · rw [out i hj] at h
      obtain ⟨a, r1, r2, r3⟩ := R.op i d h
      obtain ⟨u, hu, mu⟩ := r2.there
      exact ⟨a, r1, r2.mono m (((fr a u hu (nA i d a hj h r1)).mut mu).trans hu.symm), r3⟩
  · obtain ⟨d', h1'⟩ := op' i d h1
    obtain ⟨f', h2'⟩ := op' j f h2
    exact R.inj i j d' f' a h1' h2' h3 h4
  · refine (R.fr b o h n).trans fun x hx => fr b x hx fun hA' => ?_
    rcases hb b hA' with q | ⟨i, hi, q⟩
    · rw [h] at q; cases q
    · exact n i hi q
  · obtain ⟨⟨u, hu⟩, h1⟩ := R.io i hi
    refine ⟨?_, h1⟩
    by_cases hA' : Z.adr i ∈ A
    · obtain ⟨j, hj, hs⟩ := hA _ hA'
      obtain ⟨_, f, a, _, _, q3, q4⟩ := ins j hj
      rw [hs] at q3; cases q3
      obtain ⟨u', hu', _⟩ := q4.there
      exact ⟨u', hu'⟩
    · exact (fr _ u hu hA').is
  · obtain ⟨h1, h2, h3, h4⟩ := R.tp p hp
    refine ⟨(fr _ _ h1 fun hA' => ?_).mut h2, h2, h3, fun j f hj => ?_⟩
    · obtain ⟨j, hj, hs⟩ := hA _ hA'
      obtain ⟨d0, _, _, q1, _, _, _⟩ := ins j hj
      exact h4 j d0 q1 hs
    · obtain ⟨d0, q⟩ := op' j f hj
      exact h4 j d0 q
end ZZ

namespace ZZ
open PySem PySem.Spec PyProof.Rows L2
variable [TabC]

/-! ### the arguments, at a call -/
theorem args_ok {K : PySem.W.Frag} {Z : ZC} {σ : SS} {H : Hp} {e : En} (R : Rel K Z σ H e) : ∀ {as : List Arg} {vs : List V} {ds full : List D}, ARel K σ H as vs ds → fillA as e ds = some full → ArgR K H (maskA as) vs full
  | [], [], [], full, _, h => by cases h; trivial
  | .v _ :: r, v :: vs, d :: ds, full, a, h => by
    simp only [fillA] at h
    obtain ⟨f', h1, rfl⟩ := Option.map_eq_some_iff.mp h
    exact ⟨a.1, args_ok R a.2 h1⟩
  | .io i :: r, v :: vs, _ :: ds, full, a, h => by
    simp only [fillA] at h
    split at h
    · rename_i d hd
      obtain ⟨f', h1, rfl⟩ := Option.map_eq_some_iff.mp h
      obtain ⟨x, hx, o, _⟩ := R.op i d hd
      rw [a.1] at hx; cases hx
      exact ⟨⟨x, rfl, o⟩, args_ok R a.2 h1⟩
    · cases h
  | [], [], _ :: _, _, a, _ => a.elim
  | [], _ :: _, _, _, a, _ => a.elim
  | .v _ :: _, [], _, _, a, _ => a.elim
  | .v _ :: _, _ :: _, [], _, a, _ => a.elim
  | .io _ :: _, [], _, _, a, _ => a.elim
  | .io _ :: _, _ :: _, [], _, a, _ => a.elim
def adrS (σ : SS) (i : Nat) : Addr := match σ[i]? with
  | some (some (.ref a)) => a
  | _ => 0
theorem fill_op {e : En} : ∀ {as : List Arg} {ds full : List D}, fillA as e ds = some full → ∀ j ∈ slA as, ∃ d, e[j]? = some (.op d)
  | [], [], full, h, j, hj => by cases hj
  | .v _ :: r, d :: ds, full, h, j, hj => by
    simp only [fillA] at h
    obtain ⟨f', h1, rfl⟩ := Option.map_eq_some_iff.mp h
    exact fill_op h1 j hj
  | .io i :: r, _ :: ds, full, h, j, hj => by
    simp only [fillA] at h
    split at h
    · rename_i d hd
      obtain ⟨f', h1, rfl⟩ := Option.map_eq_some_iff.mp h
      rcases List.mem_cons.mp hj with rfl | hj
      · exact ⟨d, hd⟩
      · exact fill_op h1 j hj
    · cases h
  | [], _ :: _, _, h, _, _ => by cases h
  | .v _ :: _, [], _, h, _, _ => by cases h
  | .io _ :: _, [], _, h, _, _ => by cases h
theorem adr_map {K : PySem.W.Frag} {σ : SS} {H : Hp} {ws : List V} : ∀ {as : List Arg} {vs : List V} {ds : List D} (k : Nat), ARel K σ H as vs ds → (∀ j : Nat, ws[k + j]? = vs[j]?) → (posT (maskA as) k).map (adrV ws) = (slA as).map (adrS σ)
  | [], [], [], k, _, _ => rfl
  | .v _ :: r, v :: vs, d :: ds, k, a, h => adr_map (k + 1) a.2 fun j => by
    have := h (j + 1)
    rw [List.getElem?_cons_succ] at this
    rw [← this]; congr 1; omega
  | .io i :: r, v :: vs, _ :: ds, k, a, h => by
    have ih := adr_map (ws := ws) (k + 1) a.2 fun j => by
      have := h (j + 1)
      rw [List.getElem?_cons_succ] at this
      rw [← this]; congr 1; omega
    have h0 : ws[k]? = some v := by simpa using h 0
    have e1 : adrV ws k = adrS σ i := by
      unfold adrV adrS
      rw [h0, a.1]
      cases v <;> rfl
    show adrV ws k :: _ = adrS σ i :: _
    rw [e1, ih]
  | [], [], _ :: _, _, a, _ => a.elim
  | [], _ :: _, _, _, a, _ => a.elim
  | .v _ :: _, [], _, _, a, _ => a.elim
  | .v _ :: _, _ :: _, [], _, a, _ => a.elim
  | .io _ :: _, [], _, _, a, _ => a.elim
  | .io _ :: _, _ :: _, [], _, a, _ => a.elim
theorem nodup_of_inj {α β : Type} {f : α → β} : ∀ {l : List α}, l.Nodup → (∀ x ∈ l, ∀ y ∈ l, f x = f y → x = y) → (l.map f).Nodup
  | [], _, _ => List.nodup_nil
  | a :: l, n, h => by
    rw [List.nodup_cons] at n
    rw [List.map_cons, List.nodup_cons]
    refine ⟨fun hm => ?_, nodup_of_inj n.2 fun x hx y hy => h x (List.mem_cons_of_mem _ hx) y (List.mem_cons_of_mem _ hy)⟩
    obtain ⟨x, hx, e⟩ := List.mem_map.mp hm
    have := h x (List.mem_cons_of_mem _ hx) a List.mem_cons_self e
    exact n.1 (this ▸ hx)
theorem put_spec : ∀ {as : List Arg} {outs : List D} {e e2 : En}, putA as outs e = some e2 → (slA as).Nodup → e2.length = e.length ∧ (∀ j : Nat, j ∉ slA as → e2[j]? = e[j]?) ∧
    ∀ (n j : Nat), (slA as)[n]? = some j → j < e.length → ∃ o, outs[n]? = some o ∧ e2[j]? = some (.op o)
  | [], [], e, e2, h, _ => by cases h; exact ⟨rfl, fun _ _ => rfl, fun n j h => by simp [slA] at h⟩
  | .v _ :: r, os, e, e2, h, n => put_spec (as := r) h n
  | .io i :: r, o :: os, e, e2, h, n => by
    have n' : i ∉ slA r ∧ (slA r).Nodup := List.nodup_cons.mp n
    obtain ⟨h1, h2, h3⟩ := put_spec (as := r) (e := e.set i (.op o)) h n'.2
    refine ⟨by rw [h1, List.length_set], fun j hj => ?_, fun m j hm hl => ?_⟩
    · have q : j ≠ i ∧ j ∉ slA r := ⟨fun x => hj (by rw [x]; exact List.mem_cons_self), fun x => hj (List.mem_cons_of_mem _ x)⟩
      rw [h2 j q.2, List.getElem?_set_ne (Ne.symm q.1)]
    · cases m with
      | zero =>
        have : i = j := by simpa [slA] using hm
        subst this
        exact ⟨o, rfl, by rw [h2 i n'.1, List.getElem?_set_self hl]⟩
      | succ m => exact h3 m j (by simpa [slA] using hm) (by rw [List.length_set]; exact hl)
  | [], _ :: _, _, _, h, _ => by cases h
  | .io _ :: _, [], _, _, h, _ => by cases h
theorem out_get {K : PySem.W.Frag} {H : Hp} {vs : List V} : ∀ {is : List Nat} {os : List D}, OutR K H vs is os → ∀ (n i : Nat) (o : D), is[n]? = some i → os[n]? = some o → Opn K H (adrV vs i) o
  | [], [], _, n, i, o, h, _ => by simp at h
  | i :: is, o :: os, r, 0, j, p, h1, h2 => by simp at h1 h2; subst h1 h2; exact r.1
  | i :: is, o :: os, r, n + 1, j, p, h1, h2 => out_get r.2 n j p (by simpa using h1) (by simpa using h2)
  | [], _ :: _, r, _, _, _, _, _ => r.elim
  | _ :: _, [], r, _, _, _, _, _ => r.elim
theorem ARel.len {K : PySem.W.Frag} {σ : SS} {H : Hp} : ∀ {as : List Arg} {vs : List V} {ds : List D}, ARel K σ H as vs ds → vs.length = as.length
  | [], [], [], _ => rfl
  | .v _ :: r, v :: vs, d :: ds, h => by rw [List.length_cons, List.length_cons, ARel.len h.2]
  | .io i :: r, v :: vs, _ :: ds, h => by rw [List.length_cons, List.length_cons, ARel.len h.2]
  | [], [], _ :: _, h => h.elim
  | [], _ :: _, _, h => h.elim
  | .v _ :: _, [], _, h => h.elim
  | .v _ :: _, _ :: _, [], h => h.elim
  | .io _ :: _, [], _, h => h.elim
  | .io _ :: _, _ :: _, [], h => h.elim
/-- what the callee is asked, from the caller's side -/
theorem sp_call {K : PySem.W.Frag} {Z : ZC} {σ : SS} {H : Hp} {e e2 : En} {as : List Arg} {vs : List V} {ds full : List D} {opn : Bool} {F : List D → FO} {d : D} {outs : List D} {Q : VK} {E : XK} (R : Rel K Z σ H e) (a : ARel K σ H as vs ds) (hf : fillA as e ds = some full) (hF : F full = .ok d outs) (hp : putA as outs e = some e2) (nd : (slA as).Nodup)
    (q : ∀ v H', Mono H H' → Rel K Z σ H' e2 → RetR K opn H H' v d → (opn = true → ∀ x, v = .ref x → H x = none → NewO K Z σ e2 H' v d) → Q v H') : spF K (maskA as) opn F vs H Q E := by
  have hop := fill_op hf
  have sl : ∀ j ∈ slA as, ∃ d x, e[j]? = some (.op d) ∧ σ[j]? = some (some (.ref x)) ∧ adrS σ j = x := fun j hj => by
    obtain ⟨d, hd⟩ := hop j hj
    obtain ⟨x, hx, _⟩ := R.op j d hd
    exact ⟨d, x, hd, hx, by unfold adrS; rw [hx]⟩
  have em : (posT (maskA as) 0).map (adrV vs) = (slA as).map (adrS σ) := adr_map 0 a fun j => by simp
  refine ⟨R.tab, full, args_ok R a hf, ?_, ?_⟩
  · rw [em]
    refine nodup_of_inj nd fun x hx y hy hxy => ?_
    obtain ⟨d1, a1, p1, p2, p3⟩ := sl x hx
    obtain ⟨d2, a2, q1, q2, q3⟩ := sl y hy
    rw [p3, q3] at hxy
    subst hxy
    exact R.inj x y d1 d2 a1 p1 q1 p2 q2
  · rw [hF]
    intro v H' m fr o r
    obtain ⟨h1, h2, h3⟩ := put_spec hp nd
    have R2 : Rel K Z σ H' e2 := by
      refine rel_after (S := slA as) R m fr h1 h2 (fun j hj => ?_) fun x hx => ?_
      · obtain ⟨d1, x, p1, p2, p3⟩ := sl j hj
        obtain ⟨n, hn⟩ := List.getElem?_of_mem hj
        obtain ⟨o1, q1, q2⟩ := h3 n j hn (lt_of_get p1)
        refine ⟨d1, o1, x, p1, q2, p2, ?_⟩
        have e1 : ((posT (maskA as) 0).map (adrV vs))[n]? = some x := by rw [em, List.getElem?_map, hn, ← p3]; rfl
        rw [List.getElem?_map] at e1
        obtain ⟨p, hp, rfl⟩ := Option.map_eq_some_iff.mp e1
        exact out_get o n p o1 hp q1
      · rw [em] at hx
        obtain ⟨j, hj, rfl⟩ := List.mem_map.mp hx
        obtain ⟨d1, x, p1, p2, p3⟩ := sl j hj
        exact ⟨j, hj, by rw [p3]; exact p2⟩
    refine q v H' m R2 r fun ho x hv hx => ?_
    subst ho
    obtain ⟨y, rfl, o1, _⟩ := r
    cases hv
    obtain ⟨b1, b2, b3⟩ := R.fresh hx
    refine ⟨x, rfl, o1, b1, fun i f hi => ?_, b3⟩
    by_cases hj : i ∈ slA as
    · obtain ⟨d1, y, p1, p2, _⟩ := sl i hj
      exact b2 i d1 p1
    · rw [h2 i hj] at hi
      exact b2 i f hi
section
variable {X : Cx} {Z : ZC} {pos p : Pos}
theorem runG {CX : CXT} {k : Nat} {f : Addr} {fd : FuncData} {ps : List Str} {sp : Sp} {E : XK} {pins : List (Addr × Obj)} {σ : SS} {H : Hp} {s : Shared} {Q : VK} {us : List Value} {vs : List V} (F : FnG X.prog X.w X.K X.mg X.base CX k f fd ps sp) (hr : Room k X.A) (hgd : X.A.guards = some []) {as : Args} (hb : BindsTo s fd as (ps.zip us)) (hx : Passes CX X E)
    (I : Inv X pins σ H s) (r : Vals vs us) (h : sp vs H Q E) : codeAny (model X.prog X.w) X.A (.call (.ref f) as) (fun r s' => match r with
      | .ok (.ret u) => EP X pins σ Q u s'
      | .ok _ => False
      | .error e => X.xe e s') s := by
  refine codeAny_mono (F.rn X.A X.stack s H as us vs Q E hr hgd I.env0 hb r h) fun r s' hq => ?_
  cases r with
  | error e => exact hx pins σ H s e s' I hq
  | ok fl =>
    cases fl with
    | ret u => exact I.after hq
    | next => exact hq.elim
    | brk => exact hq.elim
    | cont => exact hq.elim
theorem t_call {K : PySem.W.Frag} {as : List Arg} {F : List D → FO} {Q : VK} {E : XK} {σ : SS} {H : Hp} (nd : (slA as).Nodup) (p : tM K Z (callM F as) σ H Q) : tA K Z as σ H fun vs H1 => spF K (maskA as) false F vs H1 Q E := by
  obtain ⟨e, R, p⟩ := p
  refine ⟨e, R, pst_bnd p fun vs H1 ds e1 m1 R1 r1 p1 => ?_⟩
  cases hf : fillA as e1 ds with
  | none => rw [hf] at p1; exact p1.elim
  | some full =>
    rw [hf] at p1
    dsimp only at p1
    cases hF : F full with
    | ok d outs =>
      rw [hF] at p1
      dsimp only at p1
      cases hp : putA as outs e1 with
      | none => rw [hp] at p1; exact p1.elim
      | some e2 =>
        rw [hp] at p1
        exact sp_call R1 r1 hf hF hp nd fun v H' m R2 r _ => p1 v H' m R2 r
    | exc x outs => rw [hF] at p1; exact p1.elim
    | no => rw [hF] at p1; exact p1.elim
theorem t_callO {K : PySem.W.Frag} {as : List Arg} {F : List D → FO} {Q : VK} {E : XK} {σ : SS} {H : Hp} (nd : (slA as).Nodup) (p : tO K Z (callM F as) σ H Q) : tA K Z as σ H fun vs H1 => spF K (maskA as) true F vs H1 Q E := by
  obtain ⟨e, R, p⟩ := p
  refine ⟨e, R, pst_bnd p fun vs H1 ds e1 m1 R1 r1 p1 => ?_⟩
  cases hf : fillA as e1 ds with
  | none => rw [hf] at p1; exact p1.elim
  | some full =>
    rw [hf] at p1
    dsimp only at p1
    cases hF : F full with
    | ok d outs =>
      rw [hF] at p1
      dsimp only at p1
      cases hp : putA as outs e1 with
      | none => rw [hp] at p1; exact p1.elim
      | some e2 =>
        rw [hp] at p1
        exact sp_call R1 r1 hf hF hp nd fun v H' m R2 r o => by
          obtain ⟨x, hv, o1, hx⟩ := r
          exact p1 v H' m R2 (o rfl x hv hx)
    | exc x outs => rw [hF] at p1; exact p1.elim
    | no => rw [hF] at p1; exact p1.elim
theorem call_v {f : Addr} {fd : FuncData} {ps : List Str} {k : Nat} {sp : Sp} {x : Str} {a : Expr} {es : List Expr} {t : TA} (G : FnG X.prog X.w X.K X.mg X.base CX0 k f fd ps sp) (hr : Room k X.A) (hgd : X.A.guards = some []) (hg : Gl X x) (hm : X.mg x = some (.ref f)) (hk : PySem.W.keepIn X.K (.ref f) = true) (hb : Binds X.K fd ps [])
    (ha : PA X (a :: es) t) (hdb : (x == ("__debug__" : Str)) = false := by decide) (he : starEach (a :: es) X.env = (false, eval a X.env) :: starEach es X.env := by rfl) (hpl : (backTo pos (starEach es X.env)).any (·.1) = false := by rfl) :
    PE X (.Call (.Name x p) (a :: es) [] pos) (fun σ H Q => t σ H fun vs H1 => sp vs H1 Q E0) := by
  refine ⟨fun pins s σ H Q I h => wpAny_Call_Name_kw (ld_glob I hg hm (PySem.W.callWith_K (h₀ := X.base) I.ok.mod.kin hk (thn (ha.run pos pins s σ H _ I h) fun us s1 ⟨vs, H1, I1, r, q⟩ => ⟨I1.kIn, ?_⟩) he hpl) hdb)⟩
  have hl : (us ++ []).length = ps.length := by
    rw [List.append_nil, ← r.length]; exact G.ln _ _ _ _ q
  have hb' := hb s1 us I1.kIn hl
  rw [List.append_nil] at hb'
  refine wpAny_call (codeAny_mono (runG G hr hgd hb' pass0 I1 r q) fun r s' hq => ?_)
  cases r with
  | error e => exact hq
  | ok fl => cases fl <;> first | exact hq | exact hq.elim
theorem e_call {f : Addr} {fd : FuncData} {ps : List Str} {k : Nat} {mask : List Bool} {F : List D → FO} {x : Str} {a : Expr} {es : List Expr} {as : List Arg} (G : FnG X.prog X.w X.K X.mg X.base CX0 k f fd ps (spF X.K mask false F)) (hr : Room k X.A) (hgd : X.A.guards = some []) (hg : Gl X x) (hm : X.mg x = some (.ref f)) (hk : PySem.W.keepIn X.K (.ref f) = true) (hb : Binds X.K fd ps [])
    (ha : PA X (a :: es) (tA X.K Z as)) (hmk : maskA as = mask := by rfl) (nd : (slA as).Nodup := by decide) (hdb : (x == ("__debug__" : Str)) = false := by decide) (he : starEach (a :: es) X.env = (false, eval a X.env) :: starEach es X.env := by rfl) (hpl : (backTo pos (starEach es X.env)).any (·.1) = false := by rfl) :
    PE X (.Call (.Name x p) (a :: es) [] pos) (tM X.K Z (callM F as)) := by
  subst hmk
  exact PE_weak (call_v G hr hgd hg hm hk hb ha hdb he hpl) fun σ H Q q => t_call nd q
theorem e_callO {f : Addr} {fd : FuncData} {ps : List Str} {k : Nat} {mask : List Bool} {F : List D → FO} {x : Str} {a : Expr} {es : List Expr} {as : List Arg} (G : FnG X.prog X.w X.K X.mg X.base CX0 k f fd ps (spF X.K mask true F)) (hr : Room k X.A) (hgd : X.A.guards = some []) (hg : Gl X x) (hm : X.mg x = some (.ref f)) (hk : PySem.W.keepIn X.K (.ref f) = true) (hb : Binds X.K fd ps [])
    (ha : PA X (a :: es) (tA X.K Z as)) (hmk : maskA as = mask := by rfl) (nd : (slA as).Nodup := by decide) (hdb : (x == ("__debug__" : Str)) = false := by decide) (he : starEach (a :: es) X.env = (false, eval a X.env) :: starEach es X.env := by rfl) (hpl : (backTo pos (starEach es X.env)).any (·.1) = false := by rfl) :
    PE X (.Call (.Name x p) (a :: es) [] pos) (tO X.K Z (callM F as)) := by
  subst hmk
  exact PE_weak (call_v G hr hgd hg hm hk hb ha hdb he hpl) fun σ H Q q => t_callO nd q
end
end ZZ

namespace ZZ
open PySem PySem.Spec PyProof.Rows L2
variable [TabC]

/-! ### statements -/
def sNx : M Fl := ret .nx
def sSeq (s t : M Fl) : M Fl := bnd s fun f => match f with
  | .nx => t
  | f => ret f
theorem pstS_mono {K : PySem.W.Frag} {Z : ZC} {D : Ends} {σ σ2 : SS} {H H' : Hp} {o : Out Fl} (h : pstS K Z D σ H o) (m : Mono H H') : pstS K Z D σ2 H' o := by
  cases o with
  | ok f e =>
    cases f with
    | nx => exact fun s H2 m2 R => h s H2 (m.trans m2) R
    | bk => exact fun s H2 m2 R => h s H2 (m.trans m2) R
    | ct => exact fun s H2 m2 R => h s H2 (m.trans m2) R
    | rt d => exact fun s v H2 m2 R r => h s v H2 (m.trans m2) R r
    | ro d => exact fun s v H2 m2 R r => h s v H2 (m.trans m2) R r
  | exc x e => exact fun s H2 m2 R => h s H2 (m.trans m2) R
  | no => exact h
/-- from an expression on -/
theorem pstS_bnd {K : PySem.W.Frag} {Z : ZC} {β α : Type} {r : RR β α} {σ : SS} {H : Hp} {D : Ends} {m : M α} {f : α → M Fl} {e : En} {Q : β → Hp → Prop} (h : pstS K Z D σ H (bnd m f e))
    (k : ∀ b H1 d e1, m e = .ok d e1 → Mono H H1 → Rel K Z σ H1 e1 → r σ e1 H1 b d → pstS K Z D σ H1 (f d e1) → Q b H1) : pst K Z r σ H Q (m e) := by
  unfold bnd at h
  cases q : m e with
  | ok d e1 =>
    rw [q] at h
    exact fun b H1 m1 R p => k b H1 d e1 q m1 R p (pstS_mono h m1)
  | exc x e1 =>
    rw [q] at h
    exact fun H' m1 R => h σ H' m1 R
  | no => rw [q] at h; exact h
section
variable {X : Cx} {Z : ZC} {pos : Pos}
theorem s_nil : PSs X [] (tS X.K Z sNx) := PSs_weak pss_nil fun D σ H ⟨e, R, p⟩ => p σ H .refl R
theorem s_cons {st : Stmt} {rest : List Stmt} {a b : M Fl} (h : PS X st (tS X.K Z a)) (k : PSs X rest (tS X.K Z b)) : PSs X (st :: rest) (tS X.K Z (sSeq a b)) :=
  PSs_weak (pss_cons h k) fun D σ H ⟨e, R, p⟩ => ⟨e, R, by
    have p : pstS X.K Z D σ H (bnd a (fun f => match f with | .nx => b | f => ret f) e) := p
    unfold bnd at p
    cases q : a e with
    | ok f e1 =>
      rw [q] at p
      cases f with
      | nx => exact fun σ' H' m R' => ⟨e1, R', pstS_mono p m⟩
      | rt d => exact p
      | ro d => exact p
      | bk => exact p
      | ct => exact p
    | exc x e1 => rw [q] at p; exact p
    | no => rw [q] at p; exact p⟩
theorem s_one {st : Stmt} {a : M Fl} (h : PS X st (tS X.K Z a)) : PSs X [st] (tS X.K Z a) := pss_one h
def sBk : M Fl := ret .bk
def sCt : M Fl := ret .ct
theorem s_pass : PS X (.Pass pos) (tS X.K Z sNx) := PS_weak ps_pass fun D σ H ⟨e, R, p⟩ => p σ H .refl R
theorem s_break : PS X (.Break pos) (tS X.K Z sBk) := PS_weak ps_break fun D σ H ⟨e, R, p⟩ => p σ H .refl R
theorem s_cont : PS X (.Continue pos) (tS X.K Z sCt) := PS_weak ps_continue fun D σ H ⟨e, R, p⟩ => p σ H .refl R
/-- a statement that no way reaches -/
def sNo : M Fl := fun _ => .no
theorem s_no {st : Stmt} : PS X st (tS X.K Z sNo) := PS_weak ps_never fun D σ H ⟨e, R, p⟩ => p
def sExpr (m : M D) : M Fl := bnd m fun _ => ret .nx
theorem s_expr {e : Expr} {m : M D} (h : PE X e (tM X.K Z m)) (hs : swapsWith e none pos.line X.env = pure false := by rfl) : PS X (.Expr e pos) (tS X.K Z (sExpr m)) :=
  PS_weak (ps_expr h hs) fun D σ H ⟨en, R, p⟩ => ⟨en, R, pstS_bnd p fun v H1 d e1 _ m1 R1 r1 p1 => p1 σ H1 .refl R1⟩
def sRet (m : M D) : M Fl := bnd m fun d => ret (.rt d)
theorem s_ret {e : Expr} {m : M D} (h : PE X e (tM X.K Z m)) : PS X (.Return (some e) pos) (tS X.K Z (sRet m)) :=
  PS_weak (ps_ret h) fun D σ H ⟨en, R, p⟩ => ⟨en, R, pstS_bnd p fun v H1 d e1 _ m1 R1 r1 p1 => p1 σ v H1 .refl R1 r1⟩
def sRetN : M Fl := ret (.rt .none)
theorem s_retN : PS X (.Return none pos) (tS X.K Z sRetN) := PS_weak ps_retN fun D σ H ⟨e, R, p⟩ => p σ .non H .refl R .non
/-- an open thing is handed back -/
def sRetO (m : M D) : M Fl := bnd m fun d => ret (.ro d)
theorem s_retO {e : Expr} {m : M D} (h : PE X e (tO X.K Z m)) : PS X (.Return (some e) pos) (tS X.K Z (sRetO m)) :=
  PS_weak (ps_ret h) fun D σ H ⟨en, R, p⟩ => ⟨en, R, pstS_bnd p fun v H1 d e1 _ m1 R1 r1 p1 => by
    obtain ⟨a, rfl, o, hb, _⟩ := r1
    exact p1 σ a H1 .refl R1 o hb⟩
def vo (i : Nat) : M D := fun e => match e[i]? with
  | some (.op d) => .ok d e
  | _ => .no
theorem s_retV {e : Expr} {i : Nat} (h : PE X e (tVar i)) (hi : i ∉ Z.ios) : PS X (.Return (some e) pos) (tS X.K Z (sRetO (vo i))) :=
  PS_weak (ps_ret h) fun D σ H ⟨en, R, p⟩ => by
    have p : pstS X.K Z D σ H (bnd (vo i) (fun d => ret (.ro d)) en) := p
    unfold bnd vo at p
    split at p
    · rename_i d e1 h1
      split at h1
      · cases h1
        rename_i hd
        obtain ⟨a, ha, o, hb⟩ := R.op i _ hd
        exact ⟨.ref a, ha, p σ a H .refl R o (hb.resolve_right fun q => hi q.1)⟩
      · cases h1
    · rename_i h1; split at h1 <;> cases h1
    · exact p.elim
def sIf (c : M Bool) (s t : M Fl) : M Fl := bnd c fun b => if b = true then s else t
theorem s_if {c : Expr} {a b : List Stmt} {mc : M Bool} {s t : M Fl} (hc : PT X c (tT X.K Z mc)) (ha : PSs X a (tS X.K Z s)) (hb : PSs X b (tS X.K Z t)) : PS X (.If c a b pos) (tS X.K Z (sIf mc s t)) :=
  PS_weak (ps_if hc ha hb) fun D σ H ⟨en, R, p⟩ => ⟨en, R, pstS_bnd p fun v H1 d e1 _ m1 R1 r1 p1 => by
    cases r1
    cases v with
    | true => rw [if_pos rfl] at p1 ⊢; exact ⟨e1, R1, p1⟩
    | false => rw [if_neg Bool.false_ne_true] at p1 ⊢; exact ⟨e1, R1, p1⟩⟩

/-! ### targets -/
def setN (i : Nat) (d : D) (e : En) : Option En := match e[i]? with
  | some _ => some (e.set i (.fz d))
  | none => none
def setNs : List Nat → List D → En → Option En
  | [], [], e => some e
  | i :: is, d :: ds, e => (setN i d e).bind (setNs is ds)
  | _, _, _ => none
def gsN : List Nat → TGs
  | [] => gNil
  | i :: is => gCons (gName i) (gsN is)
theorem rel_setN {K : PySem.W.Frag} {σ : SS} {H : Hp} {e e' : En} {i : Nat} {v : V} {d : D} (R : Rel K Z σ H e) (r : Rp K H v d) (h : setN i d e = some e') (hi : i ∉ Z.ios) : Rel K Z (σ.set i (some v)) H e' := by
  unfold setN at h
  split at h
  · rename_i hs
    cases h
    exact R.setF (lt_of_get hs) hi r
  · cases h
theorem g_ns {K : PySem.W.Frag} {H : Hp} {Q : SS → Hp → Prop} : ∀ {is : List Nat} {σ : SS} {e e' : En} {vs : List V} {ds : List D}, Rel K Z σ H e → RpA K H vs ds → setNs is ds e = some e' → (∀ i ∈ is, i ∉ Z.ios) → (∀ σ', Rel K Z σ' H e' → Q σ' H) → gsN is vs σ H Q
  | [], σ, e, e', vs, [], R, r, h, _, q => by
    cases r
    cases h
    exact ⟨rfl, q σ R⟩
  | i :: is, σ, e, e', vs, d :: ds, R, r, h, hi, q => by
    cases r with
    | cons r1 r2 =>
      simp only [setNs] at h
      obtain ⟨e1, h1, h2⟩ := Option.bind_eq_some_iff.mp h
      exact ⟨_, _, rfl, g_ns (rel_setN R r1 h1 (hi i List.mem_cons_self)) r2 h2 (fun j hj => hi j (List.mem_cons_of_mem _ hj)) q⟩
  | [], _, _, _, _, _ :: _, _, _, h, _, _ => by cases h
  | _ :: _, _, _, _, _, [], _, _, h, _, _ => by cases h
/-- what a target does with data -/
def TgOk (K : PySem.W.Frag) (Z : ZC) (g : TG) (f : D → En → Option En) : Prop := ∀ (σ : SS) (H : Hp) (e e' : En) (v : V) (d : D) (Q : SS → Hp → Prop), Rel K Z σ H e → Rp K H v d → f d e = some e' → (∀ σ', Rel K Z σ' H e' → Q σ' H) → g v σ H Q
theorem tg_n {K : PySem.W.Frag} {i : Nat} (hi : i ∉ Z.ios) : TgOk K Z (gName i) (setN i) := fun σ H e e' v d Q R r h q => q _ (rel_setN R r h hi)
def setT (is : List Nat) : D → En → Option En
  | .tuple ds, e => setNs is ds e
  | .list ds, e => setNs is ds e
  | _, _ => none
theorem setNs_len : ∀ {is : List Nat} {ds : List D} {e e' : En}, setNs is ds e = some e' → ds.length = is.length
  | [], [], _, _, _ => rfl
  | i :: is, d :: ds, e, e', h => by
    simp only [setNs] at h
    obtain ⟨e1, h1, h2⟩ := Option.bind_eq_some_iff.mp h
    rw [List.length_cons, List.length_cons, setNs_len h2]
  | [], _ :: _, _, _, h => by cases h
  | _ :: _, [], _, _, h => by cases h
def gSeqT (K : PySem.W.Frag) (is : List Nat) : TG := fun v σ H Q => gTup K is.length (gsN is) v σ H Q ∨ gUnl K is.length (gsN is) v σ H Q
theorem tg_t {K : PySem.W.Frag} {is : List Nat} (hi : ∀ i ∈ is, i ∉ Z.ios) : TgOk K Z (gSeqT K is) (setT is) := fun σ H e e' v d Q R r h q => by
  cases d with
  | tuple ds =>
    obtain ⟨a, xs, rfl, ha, ra⟩ := rp_tup r
    exact .inl ⟨a, xs, rfl, ha, ra.length.trans (setNs_len h), g_ns R ra h hi q⟩
  | list ds =>
    obtain ⟨a, xs, rfl, ha, ra⟩ := rp_lst r
    exact .inr ⟨a, xs, rfl, ha, ra.length.trans (setNs_len h), g_ns R ra h hi q⟩
  | _ => cases h
theorem pg_or {tg : Expr} {g g' : TG} (h : PG X tg g) (h' : PG X tg g') : PG X tg (fun v σ H Q => g v σ H Q ∨ g' v σ H Q) := ⟨fun pins s σ H v u Q I r q => q.elim (h.run pins s σ H v u Q I r) (h'.run pins s σ H v u Q I r)⟩
theorem pg_seq {es : List Expr} {k : Nat} {is : List Nat} (hc : X.calm = true) (h : PGs X es (gsN is)) (hn : (assignEach es X.env).length = is.length := by rfl) (hst : (assignEach es X.env).findIdx? (·.1) = none := by rfl) : PG X (.Tuple es k pos) (gSeqT X.K is) :=
  pg_or (pg_tup hc h hn hst) (pg_unl hc h hn hst)
/-- target = e -/
def sAsg (f : D → En → Option En) (m : M D) : M Fl := bnd m fun d e => match f d e with
  | some e' => .ok .nx e'
  | none => .no
theorem t_asg {K : PySem.W.Frag} {g : TG} {f : D → En → Option En} (hg : TgOk K Z g f) {m : M D} {D : Ends} {σ : SS} {H : Hp} (p : tS K Z (sAsg f m) D σ H) : tAsg (tM K Z m) g D σ H := by
  obtain ⟨e, R, p⟩ := p
  refine ⟨e, R, pstS_bnd p fun v H1 d e1 _ m1 R1 r1 p1 => ?_⟩
  cases h : f d e1 with
  | none => rw [h] at p1; exact p1.elim
  | some e2 =>
    rw [h] at p1
    exact hg σ H1 e1 e2 v d _ R1 r1 h fun σ' R' => p1 σ' H1 .refl R'
theorem s_set {i : Nat} {x : Str} {e : Expr} {m : M D} {pos' : Pos} (hN : X.N.Nodup) (hi : X.N[i]? = some x) (hx : Loc X.env.scope x) (hio : i ∉ Z.ios) (h : PE X e (tM X.K Z m)) (hs : swapsWith e (some (.Name x pos')) pos.line X.env = pure false := by rfl)
    (hf : X.fn x = true ∨ X.env.scope.names.lookup x = some .local := by first | exact .inl rfl | exact .inr rfl | assumption) : PS X (.Assign [.Name x pos'] e pos) (tS X.K Z (sAsg (setN i) m)) :=
  PS_weak (ps_set hN hi hx h hs hf) fun D σ H p => t_asg (tg_n hio) p
theorem s_tup {tg e : Expr} {m : M D} {is : List Nat} (hg : PG X tg (gSeqT X.K is)) (hio : ∀ i ∈ is, i ∉ Z.ios) (h : PE X e (tM X.K Z m)) (hs : swapsWithSole [tg] e pos.line X.env = pure false := by rfl) (hw : swappedStores [tg] e X.env = pure none := by rfl)
    (h1 : (assignEach [tg] X.env).map (·.2) = [assign tg X.env] := by rfl) : PS X (.Assign [tg] e pos) (tS X.K Z (sAsg (setT is) m)) :=
  PS_weak (ps_asg h hg hs hw h1) fun D σ H p => t_asg (tg_t hio) p
/-- x = a new thing, open -/
def setO (i : Nat) (d : D) (e : En) : Option En := match e[i]? with
  | some _ => some (e.set i (.op d))
  | none => none
def sAsgO (i : Nat) (m : M D) : M Fl := bnd m fun d e => match setO i d e with
  | some e' => .ok .nx e'
  | none => .no
theorem rel_setO {K : PySem.W.Frag} {σ : SS} {H : Hp} {e e' : En} {i : Nat} {v : V} {d : D} (R : Rel K Z σ H e) (r : NewO K Z σ e H v d) (h : setO i d e = some e') (hi : i ∉ Z.ios) : Rel K Z (σ.set i (some v)) H e' := by
  obtain ⟨a, rfl, o, hb, hs, ht⟩ := r
  unfold setO at h
  split at h
  · rename_i q
    cases h
    exact R.setO (lt_of_get q) hi o hb hs ht
  · cases h
theorem t_asgO {K : PySem.W.Frag} {i : Nat} {m : M D} {D : Ends} {σ : SS} {H : Hp} (hio : i ∉ Z.ios) (p : tS K Z (sAsgO i m) D σ H) : tAsg (tO K Z m) (gName i) D σ H := by
  obtain ⟨e, R, p⟩ := p
  refine ⟨e, R, pstS_bnd p fun v H1 d e1 _ m1 R1 r1 p1 => ?_⟩
  cases h : setO i d e1 with
  | none => rw [h] at p1; exact p1.elim
  | some e2 =>
    rw [h] at p1
    exact p1 _ H1 .refl (rel_setO R1 r1 h hio)
theorem s_setO {i : Nat} {x : Str} {e : Expr} {m : M D} {pos' : Pos} (hN : X.N.Nodup) (hi : X.N[i]? = some x) (hx : Loc X.env.scope x) (hio : i ∉ Z.ios) (h : PE X e (tO X.K Z m)) (hs : swapsWith e (some (.Name x pos')) pos.line X.env = pure false := by rfl)
    (hf : X.fn x = true ∨ X.env.scope.names.lookup x = some .local := by first | exact .inl rfl | exact .inr rfl | assumption) : PS X (.Assign [.Name x pos'] e pos) (tS X.K Z (sAsgO i m)) :=
  PS_weak (ps_set hN hi hx h hs hf) fun D σ H p => t_asgO hio p
/-- behind a statement something open is locked -/
theorem ps_lk {st : Stmt} {t : TS} (h : PS X st t) : PS X st (fun D σ H => t { D with nx := fun σ' H' => D.nx σ' H' ∨ ∃ a u, H' a = some u ∧ MutZ (some u) ∧ ∀ od, D.nx σ' (upd H' a (.frz od u)) } σ H) := by
  refine ⟨fun pins s σ H D I q => thn (h.run pins s σ H _ I q) fun f s' hf => ?_⟩
  cases f with
  | next =>
    obtain ⟨σ', H', I', q'⟩ := hf
    rcases q' with q' | ⟨a, u, hu, mu, q'⟩
    · exact ⟨σ', H', I', q'⟩
    · obtain ⟨od, I2⟩ := I'.lock hu mu.mut
      exact ⟨σ', _, I2, q' od⟩
  | ret u => exact hf
  | brk => exact hf
  | cont => exact hf
theorem t_asgL {K : PySem.W.Frag} {i : Nat} {m : M D} {D : Ends} {σ : SS} {H : Hp} (hio : i ∉ Z.ios) (p : tS K Z (sAsg (setN i) m) D σ H) : tAsg (tO K Z m) (gName i) { D with nx := fun σ' H' => D.nx σ' H' ∨ ∃ a u, H' a = some u ∧ MutZ (some u) ∧ ∀ od, D.nx σ' (upd H' a (.frz od u)) } σ H := by
  obtain ⟨e, R, p⟩ := p
  refine ⟨e, R, pstS_bnd p fun v H1 d e1 _ m1 R1 r1 p1 => ?_⟩
  cases h : setN i d e1 with
  | none => rw [h] at p1; exact p1.elim
  | some e2 =>
    rw [h] at p1
    obtain ⟨a, rfl, o, hb, hs, ht⟩ := r1
    obtain ⟨u, hu, mu⟩ := o.there
    exact .inr ⟨a, u, hu, mu, fun od => p1 _ _ (mono_upd hu mu) (rel_setN (R1.other hu mu hb hs ht) (o.lock hu (fun _ => mono_upd hu mu) od) h hio)⟩

/-! ### changes of an open slot -/
/-- x[i] = v, x an open slot -/
def setIx (xs : List D) (k : Int) (v : D) : Option (List D) := (ixN xs.length k).map fun j => xs.set j v
def sSetIx (i : Nat) (mk mv : M D) : M Fl := bnd mv fun v => bnd (chkO i) fun _ => bnd mk fun k e => match k with
  | .int k => (match e[i]? with
    | some (.op (.list xs)) => (match setIx xs k v with | some ys => .ok .nx (e.set i (.op (.list ys))) | none => .no)
    | _ => .no)
  | _ => .no
theorem chkO_ok {K : PySem.W.Frag} {σ : SS} {H : Hp} {D : Ends} {i : Nat} {f : Unit → M Fl} {e : En} (R : Rel K Z σ H e) (p : pstS K Z D σ H (bnd (chkO i) f e)) : ∃ a d, e[i]? = some (.op d) ∧ σ[i]? = some (some (.ref a)) ∧ pstS K Z D σ H (f () e) := by
  unfold bnd chkO at p
  split at p
  · rename_i u e1 h1
    split at h1
    · cases h1
      rename_i d hd
      obtain ⟨a, ha, _⟩ := R.op i d hd
      exact ⟨a, d, hd, ha, p⟩
    · cases h1
  · rename_i h1; split at h1 <;> cases h1
  · exact p.elim
theorem s_setIx {i : Nat} {o k e : Expr} {mk mv : M D} {p2 : Pos} (ho : PE X o (tVar i)) (hk : PE X k (tM X.K Z mk)) (hv : PE X e (tM X.K Z mv)) (hs : swapsWithSole [.Subscript o k p2] e pos.line X.env = pure false := by rfl) (hw : swappedStores [.Subscript o k p2] e X.env = pure none := by rfl)
    (h1 : (assignEach [.Subscript o k p2] X.env).map (·.2) = [assign (.Subscript o k p2) X.env] := by rfl)
    (ha : ∀ v, assign (.Subscript o k p2) X.env v = (do
      let ov ← holding [v] (eval o X.env)
      let iv ← holding [v, ov] (eval k X.env)
      standAt p2
      holding [v, ov, iv] (setItem ov iv v)
      release [v, ov, iv] []) := by intro _; rfl) : PS X (.Assign [.Subscript o k p2] e pos) (tS X.K Z (sSetIx i mk mv)) :=
  PS_weak (ps_asg hv (pg_sub ho hk set_list ha) hs hw h1) fun D σ H ⟨en, R, p⟩ => ⟨en, R, pstS_bnd p fun v H1 d e1 _ m1 R1 r1 p1 => by
    obtain ⟨a, d0, hd0, ha, p2⟩ := chkO_ok R1 p1
    refine ⟨.ref a, ha, e1, R1, pstS_bnd p2 fun w H2 kd e2 _ m2 R2 r2 p3 => ?_⟩
    cases kd with
    | int kk =>
      cases rp_int r2
      have p3 : pstS X.K Z D σ H2 (match e2[i]? with
        | some (.op (.list xs)) => (match setIx xs kk d with | some ys => .ok .nx (e2.set i (.op (.list ys))) | none => .no)
        | _ => .no) := p3
      split at p3
      · rename_i xs h2
        split at p3
        · rename_i ys hy
          obtain ⟨b, hb, ⟨vs, hvs, ra⟩, _⟩ := R2.op i (.list xs) h2
          rw [ha] at hb; cases hb
          unfold setIx at hy
          obtain ⟨j, hj, rfl⟩ := Option.map_eq_some_iff.mp hy
          refine ⟨a, vs, kk, j, rfl, rfl, hvs, by rw [ra.length]; exact hj, ?_⟩
          have mo : Mono H2 (upd H2 a (.lst (vs.set j v))) := mono_upd hvs trivial
          exact p3 σ _ mo (R2.mut h2 ha hvs trivial ⟨_, upd_same, (ra.mono mo).set ((Rp.mono m2 r1).mono mo) j⟩)
        · exact p3.elim
      · exact p3.elim
    | _ => exact p3.elim⟩
/-- x.append(e) -/
def sApp (i : Nat) (m : M D) : M Fl := bnd (chkO i) fun _ => bnd m fun v e => match e[i]? with
  | some (.op (.list xs)) => if xs.length < sizeLine then .ok .nx (e.set i (.op (.list (xs ++ [v])))) else .no
  | _ => .no
theorem tyL {K : PySem.W.Frag} {H : Hp} {a : Addr} {xs : List V} (h : H a = some (.lst xs)) : tyV K "list" (.ref a) H := Or.inl ⟨rfl, _, Or.inl (Or.inl h)⟩
theorem lst_of {K : PySem.W.Frag} {σ : SS} {H : Hp} {e : En} {i : Nat} {a : Addr} {d : D} (R : Rel K Z σ H e) (hd : e[i]? = some (.op d)) (ha : σ[i]? = some (some (.ref a))) : (∃ xs, H a = some (.lst xs)) ∨ ∃ ks, d = .dict ks := by
  obtain ⟨b, hb, o, _⟩ := R.op i d hd
  rw [ha] at hb; cases hb
  cases d with
  | list ds => obtain ⟨xs, h, _⟩ := o; exact .inl ⟨xs, h⟩
  | dict ks => exact .inr ⟨ks, rfl⟩
  | _ => exact o.elim
def chkL (i : Nat) : M Unit := fun e => match e[i]? with
  | some (.op (.list _)) => .ok () e
  | _ => .no
theorem chkL_ok {K : PySem.W.Frag} {σ : SS} {H : Hp} {D : Ends} {i : Nat} {f : Unit → M Fl} {e : En} (R : Rel K Z σ H e) (p : pstS K Z D σ H (bnd (chkL i) f e)) : ∃ a xs vs, e[i]? = some (.op (.list xs)) ∧ σ[i]? = some (some (.ref a)) ∧ H a = some (.lst vs) ∧ pstS K Z D σ H (f () e) := by
  unfold bnd chkL at p
  split at p
  · rename_i u e1 h1
    split at h1
    · cases h1
      rename_i d hd
      obtain ⟨a, ha, ⟨vs, hvs, _⟩, _⟩ := R.op i _ hd
      exact ⟨a, d, vs, hd, ha, hvs, p⟩
    · cases h1
  · rename_i h1; split at h1 <;> cases h1
  · exact p.elim
def sMt (i : Nat) (m : M D) (f : List D → D → Option (List D)) : M Fl := bnd (chkL i) fun _ => bnd m fun v e => match e[i]? with
  | some (.op (.list xs)) => (match f xs v with | some ys => .ok .nx (e.set i (.op (.list ys))) | none => .no)
  | _ => .no
def appD (xs : List D) (v : D) : Option (List D) := if xs.length < sizeLine then some (xs ++ [v]) else none
def extD (xs : List D) (v : D) : Option (List D) := match v with
  | .list ys => if xs.length + ys.length ≤ sizeLine then some (xs ++ ys) else none
  | _ => none
theorem s_mt {i : Nat} {st : Stmt} {m : M D} {r : V → List V → Hp → VK → Prop} {f : List D → D → Option (List D)} {te : TE} {rr : RR V D} (hp : PS X st (tDrop (tBM X.K "list" r (tVar i) (tCons (tG X.K Z rr m) tNil))))
    (hr : ∀ (a : Addr) (ws : List V) (ds es : List D) (v : V) (d : D) (σ : SS) (e : En) (H : Hp) (Q : VK), H a = some (.lst ws) → RpA X.K H ws ds → rr σ e H v d → e[i]? = some (.op (.list ds)) → σ[i]? = some (some (.ref a)) → f ds d = some es → (∀ w H', (∃ zs, H' = upd H a (.lst zs) ∧ RpA X.K H zs es) → Q w H') → r (.ref a) [v] H Q) :
    PS X st (tS X.K Z (sMt i m f)) := PS_weak hp fun D σ H ⟨en, R, p⟩ => by
    obtain ⟨a, xs, vs, hx, ha, hvs, p⟩ := chkL_ok R p
    refine ⟨.ref a, ha, tyL hvs, en, R, pstS_bnd p fun v H1 d e1 _ m1 R1 r1 p1 => ?_⟩
    have p1 : pstS X.K Z D σ H1 (match e1[i]? with
      | some (.op (.list xs)) => (match f xs d with | some ys => .ok .nx (e1.set i (.op (.list ys))) | none => .no)
      | _ => .no) := p1
    split at p1
    · rename_i ys hy
      obtain ⟨b, hb, ⟨ws, hws, ra⟩, _⟩ := R1.op i (.list ys) hy
      rw [ha] at hb; cases hb
      split at p1
      · rename_i zs hz
        refine hr a ws ys zs v d σ e1 H1 _ hws ra r1 hy ha hz fun w H' ⟨us, e', ru⟩ => ?_
        subst e'
        have mo : Mono H1 (upd H1 a (.lst us)) := mono_upd hws trivial
        exact p1 σ _ mo (R1.mut hy ha hws trivial ⟨_, upd_same, ru.mono mo⟩)
      · exact p1.elim
    · exact p1.elim
theorem s_app {i : Nat} {o e : Expr} {m : M D} {p1 p2 : Pos} (ho : PE X o (tVar i)) (h : PE X e (tM X.K Z m)) (hbase : attributeBase o "append" X.env (eval o X.env) = eval o X.env := by rfl)
    (hfew : ((backTo p2 (starEach [e] X.env)).all (fun x => !x.1) && (backToKw p2 (keywordEach [] X.env)).all (fun x => x.1.isSome) && decide ([e].length + ([] : List Keyword).length + (if ([] : List Keyword).isEmpty then 0 else 1) < 30)) = true := by rfl)
    (hline : (p1.endLine == p2.line) = true := by rfl) (hse : starEach [e] X.env = (false, eval e X.env) :: starEach [] X.env := by rfl) (hpl : (backTo p2 (starEach [] X.env)).any (·.1) = false := by rfl) (hs : swapsWith (.Call (.Attribute o "append" p1) [e] [] p2) none pos.line X.env = pure false := by rfl) :
    PS X (.Expr (.Call (.Attribute o "append" p1) [e] [] p2) pos) (tS X.K Z (sMt i m appD)) :=
  s_mt (te := tVar i) (ps_expr (pe_bm PySem.F.plainAttrs_list PySem.F.slot_list_append PySem.F.type_list_append mt_append ho (pa_cons h pa_nil hse) hbase hfew hline hse hpl) hs) fun a ws ds es v d σ e H Q hw ra rv _ _ hf q => by
    unfold appD at hf
    split at hf
    · cases hf
      exact ⟨a, ws, v, rfl, rfl, hw, by rw [ra.length]; assumption, q _ _ ⟨_, rfl, ra.append (.cons rv .nil)⟩⟩
    · cases hf
/-- what is given: a list that stands as a list's object does -/
def LitL (K : PySem.W.Frag) (H : Hp) (b : Addr) (zs : List V) : Prop := H b = some (.lst zs) ∨ FzL K H b zs
theorem LitL.obj {K : PySem.W.Frag} {pins : List (Addr × Obj)} {σ : SS} {H : Hp} {s : Shared} {b : Addr} {zs : List V} (I : Inv X pins σ H s) (h : LitL X.K H b zs) : ∃ (its : List Value) (n : Nat), Vals zs its ∧ zs.length ≤ sizeLine ∧ s.heap.get? b = some { cls := .type "list", data := .seq its.toArray n } := by
  rcases h with h | ⟨o, h⟩ | ⟨its, n, h, hz, r⟩
  · obtain ⟨z, its, n, r, e⟩ := I.hok b _ h
    exact ⟨its, n, r, z, e⟩
  · obtain ⟨_, z, its, n, r, e⟩ := I.hok b _ h
    exact ⟨its, n, r, z, e⟩
  · have hlen : zs.length = its.toList.length := r.length
    have h2 : its.toList.length = its.size := Array.length_toList
    have h3 : its.size ≤ sizeLine := hz
    have h4 : zs.length ≤ sizeLine := by rw [hlen, h2]; exact h3
    exact ⟨its.toList, n, r, h4, by simpa using I.kIn b _ h⟩
def rExtS (K : PySem.W.Frag) : V → List V → Hp → VK → Prop := fun x vs H Q => ∃ l b xs zs, x = .ref l ∧ vs = [.ref b] ∧ H l = some (.lst xs) ∧ LitL K H b zs ∧ xs.length + zs.length ≤ sizeLine ∧ Q .non (upd H l (.lst (xs ++ zs)))
theorem mt_extS : MtR X "list.extend" (rExtS X.K) := by
  intro pins s σ H x vs v us Q I rx rv h
  obtain ⟨l, b, xs, zs, rfl, rfl, hH, hB, hz, q⟩ := h
  cases rx
  obtain ⟨u, rfl, ru⟩ := rv.one
  cases ru
  obtain ⟨z, its, n, r, hl, e⟩ := I.lstM hH
  obtain ⟨its2, n2, r2, _, e2⟩ := hB.obj (K := X.K) I
  have hl2 := r2.length
  have e3 : its.toArray.size + its2.toArray.size ≤ sizeLine := by rw [List.size_toArray, List.size_toArray]; omega
  have e4 : ¬ (!its.toArray.isEmpty && Builtin.List.listTooLong (its.toArray.size + its2.toArray.size)) = true := by rw [notLongL e3, Bool.and_false]; exact Bool.false_ne_true
  exact call_meets F.slot_list_extend ⟨_, e, rfl⟩ F.entry_list_extend (F.args_list_extend_2 _ _) (AutoSeq1.list_extend_list_list_0 l its.toArray n b its2.toArray n2 e4 (by rw [List.size_toArray]; omega) (by omega))
    ⟨e, e2, ⟨.non, _, I.lset (its' := its ++ its2) hH e (by simp) (r.append r2) (by rw [List.length_append]; omega), rfl, q⟩⟩
theorem ext_ok {K : PySem.W.Frag} {a : Addr} {ws : List V} {ds es : List D} {v : V} {d : D} {H : Hp} {Q : VK} (hw : H a = some (.lst ws)) (ra : RpA K H ws ds) (rv : Rq K H v d) (hf : extD ds d = some es) (q : ∀ w H', (∃ zs, H' = upd H a (.lst zs) ∧ RpA K H zs es) → Q w H') : rExtS K (.ref a) [v] H Q := by
  unfold extD at hf
  split at hf
  · rename_i ys
    have : ∃ b zs, v = .ref b ∧ LitL K H b zs ∧ RpA K H zs ys := by
      rcases rv with rv | ⟨b, rfl, zs, h, r⟩
      · cases rv with
        | lst h r => exact ⟨_, _, rfl, .inr h, r⟩
      · exact ⟨b, zs, rfl, .inl h, r⟩
    obtain ⟨b, zs, rfl, h, r⟩ := this
    split at hf
    · cases hf
      have e1 := ra.length
      have e2 := r.length
      exact ⟨a, b, ws, zs, rfl, rfl, hw, h, by omega, q _ _ ⟨_, rfl, ra.append r⟩⟩
    · cases hf
  · cases hf
theorem s_ext {i : Nat} {o e : Expr} {m : M D} {p1 p2 : Pos} (ho : PE X o (tVar i)) (h : PE X e (tX X.K Z m)) (hbase : attributeBase o "extend" X.env (eval o X.env) = eval o X.env := by rfl)
    (hfew : ((backTo p2 (starEach [e] X.env)).all (fun x => !x.1) && (backToKw p2 (keywordEach [] X.env)).all (fun x => x.1.isSome) && decide ([e].length + ([] : List Keyword).length + (if ([] : List Keyword).isEmpty then 0 else 1) < 30)) = true := by rfl)
    (hline : (p1.endLine == p2.line) = true := by rfl) (hse : starEach [e] X.env = (false, eval e X.env) :: starEach [] X.env := by rfl) (hpl : (backTo p2 (starEach [] X.env)).any (·.1) = false := by rfl) (hs : swapsWith (.Call (.Attribute o "extend" p1) [e] [] p2) none pos.line X.env = pure false := by rfl) :
    PS X (.Expr (.Call (.Attribute o "extend" p1) [e] [] p2) pos) (tS X.K Z (sMt i m extD)) :=
  s_mt (te := tVar i) (ps_expr (pe_bm PySem.F.plainAttrs_list PySem.F.slot_list_extend PySem.F.type_list_extend mt_extS ho (pa_cons h pa_nil hse) hbase hfew hline hse hpl) hs) fun a ws ds es v d σ e H Q hw ra rv _ _ hf q => by
    refine ext_ok hw ra ?_ hf q
    rcases rv with rv | ⟨b, rfl, o, _⟩
    · exact .inl rv
    · exact .inr ⟨b, rfl, o⟩
end
end ZZ

namespace ZZ
open PySem PySem.Spec PyProof.Rows L2
variable [TabC]

/-! ### what is walked -/
/-- J gives the data ds, one after another, whatever comes behind H -/
structure ItD (K : PySem.W.Frag) (J : It) (ds : List D) (H : Hp) : Prop where
  go : ∀ H', Mono H H' → ∀ i, i < ds.length → J.go i H'
  stop : ∀ H', Mono H H' → J.stop ds.length H'
  yld : ∀ H', Mono H H' → ∀ (i : Nat) (d : D) x H2, ds[i]? = some d → J.yld i H' x H2 → Same H' H2 ∧ Rp K H2 x d
theorem ItD.mono {K : PySem.W.Frag} {J : It} {ds : List D} {H H' : Hp} (h : ItD K J ds H) (m : Mono H H') : ItD K J ds H' :=
  ⟨fun H2 m2 => h.go H2 (m.trans m2), fun H2 m2 => h.stop H2 (m.trans m2), fun H2 m2 => h.yld H2 (m.trans m2)⟩
theorem itd_of {K : PySem.W.Frag} {J : It} {n : Nat} {G : Hp → Prop} {Y : Nat → Hp → V → Hp → Prop} {ds : List D} {H : Hp} (w : Walk J n G Y) (hn : ds.length = n) (hG : ∀ H', Mono H H' → G H') (hY : ∀ H', Mono H H' → ∀ (i : Nat) (d : D) x H2, ds[i]? = some d → Y i H' x H2 → Same H' H2 ∧ Rp K H2 x d) : ItD K J ds H :=
  ⟨fun H' m i hi => w.goes i H' (by omega) (hG H' m), fun H' m => by rw [hn]; exact w.stops H' (hG H' m), fun H' m i d x H2 hd y => hY H' m i d x H2 hd (w.yields i H' x H2 (by have := lt_of_get hd; omega) (hG H' m) y)⟩
theorem RpA.getV {K : PySem.W.Frag} {H : Hp} {vs : List V} {ds : List D} {i : Nat} {v : V} {d : D} (r : RpA K H vs ds) (h1 : vs[i]? = some v) (h2 : ds[i]? = some d) : Rp K H v d := by
  obtain ⟨w, e, q⟩ := r.get i d h2
  rw [h1] at e; cases e
  exact q
theorem itd_list {K : PySem.W.Frag} {H : Hp} {a : Addr} {xs : List V} {ds : List D} (h : FzL K H a xs) (r : RpA K H xs ds) : ItD K (Itl K a) ds H :=
  itd_of (walk_list (xs := xs)) r.length.symm (fun H' m => (m.fzL h).sq) fun H' m i d x H2 hd ⟨e, hx⟩ => by subst e; exact ⟨Same.refl _, (r.mono m).getV hx hd⟩
theorem itd_tup {K : PySem.W.Frag} {H : Hp} {a : Addr} {xs : List V} {ds : List D} (h : SqT K H a xs) (r : RpA K H xs ds) : ItD K (Itt K a) ds H :=
  itd_of (walk_tup (xs := xs)) r.length.symm (fun H' m => m.sqT h) fun H' m i d x H2 hd ⟨e, hx⟩ => by subst e; exact ⟨Same.refl _, (r.mono m).getV hx hd⟩
/-- a range's ints -/
def rng (a b : Int) : List D := (List.range (b - a).toNat).map fun i => .int (a + (i : Nat))
theorem rng_len (a b : Int) : (rng a b).length = (b - a).toNat := by unfold rng; rw [List.length_map, List.length_range]
theorem rng_get {a b : Int} {i : Nat} {d : D} (h : (rng a b)[i]? = some d) : d = .int (a + i) := by
  unfold rng at h
  rw [List.getElem?_map] at h
  obtain ⟨j, hj, rfl⟩ := Option.map_eq_some_iff.mp h
  obtain ⟨_, e⟩ := List.getElem?_eq_some_iff.mp hj
  rw [List.getElem_range] at e
  rw [e]
theorem itd_rng {K : PySem.W.Frag} {H : Hp} {a b : Int} : ItD K (Itr a (b - a).toNat) (rng a b) H :=
  itd_of walk_range (rng_len a b) (fun _ _ => trivial) fun H' m i d x H2 hd ⟨e, hx⟩ => by subst e; subst hx; rw [rng_get hd]; exact ⟨Same.refl _, .int _⟩
def rngC (a c : Int) (n : Nat) : List D := (List.range n).map fun i => .int (a + (i : Nat) * c)
theorem itd_rngC {K : PySem.W.Frag} {H : Hp} {a c : Int} {n : Nat} : ItD K (Itc a c n) (rngC a c n) H :=
  itd_of walk_rangeC (by unfold rngC; rw [List.length_map, List.length_range]) (fun _ _ => trivial) fun H' m i d x H2 hd ⟨e, hx⟩ => by
    subst e; subst hx
    unfold rngC at hd
    rw [List.getElem?_map] at hd
    obtain ⟨j, hj, rfl⟩ := Option.map_eq_some_iff.mp hd
    obtain ⟨_, e⟩ := List.getElem?_eq_some_iff.mp hj
    rw [List.getElem_range] at e
    rw [e]; exact ⟨Same.refl _, .int _⟩
def chrs (z : Str) : List D := z.cps.toList.map fun c => .str ⟨#[c]⟩
theorem itd_str {K : PySem.W.Frag} {H : Hp} {z : Str} : ItD K (Its z) (chrs z) H :=
  itd_of walk_str (by unfold chrs; simp) (fun _ _ => trivial) fun H' m i d x H2 hd ⟨e, c, hc, hx⟩ => by
    subst e; subst hx
    unfold chrs at hd
    rw [List.getElem?_map] at hd
    obtain ⟨j, hj, rfl⟩ := Option.map_eq_some_iff.mp hd
    have : j = c := by
      rw [← Array.getElem?_toList] at hc
      rw [hj] at hc; exact Option.some.inj hc
    rw [this]; exact ⟨Same.refl _, .str _⟩
def prs (xs ys : List D) : List D := (xs.zip ys).map fun p => .tuple [p.1, p.2]
theorem prs_get {xs ys : List D} {i : Nat} {d : D} (h : (prs xs ys)[i]? = some d) : ∃ x y, xs[i]? = some x ∧ ys[i]? = some y ∧ d = .tuple [x, y] := by
  unfold prs at h
  rw [List.getElem?_map] at h
  obtain ⟨p, hp, rfl⟩ := Option.map_eq_some_iff.mp h
  obtain ⟨h1, h2⟩ := List.getElem?_zip_eq_some.mp hp
  exact ⟨p.1, p.2, h1, h2, rfl⟩
theorem pair_ok {K : PySem.W.Frag} {H H2 : Hp} {xs ys : Nat → Option V} {i : Nat} {v x y : V} {d1 d2 : D} (h : YPair xs ys i H v H2) (hx : ∀ u, xs i = some u → Rp K H u d1) (hy : ∀ u, ys i = some u → Rp K H u d2) : Same H H2 ∧ Rp K H2 v (.tuple [d1, d2]) := by
  obtain ⟨T, u, w, rfl, hT, rfl, e1, e2⟩ := h
  have s := same_upd (o := HO.tup [u, w]) hT
  exact ⟨s, .tup (SqT.of upd_same) (.cons ((hx u e1).same s) (.cons ((hy w e2).same s) .nil))⟩
theorem itd_zipL {K : PySem.W.Frag} {H : Hp} {a b : Addr} {xs ys : List V} {ds es : List D} (h : FzL K H a xs) (r : RpA K H xs ds) (h' : FzL K H b ys) (r' : RpA K H ys es) : ItD K (Itz K a b) (prs ds es) H :=
  itd_of (walk_zip (xs := xs) (ys := ys) rfl) (by unfold prs; rw [List.length_map, List.length_zip, r.length, r'.length]) (fun H' m => ⟨(m.fzL h).sq, (m.fzL h').sq⟩) fun H' m i d x H2 hd y => by
    obtain ⟨u, w, e1, e2, rfl⟩ := prs_get hd
    exact pair_ok (x := x) (y := x) y (fun z hz => (r.mono m).getV hz e1) fun z hz => (r'.mono m).getV hz e2
theorem walk_zipT {K : PySem.W.Frag} {a b : Addr} {xs ys : List V} {n : Nat} (hn : n = min xs.length ys.length) : Walk (RZ.ItzT K a b) n (fun H => SqT K H a xs ∧ SqT K H b ys) (YPair (fun i => xs[i]?) (fun i => ys[i]?)) := by
  refine ⟨fun i H hi ⟨h1, h2⟩ => ?_, fun H ⟨h1, h2⟩ => ⟨xs, ys, h1, h2, by omega⟩, fun i H x H' hi ⟨h1, h2⟩ ⟨T, u, w, e1, e2, e3, e4, e5⟩ => ⟨T, u, w, e1, e2, e3, e4 xs h1, e5 ys h2⟩⟩
  have q1 : i < xs.length := by omega
  have q2 : i < ys.length := by omega
  exact ⟨xs, ys, xs[i], ys[i], h1, h2, by simp [q1], by simp [q2]⟩
theorem itd_zipT {K : PySem.W.Frag} {H : Hp} {a b : Addr} {xs ys : List V} {ds es : List D} (h : SqT K H a xs) (r : RpA K H xs ds) (h' : SqT K H b ys) (r' : RpA K H ys es) : ItD K (RZ.ItzT K a b) (prs ds es) H :=
  itd_of (walk_zipT (xs := xs) (ys := ys) rfl) (by unfold prs; rw [List.length_map, List.length_zip, r.length, r'.length]) (fun H' m => ⟨m.sqT h, m.sqT h'⟩) fun H' m i d x H2 hd y => by
    obtain ⟨u, w, e1, e2, rfl⟩ := prs_get hd
    exact pair_ok (x := x) (y := x) y (fun z hz => (r.mono m).getV hz e1) fun z hz => (r'.mono m).getV hz e2
def enm (xs : List D) : List D := prs ((List.range xs.length).map fun i => .int (i : Nat)) xs
theorem itd_enm {K : PySem.W.Frag} {H : Hp} {a : Addr} {xs : List V} {ds : List D} (h : FzL K H a xs) (r : RpA K H xs ds) : ItD K (Ite K a) (enm ds) H :=
  itd_of (walk_enum (xs := xs)) (by unfold enm prs; rw [List.length_map, List.length_zip, List.length_map, List.length_range, r.length]; omega) (fun H' m => (m.fzL h).sq) fun H' m i d x H2 hd y => by
    obtain ⟨u, w, e1, e2, rfl⟩ := prs_get hd
    rw [List.getElem?_map] at e1
    obtain ⟨j, hj, rfl⟩ := Option.map_eq_some_iff.mp e1
    obtain ⟨_, e⟩ := List.getElem?_eq_some_iff.mp hj
    rw [List.getElem_range] at e
    subst e
    exact pair_ok (x := x) (y := x) y (fun z hz => by cases hz; exact .int _) fun z hz => (r.mono m).getV hz e2
/-- a reading of what is walked -/
def tI (K : PySem.W.Frag) (Z : ZC) (m : M (List D)) : TI := fun σ H R => ∃ e, Rel K Z σ H e ∧ match m e with
  | .ok ds e1 => ∀ J H', Mono H H' → Rel K Z σ H' e1 → ItD K J ds H' → R J H'
  | .exc x e1 => ∀ H', Mono H H' → Rel K Z σ H' e1 → Z.W x e1 σ H'
  | .no => False
theorem tI_bnd {K : PySem.W.Frag} {Z : ZC} {α β : Type} {r : RR β α} {σ : SS} {H : Hp} {R : It → Hp → Prop} {m : M α} {f : α → Option (List D)} {e : En} {Q : β → Hp → Prop} (h : match bnd m (fun d => lft (f d)) e with
  | .ok ds e1 => ∀ J H', Mono H H' → Rel K Z σ H' e1 → ItD K J ds H' → R J H'
  | .exc x e1 => ∀ H', Mono H H' → Rel K Z σ H' e1 → Z.W x e1 σ H'
  | .no => False)
    (k : ∀ b H1 d e1 ds, Mono H H1 → Rel K Z σ H1 e1 → r σ e1 H1 b d → f d = some ds → (∀ J H', Mono H1 H' → Rel K Z σ H' e1 → ItD K J ds H' → R J H') → Q b H1) : pst K Z r σ H Q (m e) := by
  unfold bnd at h
  cases q : m e with
  | ok d e1 =>
    rw [q] at h
    intro b H1 m1 R1 r1
    cases hf : f d with
    | none =>
      have h : (match lft (f d) e1 with
        | .ok ds e1 => ∀ J H', Mono H H' → Rel K Z σ H' e1 → ItD K J ds H' → R J H'
        | .exc x e1 => ∀ H', Mono H H' → Rel K Z σ H' e1 → Z.W x e1 σ H'
        | .no => False) := h
      rw [hf] at h; exact h.elim
    | some ds =>
      have h : (match lft (f d) e1 with
        | .ok ds e1 => ∀ J H', Mono H H' → Rel K Z σ H' e1 → ItD K J ds H' → R J H'
        | .exc x e1 => ∀ H', Mono H H' → Rel K Z σ H' e1 → Z.W x e1 σ H'
        | .no => False) := h
      rw [hf] at h
      exact k b H1 d e1 ds m1 R1 r1 hf fun J H' m2 => h J H' (m1.trans m2)
  | exc x e1 => rw [q] at h; exact h
  | no => rw [q] at h; exact h
section
variable {X : Cx} {Z : ZC} {pos p : Pos}
theorem PI_weak {tg e : Expr} {t t' : TI} (h : PI X tg e t) (w : ∀ σ H R, t' σ H R → t σ H R) : PI X tg e t' := ⟨fun pins s σ H R I q => h.run pins s σ H R I (w σ H R q)⟩
theorem it_list {tg : Expr} {pins : List (Addr × Obj)} {σ : SS} {H : Hp} {s : Shared} {R : It → Hp → Prop} {a : Addr} {xs : List V} (I : Inv X pins σ H s) (h : SqL X.K H a xs) (q : R (Itl X.K a) H) : wpAny (model X.prog X.w) X.A (pyIter (.ref a)) (PIE X pins σ tg R) X.xe s := by
  obtain ⟨its, rv, pl, _⟩ := I.list h
  have one : ∀ b ∈ [s.heap.objs.size], FpOk X pins H b := fun b hb => by rw [List.mem_singleton.mp hb]; exact I.fpOk (Nat.le_refl _) (I.hok.fresh (Nat.le_refl _))
  exact wpAny_pyIter_list pl.isList ⟨_, [s.heap.objs.size], _, _, H, rfl, I.kept (t' := s.toks) fun b o e => Heap.get?_push_of_some _ e, turn_list a _, ⟨_, Heap.get?_push_size _ rfl, rfl, rfl⟩, one, q⟩
theorem it_tup {tg : Expr} {pins : List (Addr × Obj)} {σ : SS} {H : Hp} {s : Shared} {R : It → Hp → Prop} {a : Addr} {xs : List V} (I : Inv X pins σ H s) (h : SqT X.K H a xs) (q : R (Itt X.K a) H) : wpAny (model X.prog X.w) X.A (pyIter (.ref a)) (PIE X pins σ tg R) X.xe s := by
  obtain ⟨its, rv, pl, _⟩ := I.tuple h
  have one : ∀ b ∈ [s.heap.objs.size], FpOk X pins H b := fun b hb => by rw [List.mem_singleton.mp hb]; exact I.fpOk (Nat.le_refl _) (I.hok.fresh (Nat.le_refl _))
  exact wpAny_pyIter_tuple (show s.heap.IsTuple a its.toArray from pl) ⟨_, [s.heap.objs.size], _, _, H, rfl, I.kept (t' := s.toks) fun b o e => Heap.get?_push_of_some _ e, turn_tuple a _, ⟨_, Heap.get?_push_size _ rfl, rfl, rfl⟩, one, q⟩
/-- a list or a tuple, as data -/
def itemsD : D → Option (List D)
  | .list ds => some ds
  | .tuple ds => some ds
  | _ => none
def items (m : M D) : M (List D) := bnd m fun d => lft (itemsD d)
theorem i_data {tg e : Expr} {m : M D} (h : PE X e (tM X.K Z m)) : PI X tg e (tI X.K Z (items m)) := by
  refine ⟨fun pins s σ H R I ⟨en, Rl, q⟩ => ?_⟩
  refine thn (h.run pins s σ H (fun v H1 => (∃ a xs, v = .ref a ∧ SqL X.K H1 a xs ∧ R (Itl X.K a) H1) ∨ ∃ a xs, v = .ref a ∧ SqT X.K H1 a xs ∧ R (Itt X.K a) H1) I ⟨en, Rl, tI_bnd q fun v H1 d e1 ds m1 R1 r1 hd k => ?_⟩) fun v s1 ⟨x, H1, I1, r1, q1⟩ => ?_
  · cases d with
    | list es =>
      cases hd
      cases r1 with
      | lst hl ra => exact .inl ⟨_, _, rfl, hl.sq, k _ H1 .refl R1 (itd_list hl ra)⟩
    | tuple es =>
      cases hd
      cases r1 with
      | tup hl ra => exact .inr ⟨_, _, rfl, hl, k _ H1 .refl R1 (itd_tup hl ra)⟩
    | _ => cases hd
  · rcases q1 with ⟨a, xs, rfl, hl, q1⟩ | ⟨a, xs, rfl, hl, q1⟩
    · cases r1; exact it_list I1 hl q1
    · cases r1; exact it_tup I1 hl q1
def itemsS : D → Option (List D)
  | .str z => some (chrs z)
  | _ => none
def signs (m : M D) : M (List D) := bnd m fun d => lft (itemsS d)
theorem i_str {tg e : Expr} {m : M D} (h : PE X e (tM X.K Z m)) : PI X tg e (tI X.K Z (signs m)) :=
  PI_weak (pi_str h) fun σ H R ⟨en, Rl, q⟩ => ⟨en, Rl, tI_bnd q fun v H1 d e1 ds m1 R1 r1 hd k => by
    cases d with
    | str z => cases hd; cases rp_str r1; exact ⟨z, rfl, k _ H1 .refl R1 itd_str⟩
    | _ => cases hd⟩
def rOk (a : Int) : Bool := decide (-4611686018427387904 ≤ a ∧ a < 4611686018427387904)
def rg1 : List D → Option (List D)
  | [.int b] => if rOk b = true then some (rng 0 b) else none
  | _ => none
def rg2 : List D → Option (List D)
  | [.int a, .int b] => if rOk a = true ∧ rOk b = true then some (rng a b) else none
  | _ => none
/-- by a step of -1 -/
def rg3 : List D → Option (List D)
  | [.int a, .int b, .int c] => if rOk a = true ∧ rOk b = true ∧ c = -1 then some (rngC a (-1) (a - b).toNat) else none
  | _ => none
def range1 (ms : List (M D)) : M (List D) := bnd (seqM ms) fun d => lft (rg1 d)
def range2 (ms : List (M D)) : M (List D) := bnd (seqM ms) fun d => lft (rg2 d)
def range3 (ms : List (M D)) : M (List D) := bnd (seqM ms) fun d => lft (rg3 d)
theorem rOk_of {a : Int} (h : rOk a = true) : -(2 ^ 62) ≤ a ∧ a < 2 ^ 62 := by
  unfold rOk at h
  simp only [decide_eq_true_eq] at h
  exact ⟨by omega, by omega⟩
theorem i_rg1 {tg a : Expr} {ms : List (M D)} (hg : Gl X "range") (hm : X.mg "range" = none) (h : PA X [a] (tMs X.K Z (seqM ms))) (hs : starEach [a] X.env = [(false, eval a X.env)] := by rfl) : PI X tg (.Call (.Name "range" p) [a] [] pos) (tI X.K Z (range1 ms)) :=
  PI_weak (pi_range1 hg hm h hs) fun σ H R ⟨en, Rl, q⟩ => ⟨en, Rl, tI_bnd q fun vs H1 d e1 ds m1 R1 r1 hd k => by
    unfold rg1 at hd
    split at hd
    · split at hd
      · rename_i b hb
        cases hd
        cases r1 with
        | cons r1 r2 =>
          cases r2
          cases rp_int r1
          refine ⟨b, rfl, (rOk_of hb).1, (rOk_of hb).2, k _ H1 .refl R1 ?_⟩
          have := itd_rng (K := X.K) (H := H1) (a := 0) (b := b)
          rw [Int.sub_zero] at this
          exact this
      · cases hd
    · cases hd⟩
theorem i_rg2 {tg a b : Expr} {ms : List (M D)} (hg : Gl X "range") (hm : X.mg "range" = none) (h : PA X [a, b] (tMs X.K Z (seqM ms))) (hs : starEach [a, b] X.env = [(false, eval a X.env), (false, eval b X.env)] := by rfl) (hs2 : starEach [b] X.env = [(false, eval b X.env)] := by rfl) : PI X tg (.Call (.Name "range" p) [a, b] [] pos) (tI X.K Z (range2 ms)) :=
  PI_weak (pi_range2 hg hm h hs hs2) fun σ H R ⟨en, Rl, q⟩ => ⟨en, Rl, tI_bnd q fun vs H1 d e1 ds m1 R1 r1 hd k => by
    unfold rg2 at hd
    split at hd
    · split at hd
      · rename_i a b hb
        cases hd
        cases r1 with
        | cons r1 r2 =>
          cases r2 with
          | cons r2 r3 =>
            cases r3
            cases rp_int r1
            cases rp_int r2
            exact ⟨a, b, rfl, ⟨(rOk_of hb.1).1, (rOk_of hb.1).2, (rOk_of hb.2).1, (rOk_of hb.2).2⟩, k _ H1 .refl R1 itd_rng⟩
      · cases hd
    · cases hd⟩
end
end ZZ

namespace ZZ
open PySem PySem.Spec PyProof.Rows L2
variable [TabC]
section
variable {X : Cx} {Z : ZC} {pos p : Pos}
theorem i_rg3 {tg a b c : Expr} {ms : List (M D)} (hg : Gl X "range") (hm : X.mg "range" = none) (h : PA X [a, b, c] (tMs X.K Z (seqM ms))) (hs : starEach [a, b, c] X.env = (false, eval a X.env) :: starEach [b, c] X.env := by rfl) (hpl : (backTo pos (starEach [b, c] X.env)).any (·.1) = false := by rfl) : PI X tg (.Call (.Name "range" p) [a, b, c] [] pos) (tI X.K Z (range3 ms)) :=
  PI_weak (pi_range3 hg hm h hs hpl) fun σ H R ⟨en, Rl, q⟩ => ⟨en, Rl, tI_bnd q fun vs H1 d e1 ds m1 R1 r1 hd k => by
    unfold rg3 at hd
    split at hd
    · split at hd
      · rename_i a b c hb
        cases hd
        cases r1 with
        | cons r1 r2 =>
          cases r2 with
          | cons r2 r3 =>
            cases r3 with
            | cons r3 r4 =>
              cases r4
              cases rp_int r1
              cases rp_int r2
              cases rp_int r3
              obtain ⟨h1, h2, rfl⟩ := hb
              exact ⟨a, b, -1, _, rfl, RgC.neg (rOk_of h1).1 (rOk_of h1).2 (rOk_of h2).1 (rOk_of h2).2, k _ H1 .refl R1 itd_rngC⟩
      · cases hd
    · cases hd⟩
def zpD : List D → Option (List D)
  | [.list xs, .list ys] => some (prs xs ys)
  | [.tuple xs, .tuple ys] => some (prs xs ys)
  | _ => none
def zipM (ms : List (M D)) : M (List D) := bnd (seqM ms) fun d => lft (zpD d)
theorem i_zip {elts : List Expr} {kk : Nat} {tpos : Pos} {a b : Expr} {ms : List (M D)} (hg : Gl X "zip") (hm : X.mg "zip" = none) (h : PA X [a, b] (tMs X.K Z (seqM ms))) (hc : PI X (.Tuple elts kk tpos) (.Call (.Name "zip" p) [a, b] [] pos) (RZ.iZipA X.K (tMs X.K Z (seqM ms)))) :
    PI X (.Tuple elts kk tpos) (.Call (.Name "zip" p) [a, b] [] pos) (tI X.K Z (zipM ms)) :=
  PI_weak hc fun σ H R ⟨en, Rl, q⟩ => ⟨en, Rl, tI_bnd q fun vs H1 d e1 ds m1 R1 r1 hd k => by
    unfold zpD at hd
    split at hd
    · cases hd
      cases r1 with
      | cons r1 r2 =>
        cases r2 with
        | cons r2 r3 =>
          cases r3
          cases r1 with
          | lst h1 ra =>
            cases r2 with
            | lst h2 rb => exact ⟨_, _, _, _, rfl, .inl ⟨h1.sq, h2.sq, k _ H1 .refl R1 (itd_zipL h1 ra h2 rb)⟩⟩
    · cases hd
      cases r1 with
      | cons r1 r2 =>
        cases r2 with
        | cons r2 r3 =>
          cases r3
          cases r1 with
          | tup h1 ra =>
            cases r2 with
            | tup h2 rb => exact ⟨_, _, _, _, rfl, .inr ⟨h1, h2, k _ H1 .refl R1 (itd_zipT h1 ra h2 rb)⟩⟩
    · cases hd⟩
def enD : List D → Option (List D)
  | [.list xs] => some (enm xs)
  | _ => none
def enumM (ms : List (M D)) : M (List D) := bnd (seqM ms) fun d => lft (enD d)
theorem i_enum {elts : List Expr} {kk : Nat} {tpos : Pos} {a : Expr} {ms : List (M D)} (hg : Gl X "enumerate") (hm : X.mg "enumerate" = none) (h : PA X [a] (tMs X.K Z (seqM ms))) (hs : starEach [a] X.env = [(false, eval a X.env)] := by rfl) :
    PI X (.Tuple elts kk tpos) (.Call (.Name "enumerate" p) [a] [] pos) (tI X.K Z (enumM ms)) :=
  PI_weak (pi_enum hg hm h hs) fun σ H R ⟨en, Rl, q⟩ => ⟨en, Rl, tI_bnd q fun vs H1 d e1 ds m1 R1 r1 hd k => by
    unfold enD at hd
    split at hd
    · cases hd
      cases r1 with
      | cons r1 r2 =>
        cases r2
        cases r1 with
        | lst h1 ra => exact ⟨_, _, rfl, h1.sq, k _ H1 .refl R1 (itd_enm h1 ra)⟩
    · cases hd⟩

/-! ### for -/
def forL (tg : D → En → Option En) (body : M Fl) : List D → M Fl
  | [] => ret .nx
  | d :: ds => fun e => match tg d e with
    | none => .no
    | some e1 => match body e1 with
      | .ok .nx e2 => forL tg body ds e2
      | .ok .ct e2 => forL tg body ds e2
      | .ok .bk e2 => .ok .nx e2
      | .ok (.rt v) e2 => .ok (.rt v) e2
      | .ok (.ro v) e2 => .ok (.ro v) e2
      | .exc x e2 => .exc x e2
      | .no => .no
def sFor (mi : M (List D)) (tg : D → En → Option En) (body : M Fl) : M Fl := bnd mi fun ds => forL tg body ds
theorem drop_get {α : Type} {l : List α} {i : Nat} (h : i < l.length) : l.drop i = l[i] :: l.drop (i + 1) := List.drop_eq_getElem_cons h
theorem t_for {K : PySem.W.Frag} {g : TG} {f : D → En → Option En} (hg : TgOk K Z g f) {mi : M (List D)} {mb : M Fl} {D : Ends} {σ : SS} {H : Hp} (p : tS K Z (sFor mi f mb) D σ H) : tFor (tI K Z mi) g (tS K Z mb) D σ H := by
  obtain ⟨e, R, p⟩ := p
  refine ⟨e, R, ?_⟩
  have p : pstS K Z D σ H (bnd mi (fun ds => forL f mb ds) e) := p
  unfold bnd at p
  cases q : mi e with
  | exc x e1 => rw [q] at p; exact fun H' m R' => p σ H' m R'
  | no => rw [q] at p; exact p
  | ok ds e1 =>
    rw [q] at p
    intro J H1 m1 R1 it
    refine ⟨fun i n σ' H' => n = ds.length - i ∧ i ≤ ds.length ∧ Mono H1 H' ∧ ∃ e', Rel K Z σ' H' e' ∧ pstS K Z D σ' H' (forL f mb (ds.drop i) e'), ⟨_, rfl, Nat.zero_le _, .refl, e1, R1, pstS_mono p m1⟩, ?_⟩
    rintro i n σ' H' ⟨rfl, hi, m, e', R', p'⟩
    by_cases hlt : i < ds.length
    · refine .inr ⟨it.go H' m i hlt, fun σ'' H'' => i + 1 ≤ ds.length ∧ Mono H1 H'' ∧ ∃ e'', Rel K Z σ'' H'' e'' ∧ pstS K Z D σ'' H'' (forL f mb (ds.drop (i + 1)) e''), fun σ'' H'' hN => ⟨ds.length - (i + 1), by omega, rfl, hN⟩, fun x H2 y => ?_⟩
      obtain ⟨s, rx⟩ := it.yld H' m i ds[i] x H2 (by simp [hlt]) y
      rw [drop_get hlt] at p'
      unfold forL at p'
      cases ht : f ds[i] e' with
      | none => rw [ht] at p'; exact p'.elim
      | some e2 =>
        rw [ht] at p'
        refine hg σ' H2 e' e2 x ds[i] _ (R'.same s) rx ht fun σ2 R2 => ⟨e2, R2, ?_⟩
        have m2 : Mono H' H2 := .same s
        have p' : pstS K Z D σ' H' (match mb e2 with
          | .ok .nx e2 => forL f mb (ds.drop (i + 1)) e2
          | .ok .ct e2 => forL f mb (ds.drop (i + 1)) e2
          | .ok .bk e2 => .ok .nx e2
          | .ok (.rt v) e2 => .ok (.rt v) e2
          | .ok (.ro v) e2 => .ok (.ro v) e2
          | .exc x e2 => .exc x e2
          | .no => .no) := p'
        cases hb : mb e2 with
        | no => rw [hb] at p'; exact p'.elim
        | exc x e3 => rw [hb] at p'; exact fun σ3 H3 m3 R3 => p' σ3 H3 (m2.trans m3) R3
        | ok fl e3 =>
          rw [hb] at p'
          cases fl with
          | nx => exact fun σ3 H3 m3 R3 => ⟨hlt, m.trans (m2.trans m3), e3, R3, pstS_mono p' (m2.trans m3)⟩
          | ct => exact fun σ3 H3 m3 R3 => ⟨hlt, m.trans (m2.trans m3), e3, R3, pstS_mono p' (m2.trans m3)⟩
          | bk => exact fun σ3 H3 m3 R3 => p' σ3 H3 (m2.trans m3) R3
          | rt v => exact fun σ3 v' H3 m3 R3 r3 => p' σ3 v' H3 (m2.trans m3) R3 r3
          | ro v => exact fun σ3 v' H3 m3 R3 r3 => p' σ3 v' H3 (m2.trans m3) R3 r3
    · have e : i = ds.length := by omega
      subst e
      rw [List.drop_length] at p'
      exact .inl ⟨it.stop H' m, p' σ' H' .refl R'⟩
theorem s_for {tg iter : Expr} {body : List Stmt} {g : TG} {f : D → En → Option En} {mi : M (List D)} {mb : M Fl} (hp : PassesOwn (model X.prog X.w) X.A X.env X.xe) (hc : X.calm = true) (hi : PI X tg iter (tI X.K Z mi)) (hg : PG X tg g) (ht : TgOk X.K Z g f) (hb : PSs X body (tS X.K Z mb))
    (hs : ∀ x, foldedSetIterable iter X.env x = pure x := by intro _; rfl) : PS X (.For tg iter body [] pos) (tS X.K Z (sFor mi f mb)) :=
  PS_weak (ps_for hp hc hi hg hb hs) fun D σ H p => t_for ht p

/-! ### while -/
def whlN (c : M Bool) (body : M Fl) : Nat → M Fl
  | 0 => fun _ => .no
  | n + 1 => fun e => match c e with
    | .ok true e1 => (match body e1 with
      | .ok .nx e2 => whlN c body n e2
      | .ok .ct e2 => whlN c body n e2
      | .ok .bk e2 => .ok .nx e2
      | .ok (.rt v) e2 => .ok (.rt v) e2
      | .ok (.ro v) e2 => .ok (.ro v) e2
      | .exc x e2 => .exc x e2
      | .no => .no)
    | .ok false e1 => .ok .nx e1
    | .exc x e1 => .exc x e1
    | .no => .no
theorem t_whl {K : PySem.W.Frag} {c : M Bool} {mb : M Fl} {D : Ends} {σ : SS} {H : Hp} {n : Nat} (p : tS K Z (whlN c mb n) D σ H) : tWhile (tT K Z c) (tS K Z mb) D σ H := by
  obtain ⟨e, R, p⟩ := p
  refine ⟨fun k σ' H' => ∃ e', Rel K Z σ' H' e' ∧ pstS K Z D σ' H' (whlN c mb k e'), ⟨n, e, R, p⟩, ?_⟩
  rintro k σ' H' ⟨e', R', p'⟩
  cases k with
  | zero => exact p'.elim
  | succ k =>
    refine ⟨e', R', ?_⟩
    unfold whlN at p'
    cases q : c e' with
    | no => rw [q] at p'; exact p'.elim
    | exc x e1 => rw [q] at p'; exact fun H1 m1 R1 => p' σ' H1 m1 R1
    | ok b e1 =>
      rw [q] at p'
      intro b' H1 m1 R1 r1
      cases r1
      cases b with
      | false => rw [if_neg Bool.false_ne_true]; exact p' σ' H1 m1 R1
      | true =>
        rw [if_pos rfl]
        refine ⟨fun σ2 H2 => ∃ e2, Rel K Z σ2 H2 e2 ∧ pstS K Z D σ2 H2 (whlN c mb k e2), fun σ2 H2 h => ⟨k, Nat.lt_succ_self k, h⟩, e1, R1, ?_⟩
        have p' : pstS K Z D σ' H' (match mb e1 with
          | .ok .nx e2 => whlN c mb k e2
          | .ok .ct e2 => whlN c mb k e2
          | .ok .bk e2 => .ok .nx e2
          | .ok (.rt v) e2 => .ok (.rt v) e2
          | .ok (.ro v) e2 => .ok (.ro v) e2
          | .exc x e2 => .exc x e2
          | .no => .no) := p'
        cases hb : mb e1 with
        | no => rw [hb] at p'; exact p'.elim
        | exc x e3 => rw [hb] at p'; exact fun σ3 H3 m3 R3 => p' σ3 H3 (m1.trans m3) R3
        | ok fl e3 =>
          rw [hb] at p'
          cases fl with
          | nx => exact fun σ3 H3 m3 R3 => ⟨e3, R3, pstS_mono p' (m1.trans m3)⟩
          | ct => exact fun σ3 H3 m3 R3 => ⟨e3, R3, pstS_mono p' (m1.trans m3)⟩
          | bk => exact fun σ3 H3 m3 R3 => p' σ3 H3 (m1.trans m3) R3
          | rt v => exact fun σ3 v' H3 m3 R3 r3 => p' σ3 v' H3 (m1.trans m3) R3 r3
          | ro v => exact fun σ3 v' H3 m3 R3 r3 => p' σ3 v' H3 (m1.trans m3) R3 r3
theorem s_whl {c : Expr} {body : List Stmt} {mc : M Bool} {mb : M Fl} {n : Nat} (hp : PassesOwn (model X.prog X.w) X.A X.env X.xe) (hc : PT X c (tT X.K Z mc)) (hb : PSs X body (tS X.K Z mb)) : PS X (.While c body [] pos) (tS X.K Z (whlN mc mb n)) :=
  PS_weak (ps_while hp hc hb) fun D σ H p => t_whl p

/-! ### comprehensions -/
def wipeE (e : En) : List Nat → En
  | [] => e
  | v :: vs => (wipeE e vs).set v .un
/-- the slots vs as they were in e -/
def restE (e : En) (e' : En) : List Nat → En
  | [] => e'
  | v :: vs => (restE e e' vs).set v (match e[v]? with | some (.fz d) => .fz d | _ => .un)
theorem wipeE_len (e : En) : ∀ vs, (wipeE e vs).length = e.length
  | [] => rfl
  | v :: vs => by unfold wipeE; rw [List.length_set, wipeE_len e vs]
theorem restE_len (e e' : En) : ∀ vs, (restE e e' vs).length = e'.length
  | [] => rfl
  | v :: vs => by unfold restE; rw [List.length_set, restE_len e e' vs]
theorem wipeE_in {e : En} {s : Sl} : ∀ {vs : List Nat} {i : Nat}, (wipeE e vs)[i]? = some s → s ≠ .un → e[i]? = some s ∧ i ∉ vs
  | [], i, h, _ => ⟨h, by simp⟩
  | v :: vs, i, h, n => by
    unfold wipeE at h
    by_cases hv : v = i
    · subst hv
      by_cases hl : v < (wipeE e vs).length
      · rw [List.getElem?_set_self hl] at h; cases h; exact absurd rfl n
      · rw [List.getElem?_eq_none (by simpa using hl)] at h; cases h
    · rw [List.getElem?_set_ne hv] at h
      obtain ⟨h1, h2⟩ := wipeE_in h n
      exact ⟨h1, by simp only [List.mem_cons, not_or]; exact ⟨fun e => hv e.symm, h2⟩⟩
theorem wipe_out' {σ : SS} {i : Nat} : ∀ {vs : List Nat}, i ∉ vs → (wipe σ vs)[i]? = σ[i]?
  | [], _ => rfl
  | v :: vs, h => by
    simp only [List.mem_cons, not_or] at h
    unfold wipe
    rw [List.getElem?_set_ne (Ne.symm h.1), wipe_out' h.2]
theorem rel_wipe {K : PySem.W.Frag} {Z : ZC} {σ : SS} {H : Hp} {e : En} {vs : List Nat} (R : Rel K Z σ H e) (hv : ∀ i ∈ Z.ios, i ∉ vs) : Rel K Z (wipe σ vs) H (wipeE e vs) where
  len := by rw [wipeE_len, wipe_length]; exact R.len
  fz := fun i d h => by
    obtain ⟨h1, h2⟩ := wipeE_in h (by simp)
    rw [wipe_out' h2]
    exact R.fz i d h1
  op := fun i d h => by
    obtain ⟨h1, h2⟩ := wipeE_in h (by simp)
    rw [wipe_out' h2]
    exact R.op i d h1
  inj := fun i j d f a h1 h2 h3 h4 => by
    obtain ⟨p1, p2⟩ := wipeE_in h1 (by simp)
    obtain ⟨q1, q2⟩ := wipeE_in h2 (by simp)
    rw [wipe_out' p2] at h3
    rw [wipe_out' q2] at h4
    exact R.inj i j d f a p1 q1 h3 h4
  fr := R.fr
  tab := R.tab
  nd := ⟨fun i ps h => by
    obtain ⟨h1, h2⟩ := wipeE_in h (by simp)
    rw [wipe_out' h2]
    exact R.nd.at_ i ps h1, fun i j ps qs a h1 h2 h3 h4 => by
    obtain ⟨p1, p2⟩ := wipeE_in h1 (by simp)
    obtain ⟨q1, q2⟩ := wipeE_in h2 (by simp)
    rw [wipe_out' p2] at h3
    rw [wipe_out' q2] at h4
    exact R.nd.inj i j ps qs a p1 q1 h3 h4⟩
  io := fun i hi => by rw [wipe_out' (hv i hi)]; exact R.io i hi
  tp := fun p hp => by
    obtain ⟨h1, h2, h3, h4⟩ := R.tp p hp
    refine ⟨h1, h2, h3, fun i d h => ?_⟩
    obtain ⟨q1, q2⟩ := wipeE_in h (by simp)
    rw [wipe_out' q2]
    exact h4 i d q1
theorem restE_at {e e' : En} {s : Sl} : ∀ {vs : List Nat} {i : Nat}, (restE e e' vs)[i]? = some s → s ≠ .un → (i ∉ vs ∧ e'[i]? = some s) ∨ (i ∈ vs ∧ ∃ d, s = .fz d ∧ e[i]? = some (.fz d))
  | [], i, h, _ => .inl ⟨by simp, h⟩
  | v :: vs, i, h, n => by
    unfold restE at h
    by_cases hv : v = i
    · subst hv
      by_cases hl : v < (restE e e' vs).length
      · rw [List.getElem?_set_self hl] at h
        split at h
        · rename_i d hd
          cases h
          exact .inr ⟨List.mem_cons_self, d, rfl, hd⟩
        · cases h; exact absurd rfl n
      · rw [List.getElem?_eq_none (by simpa using hl)] at h; cases h
    · rw [List.getElem?_set_ne hv] at h
      rcases restE_at h n with ⟨h1, h2⟩ | ⟨h1, d, h2, h3⟩
      · exact .inl ⟨by simp only [List.mem_cons, not_or]; exact ⟨fun e => hv e.symm, h1⟩, h2⟩
      · exact .inr ⟨List.mem_cons_of_mem _ h1, d, h2, h3⟩
/-- back in the def: the block's names as they were -/
theorem rel_rest {K : PySem.W.Frag} {Z : ZC} {σ : SS} {H0 H : Hp} {e e' : En} {vs : List Nat} (R0 : Rel K Z σ H0 e) (m : Mono H0 H) (R : Rel K Z (wipe σ vs) H e') (hv : ∀ i ∈ Z.ios, i ∉ vs) : Rel K Z σ H (restE e e' vs) where
  len := by rw [restE_len, R.len, wipe_length]
  fz := fun i d h => by
    rcases restE_at h (by simp) with ⟨h1, h2⟩ | ⟨h1, d', h2, h3⟩
    · have := R.fz i d h2
      rw [wipe_out' h1] at this
      exact this
    · cases h2
      obtain ⟨v, q1, q2⟩ := R0.fz i d h3
      exact ⟨v, q1, q2.mono m⟩
  op := fun i d h => by
    rcases restE_at h (by simp) with ⟨h1, h2⟩ | ⟨h1, d', h2, h3⟩
    · have := R.op i d h2
      rw [wipe_out' h1] at this
      exact this
    · cases h2
  inj := fun i j d f a h1 h2 h3 h4 => by
    rcases restE_at h1 (by simp) with ⟨p1, p2⟩ | ⟨p1, d', p2, p3⟩
    · rcases restE_at h2 (by simp) with ⟨q1, q2⟩ | ⟨q1, d', q2, q3⟩
      · rw [← wipe_out' p1] at h3
        rw [← wipe_out' q1] at h4
        exact R.inj i j d f a p2 q2 h3 h4
      · cases q2
    · cases p2
  fr := R.fr
  tab := R.tab
  nd := ⟨fun i ps h => by
    rcases restE_at h (by simp) with ⟨h1, h2⟩ | ⟨h1, d', h2, h3⟩
    · have := R.nd.at_ i ps h2
      rw [wipe_out' h1] at this
      exact this
    · (cases h2), fun i j ps qs a h1 h2 h3 h4 => by
    rcases restE_at h1 (by simp) with ⟨p1, p2⟩ | ⟨p1, d', p2, p3⟩
    · rcases restE_at h2 (by simp) with ⟨q1, q2⟩ | ⟨q1, d', q2, q3⟩
      · rw [← wipe_out' p1] at h3
        rw [← wipe_out' q1] at h4
        exact R.nd.inj i j ps qs a p2 q2 h3 h4
      · cases q2
    · cases p2⟩
  io := fun i hi => by
    have := R.io i hi
    rw [wipe_out' (hv i hi)] at this
    exact this
  tp := fun p hp => by
    obtain ⟨h1, h2, h3, h4⟩ := R.tp p hp
    refine ⟨h1, h2, h3, fun i d h => ?_⟩
    rcases restE_at h (by simp) with ⟨p1, p2⟩ | ⟨p1, d', p2, p3⟩
    · rw [← wipe_out' p1]; exact h4 i d p2
    · cases p2
/-- the turns of [elt for target in .. if cond]; nothing may leave them -/
def cmpL (tg : D → En → Option En) (cond : M Bool) (elt : M D) (vs : List Nat) : List D → M (List D)
  | [] => ret []
  | d :: ds => fun e => match tg d e with
    | none => .no
    | some e1 => match cond e1 with
      | .ok true e2 => (match elt e2 with
        | .ok y e3 => (match cmpL tg cond elt vs ds (wipeE e3 vs) with
          | .ok ys e4 => .ok (y :: ys) e4
          | _ => .no)
        | _ => .no)
      | .ok false e2 => (match cmpL tg cond elt vs ds (wipeE e2 vs) with
        | .ok ys e4 => .ok ys e4
        | _ => .no)
      | _ => .no
def lcM (vs : List Nat) (mi : M (List D)) (tg : D → En → Option En) (cond : M Bool) (elt : M D) : M D := bnd mi fun ds e => match cmpL tg cond elt vs ds (wipeE e vs) with
  | .ok ys e1 => if ys.length ≤ sizeLine then .ok (.list ys) (restE e e1 vs) else .no
  | _ => .no
/-- the context of a block's turn: the new list beside -/
abbrev ZT (Z : ZC) (D : Addr) (acc : List V) : ZC := ⟨Z.Hb, Z.ios, Z.adr, (D, .lst acc) :: Z.tmp, fun _ _ _ _ => False, Z.pw⟩
theorem rel_in {K : PySem.W.Frag} {Z : ZC} {σ : SS} {H : Hp} {e : En} {D : Addr} {acc : List V} (R : Rel K Z σ H e) (h : H D = some (.lst acc)) (hb : Z.Hb D = none) (hs : ∀ (i : Nat) (d : ZZ.D), e[i]? = some (.op d) → σ[i]? ≠ some (some (.ref D))) : Rel K (ZT Z D acc) σ H e :=
  ⟨R.len, R.fz, R.op, R.inj, R.fr, R.io, R.tab, ⟨R.nd.at_, R.nd.inj⟩, fun p hp => by
    rcases List.mem_cons.mp hp with rfl | hp
    · exact ⟨h, trivial, hb, hs⟩
    · exact R.tp p hp⟩
theorem rel_out {K : PySem.W.Frag} {Z : ZC} {σ : SS} {H : Hp} {e : En} {D : Addr} {acc : List V} (R : Rel K (ZT Z D acc) σ H e) : Rel K Z σ H e ∧ H D = some (.lst acc) ∧ Z.Hb D = none ∧ ∀ (i : Nat) (d : ZZ.D), e[i]? = some (.op d) → σ[i]? ≠ some (some (.ref D)) := by
  obtain ⟨h1, _, h3, h4⟩ := R.tp (D, .lst acc) List.mem_cons_self
  exact ⟨⟨R.len, R.fz, R.op, R.inj, R.fr, R.io, R.tab, ⟨R.nd.at_, R.nd.inj⟩, fun p hp => R.tp p (List.mem_cons_of_mem _ hp)⟩, h1, h3, h4⟩
/-- a reading under some new list -/
def tZ {β α : Type} (K : PySem.W.Frag) (Z : ZC) (r : ZC → RR β α) (m : M α) : SS → Hp → (β → Hp → Prop) → Prop := fun σ H Q => ∃ D acc, tG K (ZT Z D acc) (r (ZT Z D acc)) m σ H Q
theorem tmp_chg {K : PySem.W.Frag} {Z : ZC} {σ : SS} {H : Hp} {e : En} {D : Addr} {acc acc' : List V} (R : Rel K (ZT Z D acc) σ H e) (hn : ∀ p ∈ Z.tmp, p.1 ≠ D) : Rel K (ZT Z D acc') σ (upd H D (.lst acc')) e := by
  obtain ⟨R1, h1, h3, h4⟩ := rel_out R
  exact rel_in (R1.other h1 trivial h3 h4 hn) upd_same h3 h4
end
end ZZ

namespace ZZ
open PySem PySem.Spec PyProof.Rows L2
variable [TabC]
theorem wipe_set {σ : SS} {i : Nat} {x : Option V} : ∀ {vs : List Nat}, i ∈ vs → wipe (σ.set i x) vs = wipe σ vs
  | v :: vs, h => by
    unfold wipe
    by_cases hi : i ∈ vs
    · rw [wipe_set hi]
    · have e : i = v := (List.mem_cons.mp h).resolve_right hi
      subst e
      have k : ∀ {vs : List Nat} {σ : SS}, wipe (σ.set i x) vs = (wipe σ vs).set i x ∨ i ∈ vs := by
        intro vs
        induction vs with
        | nil => intro σ; exact .inl rfl
        | cons w ws ih =>
          intro σ
          by_cases hw : i = w
          · exact .inr (by rw [hw]; exact List.mem_cons_self)
          · rcases ih (σ := σ) with q | q
            · refine .inl ?_
              unfold wipe
              rw [q, List.set_comm _ _ hw]
            · exact .inr (List.mem_cons_of_mem _ q)
      rcases k (vs := vs) (σ := σ) with q | q
      · rw [q, List.set_set]
      · exact absurd q hi
theorem wipe_wipe (σ : SS) (vs : List Nat) : wipe (wipe σ vs) vs = wipe σ vs := by
  have k : ∀ (ws : List Nat) (τ : SS), (∀ i ∈ ws, i ∈ vs) → wipe (wipe τ ws) vs = wipe τ vs := by
    intro ws
    induction ws with
    | nil => intro τ _; rfl
    | cons w ws ih =>
      intro τ h
      show wipe ((wipe τ ws).set w none) vs = _
      rw [wipe_set (h w List.mem_cons_self)]
      exact ih τ fun i hi => h i (List.mem_cons_of_mem _ hi)
  exact k vs σ fun i hi => hi
/-- a target that stores at the places is alone -/
def TgW (K : PySem.W.Frag) (Z : ZC) (is : List Nat) (g : TG) (f : D → En → Option En) : Prop := ∀ (σ : SS) (H : Hp) (e e' : En) (v : V) (d : D) (Q : SS → Hp → Prop), Rel K Z σ H e → Rp K H v d → f d e = some e' → (∀ σ', Rel K Z σ' H e' → (∀ vs, (∀ i ∈ is, i ∈ vs) → wipe σ' vs = wipe σ vs) → Q σ' H) → g v σ H Q
theorem tw_n {K : PySem.W.Frag} {Z : ZC} {i : Nat} (hi : i ∉ Z.ios) : TgW K Z [i] (gName i) (setN i) := fun σ H e e' v d Q R r h q => q _ (rel_setN R r h hi) fun vs hv => wipe_set (hv i List.mem_cons_self)
theorem gw_ns {K : PySem.W.Frag} {Z : ZC} {H : Hp} {Q : SS → Hp → Prop} : ∀ {is : List Nat} {σ : SS} {e e' : En} {vs : List V} {ds : List D}, Rel K Z σ H e → RpA K H vs ds → setNs is ds e = some e' → (∀ i ∈ is, i ∉ Z.ios) → (∀ σ', Rel K Z σ' H e' → (∀ vs, (∀ i ∈ is, i ∈ vs) → wipe σ' vs = wipe σ vs) → Q σ' H) → gsN is vs σ H Q
  | [], σ, e, e', vs, [], R, r, h, _, q => by
    cases r
    cases h
    exact ⟨rfl, q σ R fun _ _ => rfl⟩
  | i :: is, σ, e, e', vs, d :: ds, R, r, h, hi, q => by
    cases r with
    | cons r1 r2 =>
      simp only [setNs] at h
      obtain ⟨e1, h1, h2⟩ := Option.bind_eq_some_iff.mp h
      exact ⟨_, _, rfl, gw_ns (rel_setN R r1 h1 (hi i List.mem_cons_self)) r2 h2 (fun j hj => hi j (List.mem_cons_of_mem _ hj)) fun σ' R' w => q σ' R' fun vs hv => (w vs fun j hj => hv j (List.mem_cons_of_mem _ hj)).trans (wipe_set (hv i List.mem_cons_self))⟩
  | [], _, _, _, _, _ :: _, _, _, h, _, _ => by cases h
  | _ :: _, _, _, _, _, [], _, _, h, _, _ => by cases h
theorem tw_t {K : PySem.W.Frag} {Z : ZC} {is : List Nat} (hi : ∀ i ∈ is, i ∉ Z.ios) : TgW K Z is (gSeqT K is) (setT is) := fun σ H e e' v d Q R r h q => by
  cases d with
  | tuple ds =>
    obtain ⟨a, xs, rfl, ha, ra⟩ := rp_tup r
    exact .inl ⟨a, xs, rfl, ha, ra.length.trans (setNs_len h), gw_ns R ra h hi q⟩
  | list ds =>
    obtain ⟨a, xs, rfl, ha, ra⟩ := rp_lst r
    exact .inr ⟨a, xs, rfl, ha, ra.length.trans (setNs_len h), gw_ns R ra h hi q⟩
  | _ => cases h
theorem restE_op {e e' : En} {vs : List Nat} {i : Nat} {d : D} (h : (restE e e' vs)[i]? = some (.op d)) : i ∉ vs ∧ e'[i]? = some (.op d) := by
  rcases restE_at h (by simp) with q | ⟨_, _, q, _⟩
  · exact q
  · cases q
theorem t_lc {K : PySem.W.Frag} {Z : ZC} {g : TG} {f : D → En → Option En} {is vs : List Nat} {mi : M (List D)} {mc : M Bool} {me : M D} (hg : ∀ D acc, TgW K (ZT Z D acc) is g f) (hi : ∀ i ∈ is, i ∈ vs) (hv : ∀ i ∈ Z.ios, i ∉ vs) (σ : SS) (H : Hp) (Q : VK) (p : tO K Z (lcM vs mi f mc me) σ H Q) :
    tLc (tI K Z mi) g (tZ K Z (fun _ => rB) mc) (tZ K Z (fun _ => rV K) me) vs σ H Q := by
  obtain ⟨e, R, p⟩ := p
  refine ⟨e, R, ?_⟩
  unfold lcM bnd at p
  cases q : mi e with
  | exc x e1 => rw [q] at p; exact fun H' m R' => p H' m R'
  | no => rw [q] at p; exact p
  | ok ds e1 =>
    rw [q] at p
    intro J H1 m1 R1 it D hD
    have p : pst K Z (rO K Z) σ H Q (match cmpL f mc me vs ds (wipeE e1 vs) with
      | .ok ys e2 => if ys.length ≤ sizeLine then .ok (.list ys) (restE e1 e2 vs) else .no
      | _ => .no) := p
    cases qc : cmpL f mc me vs ds (wipeE e1 vs) with
    | exc x e2 => rw [qc] at p; exact p.elim
    | no => rw [qc] at p; exact p.elim
    | ok tot ef =>
      rw [qc] at p
      have p : pst K Z (rO K Z) σ H Q (if tot.length ≤ sizeLine then .ok (.list tot) (restE e1 ef vs) else .no) := p
      by_cases hsz : tot.length ≤ sizeLine
      · rw [if_pos hsz] at p
        obtain ⟨b1, b2, b3⟩ := R1.fresh hD
        have RW := rel_wipe R1 hv
        obtain ⟨_, w2, _⟩ := RW.fresh hD
        have s0 : Same H1 (upd H1 D (.lst [])) := same_upd hD
        refine ⟨fun i n H' => ∃ acc done ys e', n = ds.length - i ∧ i ≤ ds.length ∧ Mono H1 H' ∧ Rel K (ZT Z D acc) (wipe σ vs) H' e' ∧ RpA K H' acc done ∧ cmpL f mc me vs (ds.drop i) e' = .ok ys ef ∧ done ++ ys = tot,
          ⟨_, [], [], tot, _, rfl, Nat.zero_le _, .same s0, rel_in (RW.same s0) upd_same b1 w2, .nil, qc, rfl⟩, ?_⟩
        rintro i n H' ⟨acc, done, ys, e', rfl, hil, mo, R', ra, hc, ht⟩
        by_cases hlt : i < ds.length
        · refine .inr ⟨it.go H' mo i hlt, fun H'' => ∃ acc done ys e', i + 1 ≤ ds.length ∧ Mono H1 H'' ∧ Rel K (ZT Z D acc) (wipe σ vs) H'' e' ∧ RpA K H'' acc done ∧ cmpL f mc me vs (ds.drop (i + 1)) e' = .ok ys ef ∧ done ++ ys = tot, fun H'' ⟨acc, done, ys, e', h⟩ => ⟨ds.length - (i + 1), by omega, acc, done, ys, e', rfl, h⟩, fun x H2 y => ?_⟩
          obtain ⟨s, rx⟩ := it.yld H' mo i ds[i] x H2 (by simp [hlt]) y
          rw [drop_get hlt] at hc
          unfold cmpL at hc
          cases hf : f ds[i] e' with
          | none => rw [hf] at hc; cases hc
          | some e2 =>
            rw [hf] at hc
            refine hg D acc (wipe σ vs) H2 e' e2 x ds[i] _ (R'.same s) rx hf fun σ2 R2 hw => ?_
            have w2 : wipe σ2 vs = wipe σ vs := (hw vs hi).trans (wipe_wipe σ vs)
            refine ⟨w2, D, acc, e2, R2, ?_⟩
            have hc : (match mc e2 with
              | .ok true e2 => (match me e2 with
                | .ok y e3 => (match cmpL f mc me vs (ds.drop (i + 1)) (wipeE e3 vs) with
                  | .ok ys e4 => .ok (y :: ys) e4
                  | _ => .no)
                | _ => .no)
              | .ok false e2 => (match cmpL f mc me vs (ds.drop (i + 1)) (wipeE e2 vs) with
                | .ok ys e4 => .ok ys e4
                | _ => .no)
              | _ => .no : Out (List ZZ.D)) = .ok ys ef := hc
            have m2 : Mono H1 H2 := mo.trans (.same s)
            cases hb : mc e2 with
            | no => rw [hb] at hc; cases hc
            | exc x e3 => rw [hb] at hc; cases hc
            | ok b e3 =>
              rw [hb] at hc
              intro b' H3 m3 R3 r3
              cases r3
              have out : ∀ {σ2 : SS} {H4 : Hp} {e4 : En}, wipe σ2 vs = wipe σ vs → Rel K (ZT Z D acc) σ2 H4 e4 → Rel K (ZT Z D acc) (wipe σ vs) H4 (wipeE e4 vs) := fun {σ2 H4 e4} w R4 => by
                rw [← w]
                exact rel_wipe R4 hv
              cases b with
              | false =>
                rw [if_neg Bool.false_ne_true]
                have hc : (match cmpL f mc me vs (ds.drop (i + 1)) (wipeE e3 vs) with
                  | .ok ys e4 => .ok ys e4
                  | _ => .no : Out (List ZZ.D)) = .ok ys ef := hc
                cases hr : cmpL f mc me vs (ds.drop (i + 1)) (wipeE e3 vs) with
                | no => rw [hr] at hc; cases hc
                | exc x e4 => rw [hr] at hc; cases hc
                | ok zs e4 =>
                  rw [hr] at hc
                  cases hc
                  exact ⟨acc, done, ys, wipeE e3 vs, hlt, m2.trans m3, out w2 R3, ra.mono ((Mono.same s).trans m3), hr, ht⟩
              | true =>
                rw [if_pos rfl]
                have hc : (match me e3 with
                  | .ok y e3 => (match cmpL f mc me vs (ds.drop (i + 1)) (wipeE e3 vs) with
                    | .ok ys e4 => .ok (y :: ys) e4
                    | _ => .no)
                  | _ => .no : Out (List ZZ.D)) = .ok ys ef := hc
                refine ⟨D, acc, e3, R3, ?_⟩
                cases he : me e3 with
                | no => rw [he] at hc; cases hc
                | exc x e4 => rw [he] at hc; cases hc
                | ok y e4 =>
                  rw [he] at hc
                  have hc : (match cmpL f mc me vs (ds.drop (i + 1)) (wipeE e4 vs) with
                    | .ok ys e4 => .ok (y :: ys) e4
                    | _ => .no : Out (List ZZ.D)) = .ok ys ef := hc
                  cases hr : cmpL f mc me vs (ds.drop (i + 1)) (wipeE e4 vs) with
                  | no => rw [hr] at hc; cases hc
                  | exc x e5 => rw [hr] at hc; cases hc
                  | ok zs e5 =>
                    rw [hr] at hc
                    cases hc
                    intro v H4 m4 R4 rv
                    obtain ⟨Ro, hDacc, _, _⟩ := rel_out R4
                    have l1 := (ra.length : acc.length = done.length)
                    have l2 : (done ++ y :: zs).length = tot.length := congrArg List.length ht
                    rw [List.length_append, List.length_cons] at l2
                    have mo4 : Mono H4 (upd H4 D (.lst (acc ++ [v]))) := mono_upd hDacc trivial
                    have ms : Mono H' H4 := (Mono.same s).trans (m3.trans m4)
                    refine ⟨acc, hDacc, by omega, acc ++ [v], done ++ [y], zs, wipeE e4 vs, hlt, (m2.trans m3).trans (m4.trans mo4), tmp_chg (out w2 R4) b3, (ra.mono (ms.trans mo4)).append (.cons (Rp.mono mo4 rv) .nil), hr, ?_⟩
                    rw [List.append_assoc]
                    exact ht
        · have ei : i = ds.length := by omega
          subst ei
          rw [List.drop_length] at hc
          cases hc
          rw [List.append_nil] at ht
          subst ht
          obtain ⟨Ro, hDacc, hb, hs⟩ := rel_out R'
          refine .inl ⟨it.stop H' mo, p (.ref D) H' (m1.trans mo) (rel_rest R1 mo Ro hv) ⟨D, rfl, ⟨acc, hDacc, ra⟩, hb, fun j d hj => ?_, b3⟩⟩
          obtain ⟨q1, q2⟩ := restE_op hj
          have := hs j d q2
          rw [wipe_out' q1] at this
          exact this
      · rw [if_neg hsz] at p
        exact p.elim
section
variable {X : Cx} {Z : ZC} {pos p : Pos}
abbrev BK (X : Cx) (scope : Scope) (s : Shared) (H : Hp) (C : Addr) (cl : List (Str × Addr)) (fp : List Addr) : Cx := X.blk s H scope (compEnvC scope cl C X.env) fp
theorem PTs_weak {ifs : List Expr} {t t' : TT} (h : PTs X ifs t) (w : ∀ σ H Q, t' σ H Q → t σ H Q) : PTs X ifs t' := ⟨fun pins s σ H Q I q => h.run pins s σ H Q I (w σ H Q q)⟩
theorem k_nil {Z' : ZC} : PTs X [] (tZ X.K Z' (fun _ => rB) (ret true)) := PTs_weak pts_nil fun σ H Q ⟨D, acc, e, R, p⟩ => p true H .refl R rfl
theorem k_one {c : Expr} {mc : M Bool} {Z' : ZC} (h : ∀ D acc, PT X c (tT X.K (ZT Z' D acc) mc)) : PTs X [c] (tZ X.K Z' (fun _ => rB) mc) := pts_one ⟨fun pins s σ H Q I ⟨D, acc, q⟩ => (h D acc).run pins s σ H Q I q⟩
theorem e_lc {elt tg iter : Expr} {ifs : List Expr} {scope : Scope} {own : List (Str × Nat)} {g : TG} {f : D → En → Option En} {is vs : List Nat} {mi : M (List D)} {mc : M Bool} {me : M D} (hc : X.calm = true) (hN : X.N.Nodup) (hi : PI X tg iter (tI X.K Z mi)) (ok : blkC X.N X.env.scope scope own = true) (hvs : own.map (·.2) = vs) (his : ∀ i ∈ is, i ∈ vs) (hv : ∀ i ∈ Z.ios, i ∉ vs)
    (hw : ∀ D acc, TgW X.K (ZT Z D acc) is g f) (hg : ∀ s H C cl fp, PG (BK X scope s H C cl fp) tg g) (ht : ∀ s H C cl fp, PTs (BK X scope s H C cl fp) ifs (tZ X.K Z (fun _ => rB) mc)) (he : ∀ D acc s H C cl fp, PE (BK X scope s H C cl fp) elt (tM X.K (ZT Z D acc) me)) (hs : ∀ x, foldedSetIterable iter X.env x = pure x := by intro _; rfl) :
    PE X (.ListComp elt [⟨tg, iter, ifs, 0⟩] scope pos) (tO X.K Z (lcM vs mi f mc me)) := by
  subst hvs
  exact PE_weak (pe_lc hc hN hi (blkOk_by ok) hg ht (fun s H C cl fp => (⟨fun pins s' σ H' Q I ⟨D, acc, q⟩ => (he D acc s H C cl fp).run pins s' σ H' Q I q⟩ : PE (BK X scope s H C cl fp) elt (tZ X.K Z (fun _ => rV X.K) me))) hs) (t_lc hw his hv)
/-- x = [..] on one line: open -/
theorem s_lcO {i : Nat} {y : Str} {py : Pos} {elt tg iter : Expr} {ifs : List Expr} {scope : Scope} {own : List (Str × Nat)} {g : TG} {f : D → En → Option En} {is vs : List Nat} {mi : M (List D)} {mc : M Bool} {me : M D} {spos : Pos} (hc : X.calm = true) (hN : X.N.Nodup) (hy : X.N[i]? = some y) (hyl : X.env.scope.names.lookup y = some .local) (hio : i ∉ Z.ios)
    (hsw : swapsWith (.ListComp elt [⟨tg, iter, ifs, 0⟩] scope pos) (some (.Name y py)) spos.line X.env = pure true) (hi : PI X tg iter (tI X.K Z mi)) (ok : blkC X.N X.env.scope scope own = true) (hvs : own.map (·.2) = vs) (his : ∀ i ∈ is, i ∈ vs) (hv : ∀ i ∈ Z.ios, i ∉ vs)
    (hw : ∀ D acc, TgW X.K (ZT Z D acc) is g f) (hg : ∀ s H C cl fp, PG (BK X scope s H C cl fp) tg g) (ht : ∀ s H C cl fp, PTs (BK X scope s H C cl fp) ifs (tZ X.K Z (fun _ => rB) mc)) (he : ∀ D acc s H C cl fp, PE (BK X scope s H C cl fp) elt (tM X.K (ZT Z D acc) me)) (hs : ∀ x, foldedSetIterable iter X.env x = pure x := by intro _; rfl) :
    PS X (.Assign [.Name y py] (.ListComp elt [⟨tg, iter, ifs, 0⟩] scope pos) spos) (tS X.K Z (sAsgO i (lcM vs mi f mc me))) := by
  subst hvs
  refine PS_weak (ps_setLc (i := i) hc hN hy hyl hsw hi (blkOk_by ok) hg ht (fun s H C cl fp => (⟨fun pins s' σ H' Q I ⟨D, acc, q⟩ => (he D acc s H C cl fp).run pins s' σ H' Q I q⟩ : PE (BK X scope s H C cl fp) elt (tZ X.K Z (fun _ => rV X.K) me))) hs) fun D σ H q => ?_
  exact t_lc hw his hv σ H _ (t_asgO hio q)
/-- .. locked -/
theorem s_lcL {i : Nat} {y : Str} {py : Pos} {elt tg iter : Expr} {ifs : List Expr} {scope : Scope} {own : List (Str × Nat)} {g : TG} {f : D → En → Option En} {is vs : List Nat} {mi : M (List D)} {mc : M Bool} {me : M D} {spos : Pos} (hc : X.calm = true) (hN : X.N.Nodup) (hy : X.N[i]? = some y) (hyl : X.env.scope.names.lookup y = some .local) (hio : i ∉ Z.ios)
    (hsw : swapsWith (.ListComp elt [⟨tg, iter, ifs, 0⟩] scope pos) (some (.Name y py)) spos.line X.env = pure true) (hi : PI X tg iter (tI X.K Z mi)) (ok : blkC X.N X.env.scope scope own = true) (hvs : own.map (·.2) = vs) (his : ∀ i ∈ is, i ∈ vs) (hv : ∀ i ∈ Z.ios, i ∉ vs)
    (hw : ∀ D acc, TgW X.K (ZT Z D acc) is g f) (hg : ∀ s H C cl fp, PG (BK X scope s H C cl fp) tg g) (ht : ∀ s H C cl fp, PTs (BK X scope s H C cl fp) ifs (tZ X.K Z (fun _ => rB) mc)) (he : ∀ D acc s H C cl fp, PE (BK X scope s H C cl fp) elt (tM X.K (ZT Z D acc) me)) (hs : ∀ x, foldedSetIterable iter X.env x = pure x := by intro _; rfl) :
    PS X (.Assign [.Name y py] (.ListComp elt [⟨tg, iter, ifs, 0⟩] scope pos) spos) (tS X.K Z (sAsg (setN i) (lcM vs mi f mc me))) := by
  subst hvs
  refine PS_weak (ps_lk (ps_setLc (i := i) hc hN hy hyl hsw hi (blkOk_by ok) hg ht (fun s H C cl fp => (⟨fun pins s' σ H' Q I ⟨D, acc, q⟩ => (he D acc s H C cl fp).run pins s' σ H' Q I q⟩ : PE (BK X scope s H C cl fp) elt (tZ X.K Z (fun _ => rV X.K) me))) hs)) fun D σ H q => ?_
  exact t_lc hw his hv σ H _ (t_asgL hio q)
end
end ZZ

namespace ZZ
open PySem PySem.Spec PyProof.Rows L2
variable [TabC]

/-! ### calls of built-in functions and types on data -/
def Cal1 (K : PySem.W.Frag) (r : List V → Hp → VK → Prop) (op : D → Option D) : Prop := ∀ (v : V) (x d : D) (H : Hp) (Q : VK), Rq K H v x → op x = some d → (∀ u H', Same H H' → Rp K H' u d → Q u H') → r [v] H Q
def Cal1O (K : PySem.W.Frag) (r : List V → Hp → VK → Prop) (op : D → Option D) : Prop := ∀ (v : V) (x d : D) (H : Hp) (Q : VK), Rq K H v x → op x = some d → (∀ a H', Same H H' → Opn K H' a d → H a = none → Q (.ref a) H') → r [v] H Q
def Cal2 (K : PySem.W.Frag) (r : List V → Hp → VK → Prop) (op : D → D → Option D) : Prop := ∀ (v w : V) (x y d : D) (H : Hp) (Q : VK), Rp K H v x → Rq K H w y → op x y = some d → (∀ u H', Same H H' → Rp K H' u d → Q u H') → r [v, w] H Q
section
variable {K : PySem.W.Frag} {Z : ZC} {r : List V → Hp → VK → Prop}
theorem t_c1 {op : D → Option D} {m : M D} (h : Cal1 K r op) (σ : SS) (H : Hp) (Q : VK) (p : tM K Z (una op m) σ H Q) : tCB r (tCons (tQ K Z m) tNil) σ H Q := by
  obtain ⟨e, R, p⟩ := p
  refine ⟨e, R, pst_bnd p fun v H1 x e1 m1 R1 r1 p1 => ?_⟩
  obtain ⟨d, hd, q⟩ := pst_lft p1
  exact h v x d H1 Q r1 hd fun u H' s ru => q u H' (.same s) (R1.same s) ru
theorem t_c1O {op : D → Option D} {m : M D} (h : Cal1O K r op) (σ : SS) (H : Hp) (Q : VK) (p : tO K Z (una op m) σ H Q) : tCB r (tCons (tQ K Z m) tNil) σ H Q := by
  obtain ⟨e, R, p⟩ := p
  refine ⟨e, R, pst_bnd p fun v H1 x e1 m1 R1 r1 p1 => ?_⟩
  obtain ⟨d, hd, q⟩ := pst_lft p1
  refine h v x d H1 Q r1 hd fun a H' s o hc => q (.ref a) H' (.same s) (R1.same s) ?_
  obtain ⟨hb, hs⟩ := R1.fresh hc
  exact ⟨a, rfl, o, hb, hs⟩
theorem t_c2 {op : D → D → Option D} {m m' : M D} (h : Cal2 K r op) (σ : SS) (H : Hp) (Q : VK) (p : tM K Z (bin op m m') σ H Q) : tCB r (tCons (tM K Z m) (tCons (tQ K Z m') tNil)) σ H Q := by
  obtain ⟨e, R, p⟩ := p
  refine ⟨e, R, pst_bnd p fun v H1 x e1 m1 R1 r1 p1 => ⟨e1, R1, pst_bnd p1 fun w H2 y e2 m2 R2 r2 p2 => ?_⟩⟩
  obtain ⟨d, hd, q⟩ := pst_lft p2
  exact h v w x y d H2 Q (Rp.mono m2 r1) r2 hd fun u H' s ru => q u H' (.same s) (R2.same s) ru
end
section
variable {X : Cx} {Z : ZC} {x : Str} {p pos : Pos} {a b : Expr} {id T : String} {r : List V → Hp → VK → Prop}
theorem e_f1 {op : D → Option D} {m : M D} (hc : CallR X (.builtin id) r) (h : Cal1 X.K r op) (hv : bootBuiltins x = some (.builtin id)) (hg : Gl X x) (hm : X.mg x = none) (ha : PE X a (tQ X.K Z m)) (hn : x ≠ "__name__" := by decide) (hdb : (x == ("__debug__" : Str)) = false := by decide)
    (he : starEach [a] X.env = (false, eval a X.env) :: starEach [] X.env := by rfl) : PE X (.Call (.Name x p) [a] [] pos) (tM X.K Z (una op m)) :=
  PE_weak (pe_callB hc hg hm hv (pa_cons ha pa_nil he) hn hdb he) (t_c1 h)
theorem e_t1 {op : D → Option D} {m : M D} (hc : CallR X (.type T) r) (h : Cal1 X.K r op) (hv : bootBuiltins x = some (.type T)) (hg : Gl X x) (hm : X.mg x = none) (ha : PE X a (tQ X.K Z m)) (hn : x ≠ "__name__" := by decide) (hdb : (x == ("__debug__" : Str)) = false := by decide)
    (he : starEach [a] X.env = (false, eval a X.env) :: starEach [] X.env := by rfl) : PE X (.Call (.Name x p) [a] [] pos) (tM X.K Z (una op m)) :=
  PE_weak (pe_callTy hc hg hm hv (pa_cons ha pa_nil he) hn hdb he) (t_c1 h)
theorem e_t1O {op : D → Option D} {m : M D} (hc : CallR X (.type T) r) (h : Cal1O X.K r op) (hv : bootBuiltins x = some (.type T)) (hg : Gl X x) (hm : X.mg x = none) (ha : PE X a (tQ X.K Z m)) (hn : x ≠ "__name__" := by decide) (hdb : (x == ("__debug__" : Str)) = false := by decide)
    (he : starEach [a] X.env = (false, eval a X.env) :: starEach [] X.env := by rfl) : PE X (.Call (.Name x p) [a] [] pos) (tO X.K Z (una op m)) :=
  PE_weak (pe_callTy hc hg hm hv (pa_cons ha pa_nil he) hn hdb he) (t_c1O h)
theorem e_f2 {op : D → D → Option D} {m m' : M D} (hc : CallR X (.builtin id) r) (h : Cal2 X.K r op) (hv : bootBuiltins x = some (.builtin id)) (hg : Gl X x) (hm : X.mg x = none) (ha : PE X a (tM X.K Z m)) (hb : PE X b (tQ X.K Z m')) (hn : x ≠ "__name__" := by decide) (hdb : (x == ("__debug__" : Str)) = false := by decide)
    (he : starEach [a, b] X.env = (false, eval a X.env) :: starEach [b] X.env := by rfl) (he2 : starEach [b] X.env = (false, eval b X.env) :: starEach [] X.env := by rfl) (hpl : (backTo pos (starEach [b] X.env)).any (·.1) = false := by rfl) : PE X (.Call (.Name x p) [a, b] [] pos) (tM X.K Z (bin op m m')) :=
  PE_weak (pe_callB hc hg hm hv (pa_cons ha (pa_cons hb pa_nil he2) he) hn hdb he hpl) (t_c2 h)
end

/-! len -/
def lenD : D → Option D
  | .list ds => some (.int ds.length)
  | .tuple ds => some (.int ds.length)
  | .str z => if z.length ≤ sizeLine then some (.int z.length) else none
  | _ => none
section
variable {X : Cx} {Z : ZC} {p pos : Pos} {a b : Expr} {m m' : M D}
theorem b_len {K : PySem.W.Frag} : Cal1 K (fun xs H Q => ∃ x n, xs = [x] ∧ LenV K x H n ∧ Q (.int n) H) lenD := fun v x d H Q hx h q => by
  unfold lenD at h
  split at h
  · rename_i ds; cases h
    obtain ⟨a, xs, rfl, hs, r⟩ := rq_lst hx
    exact ⟨_, ds.length, rfl, .inl ⟨xs, hs, r.length.symm⟩, q _ H (Same.refl H) (.int _)⟩
  · rename_i ds; cases h
    obtain ⟨a, xs, rfl, hs, r⟩ := rq_tup hx
    exact ⟨_, ds.length, rfl, .inr ⟨xs, hs, r.length.symm⟩, q _ H (Same.refl H) (.int _)⟩
  · rename_i z
    split at h
    · rename_i hz; cases h
      rw [rq_str hx]
      exact ⟨_, z.length, rfl, ⟨hz, rfl⟩, q _ H (Same.refl H) (.int _)⟩
    · cases h
  · cases h
theorem e_len (hg : Gl X "len") (hm : X.mg "len" = none) (ha : PE X a (tQ X.K Z m)) (he : starEach [a] X.env = (false, eval a X.env) :: starEach [] X.env := by rfl) : PE X (.Call (.Name "len" p) [a] [] pos) (tM X.K Z (una lenD m)) :=
  e_f1 call_len b_len boot_len hg hm ha (he := he)

/-! all, any -/
def boolsD : List D → Option (List Bool)
  | [] => some []
  | .bool b :: ds => (boolsD ds).map (b :: ·)
  | _ :: _ => none
theorem bools_rp {K : PySem.W.Frag} {H : Hp} : ∀ {xs : List V} {ds : List D} {bs : List Bool}, RpA K H xs ds → boolsD ds = some bs → xs = bs.map V.bl
  | _, _, _, .nil, h => by cases h; rfl
  | _, _, _, .cons (d := d) r t, h => by
    cases d with
    | bool b =>
      simp only [boolsD] at h
      obtain ⟨bs', h1, rfl⟩ := Option.map_eq_some_iff.mp h
      rw [bools_rp t h1, rp_bl r]; rfl
    | _ => cases h
def allD : D → Option D
  | .list ds => (boolsD ds).map fun bs => .bool (bs.all id)
  | _ => none
def anyD : D → Option D
  | .list ds => (boolsD ds).map fun bs => .bool (bs.any id)
  | _ => none
theorem b_all {K : PySem.W.Frag} : Cal1 K (rAll K) allD := fun v x d H Q hx h q => by
  unfold allD at h
  split at h
  · obtain ⟨bs, h1, rfl⟩ := Option.map_eq_some_iff.mp h
    obtain ⟨a, xs, rfl, hs, r⟩ := rq_lst hx
    rw [bools_rp r h1] at hs
    exact ⟨a, bs, rfl, hs, q _ H (Same.refl H) (.bl _)⟩
  · cases h
theorem b_any {K : PySem.W.Frag} : Cal1 K (rAny K) anyD := fun v x d H Q hx h q => by
  unfold anyD at h
  split at h
  · obtain ⟨bs, h1, rfl⟩ := Option.map_eq_some_iff.mp h
    obtain ⟨a, xs, rfl, hs, r⟩ := rq_lst hx
    rw [bools_rp r h1] at hs
    exact ⟨a, bs, rfl, hs, q _ H (Same.refl H) (.bl _)⟩
  · cases h
theorem boot_all : bootBuiltins "all" = some (.builtin "all") := by decide +kernel
theorem boot_any : bootBuiltins "any" = some (.builtin "any") := by decide +kernel
theorem boot_abs : bootBuiltins "abs" = some (.builtin "abs") := by decide +kernel
theorem boot_repr : bootBuiltins "repr" = some (.builtin "repr") := by decide +kernel
theorem boot_isi : bootBuiltins "isinstance" = some (.builtin "isinstance") := by decide +kernel
theorem boot_sum : bootBuiltins "sum" = some (.builtin "sum") := by decide +kernel
theorem boot_max : bootBuiltins "max" = some (.builtin "max") := by decide +kernel
theorem boot_min : bootBuiltins "min" = some (.builtin "min") := by decide +kernel
theorem boot_int : bootBuiltins "int" = some (.type "int") := by decide +kernel
theorem boot_bool : bootBuiltins "bool" = some (.type "bool") := by decide +kernel
theorem boot_str : bootBuiltins "str" = some (.type "str") := by decide +kernel
theorem boot_list : bootBuiltins "list" = some (.type "list") := by decide +kernel
theorem boot_tuple : bootBuiltins "tuple" = some (.type "tuple") := by decide +kernel
theorem boot_dict : bootBuiltins "dict" = some (.type "dict") := by decide +kernel
theorem e_all (hc : X.calm = true) (hg : Gl X "all") (hm : X.mg "all" = none) (ha : PE X a (tQ X.K Z m)) (he : starEach [a] X.env = (false, eval a X.env) :: starEach [] X.env := by rfl) : PE X (.Call (.Name "all" p) [a] [] pos) (tM X.K Z (una allD m)) :=
  e_f1 (cr_all hc) b_all boot_all hg hm ha (he := he)
theorem e_any (hc : X.calm = true) (hg : Gl X "any") (hm : X.mg "any" = none) (ha : PE X a (tQ X.K Z m)) (he : starEach [a] X.env = (false, eval a X.env) :: starEach [] X.env := by rfl) : PE X (.Call (.Name "any" p) [a] [] pos) (tM X.K Z (una anyD m)) :=
  e_f1 (cr_any hc) b_any boot_any hg hm ha (he := he)

/-! int, bool, str, abs -/
def intD : D → Option D
  | .int i => some (.int i)
  | .bool b => some (.int (if b then 1 else 0))
  | _ => none
def boolD : D → Option D
  | .int i => some (.bool (i != 0))
  | .bool b => some (.bool b)
  | _ => none
def strD : D → Option D
  | .int i => if i.natAbs.log2 < 1920 then some (.str (toString i)) else none
  | .str z => some (.str z)
  | _ => none
def absD : D → Option D
  | .int i => some (.int (if i < 0 then -i else i))
  | _ => none
theorem b_int {K : PySem.W.Frag} : Cal1 K (fun xs H Q => (∃ i, xs = [.int i] ∧ Q (.int i) H) ∨ ∃ k, xs = [.bl k] ∧ Q (.int (if k then 1 else 0)) H) intD := fun v x d H Q hx h q => by
  unfold intD at h
  split at h
  · cases h; rw [rq_int hx]; exact .inl ⟨_, rfl, q _ H (Same.refl H) (.int _)⟩
  · cases h; rw [rq_bl hx]; exact .inr ⟨_, rfl, q _ H (Same.refl H) (.int _)⟩
  · cases h
theorem b_bool {K : PySem.W.Frag} : Cal1 K (fun xs H Q => (∃ i, xs = [.int i] ∧ Q (.bl (i != 0)) H) ∨ ∃ k, xs = [.bl k] ∧ Q (.bl k) H) boolD := fun v x d H Q hx h q => by
  unfold boolD at h
  split at h
  · cases h; rw [rq_int hx]; exact .inl ⟨_, rfl, q _ H (Same.refl H) (.bl _)⟩
  · cases h; rw [rq_bl hx]; exact .inr ⟨_, rfl, q _ H (Same.refl H) (.bl _)⟩
  · cases h
theorem b_str {K : PySem.W.Frag} : Cal1 K (fun xs H Q => (∃ i, xs = [.int i] ∧ i.natAbs.log2 < 1920 ∧ Q (.str (toString i)) H) ∨ ∃ a, xs = [.str a] ∧ Q (.str a) H) strD := fun v x d H Q hx h q => by
  unfold strD at h
  split at h
  · split at h
    · rename_i hi; cases h; rw [rq_int hx]; exact .inl ⟨_, rfl, hi, q _ H (Same.refl H) (.str _)⟩
    · cases h
  · cases h; rw [rq_str hx]; exact .inr ⟨_, rfl, q _ H (Same.refl H) (.str _)⟩
  · cases h
theorem b_abs {K : PySem.W.Frag} : Cal1 K (fun xs H Q => ∃ i, xs = [.int i] ∧ Q (.int (if i < 0 then -i else i)) H) absD := fun v x d H Q hx h q => by
  unfold absD at h
  split at h
  · cases h; rw [rq_int hx]; exact ⟨_, rfl, q _ H (Same.refl H) (.int _)⟩
  · cases h
theorem e_int1 (hg : Gl X "int") (hm : X.mg "int" = none) (ha : PE X a (tM X.K Z m)) (he : starEach [a] X.env = (false, eval a X.env) :: starEach [] X.env := by rfl) : PE X (.Call (.Name "int" p) [a] [] pos) (tM X.K Z (una intD m)) :=
  e_t1 call_int1 b_int boot_int hg hm (e_q ha) (he := he)
theorem e_bool1 (hg : Gl X "bool") (hm : X.mg "bool" = none) (ha : PE X a (tM X.K Z m)) (he : starEach [a] X.env = (false, eval a X.env) :: starEach [] X.env := by rfl) : PE X (.Call (.Name "bool" p) [a] [] pos) (tM X.K Z (una boolD m)) :=
  e_t1 call_bool1 b_bool boot_bool hg hm (e_q ha) (he := he)
theorem e_str1 (hg : Gl X "str") (hm : X.mg "str" = none) (ha : PE X a (tM X.K Z m)) (he : starEach [a] X.env = (false, eval a X.env) :: starEach [] X.env := by rfl) : PE X (.Call (.Name "str" p) [a] [] pos) (tM X.K Z (una strD m)) :=
  e_t1 (call_str_int.or SkE.call_str_str) b_str boot_str hg hm (e_q ha) (he := he)
theorem e_abs (hg : Gl X "abs") (hm : X.mg "abs" = none) (ha : PE X a (tM X.K Z m)) (he : starEach [a] X.env = (false, eval a X.env) :: starEach [] X.env := by rfl) : PE X (.Call (.Name "abs" p) [a] [] pos) (tM X.K Z (una absD m)) :=
  e_f1 call_abs b_abs boot_abs hg hm (e_q ha) (he := he)

/-! list, tuple -/
def listD : D → Option D
  | .list ds => some (.list ds)
  | .tuple ds => some (.list ds)
  | _ => none
def tupD : D → Option D
  | .list ds => some (.tuple ds)
  | .tuple ds => some (.tuple ds)
  | _ => none
theorem b_list {K : PySem.W.Frag} : Cal1O K (fun xs H Q => ∃ p ys, xs = [.ref p] ∧ (SqL K H p ys ∨ SqT K H p ys) ∧ ∀ l, H l = none → Q (.ref l) (upd H l (.lst ys))) listD := fun v x d H Q hx h q => by
  unfold listD at h
  split at h
  · cases h
    obtain ⟨a, xs, rfl, hs, r⟩ := rq_lst hx
    exact ⟨a, xs, rfl, .inl hs, fun l hl => q l _ (same_upd hl) ⟨xs, upd_same, r.mono (.same (same_upd hl))⟩ hl⟩
  · cases h
    obtain ⟨a, xs, rfl, hs, r⟩ := rq_tup hx
    exact ⟨a, xs, rfl, .inr hs, fun l hl => q l _ (same_upd hl) ⟨xs, upd_same, r.mono (.same (same_upd hl))⟩ hl⟩
  · cases h
theorem b_tup {K : PySem.W.Frag} : Cal1 K (fun xs H Q => ∃ p ys, xs = [.ref p] ∧ ((SqL K H p ys ∧ ∀ l, H l = none → Q (.ref l) (upd H l (.tup ys))) ∨ (SqT K H p ys ∧ Q (.ref p) H))) tupD := fun v x d H Q hx h q => by
  unfold tupD at h
  split at h
  · cases h
    obtain ⟨a, xs, rfl, hs, r⟩ := rq_lst hx
    exact ⟨a, xs, rfl, .inl ⟨hs, fun l hl => q (.ref l) _ (same_upd hl) (.tup (SqT.of upd_same) (r.mono (.same (same_upd hl))))⟩⟩
  · cases h
    obtain ⟨a, xs, rfl, hs, r⟩ := rq_tup hx
    exact ⟨a, xs, rfl, .inr ⟨hs, q _ H (Same.refl H) (.tup hs r)⟩⟩
  · cases h
theorem e_list (hg : Gl X "list") (hm : X.mg "list" = none) (ha : PE X a (tQ X.K Z m)) (he : starEach [a] X.env = (false, eval a X.env) :: starEach [] X.env := by rfl) : PE X (.Call (.Name "list" p) [a] [] pos) (tO X.K Z (una listD m)) :=
  e_t1O call_list_of b_list boot_list hg hm ha (he := he)
theorem e_tuple (hg : Gl X "tuple") (hm : X.mg "tuple" = none) (ha : PE X a (tQ X.K Z m)) (he : starEach [a] X.env = (false, eval a X.env) :: starEach [] X.env := by rfl) : PE X (.Call (.Name "tuple" p) [a] [] pos) (tM X.K Z (una tupD m)) :=
  e_t1 call_tuple_of b_tup boot_tuple hg hm ha (he := he)

/-! sum, max, min -/
def intsD : List D → Option (List Int)
  | [] => some []
  | .int b :: ds => (intsD ds).map (b :: ·)
  | _ :: _ => none
theorem ints_rp {K : PySem.W.Frag} {H : Hp} : ∀ {xs : List V} {ds : List D} {bs : List Int}, RpA K H xs ds → intsD ds = some bs → xs = bs.map V.int
  | _, _, _, .nil, h => by cases h; rfl
  | _, _, _, .cons (d := d) r t, h => by
    cases d with
    | int b =>
      simp only [intsD] at h
      obtain ⟨bs', h1, rfl⟩ := Option.map_eq_some_iff.mp h
      rw [ints_rp t h1, rp_int r]; rfl
    | _ => cases h
def sumD : D → Option D
  | .list ds => (intsD ds).map fun bs => .int bs.sum
  | _ => none
def topI (lt : Int → Int → Bool) : List Int → Option Int
  | [] => none
  | i :: is => some (is.foldl (fun a b => if lt a b then b else a) i)
def maxD : D → Option D
  | .list ds => (intsD ds).bind fun bs => (topI (fun a b => decide (a < b)) bs).map .int
  | _ => none
def minD : D → Option D
  | .list ds => (intsD ds).bind fun bs => (topI (fun a b => decide (b < a)) bs).map .int
  | _ => none
theorem fold_max : ∀ (is : List Int) (i : Int), (is.foldl (fun a b => if decide (a < b) then b else a) i ∈ i :: is) ∧ ∀ y ∈ i :: is, y ≤ is.foldl (fun a b => if decide (a < b) then b else a) i
  | [], i => ⟨by simp, fun y hy => by simp at hy; subst hy; exact Int.le_refl _⟩
  | j :: is, i => by
    simp only [List.foldl_cons]
    have ih := fold_max is (if decide (i < j) then j else i)
    refine ⟨?_, fun y hy => ?_⟩
    · rcases List.mem_cons.mp ih.1 with h | h
      · rw [h]; split <;> simp
      · exact List.mem_cons_of_mem _ (List.mem_cons_of_mem _ h)
    · have h0 := ih.2 _ List.mem_cons_self
      rcases List.mem_cons.mp hy with rfl | hy
      · refine Int.le_trans ?_ h0; split <;> simp_all <;> omega
      · rcases List.mem_cons.mp hy with rfl | hy
        · refine Int.le_trans ?_ h0; split <;> simp_all <;> omega
        · exact ih.2 y (List.mem_cons_of_mem _ hy)
theorem fold_min : ∀ (is : List Int) (i : Int), (is.foldl (fun a b => if decide (b < a) then b else a) i ∈ i :: is) ∧ ∀ y ∈ i :: is, is.foldl (fun a b => if decide (b < a) then b else a) i ≤ y
  | [], i => ⟨by simp, fun y hy => by simp at hy; subst hy; exact Int.le_refl _⟩
  | j :: is, i => by
    simp only [List.foldl_cons]
    have ih := fold_min is (if decide (j < i) then j else i)
    refine ⟨?_, fun y hy => ?_⟩
    · rcases List.mem_cons.mp ih.1 with h | h
      · rw [h]; split <;> simp
      · exact List.mem_cons_of_mem _ (List.mem_cons_of_mem _ h)
    · have h0 := ih.2 _ List.mem_cons_self
      rcases List.mem_cons.mp hy with rfl | hy
      · refine Int.le_trans h0 ?_; split <;> simp_all <;> omega
      · rcases List.mem_cons.mp hy with rfl | hy
        · refine Int.le_trans h0 ?_; split <;> simp_all <;> omega
        · exact ih.2 y (List.mem_cons_of_mem _ hy)
theorem b_sum {K : PySem.W.Frag} : Cal1 K (rSum K) sumD := fun v x d H Q hx h q => by
  unfold sumD at h
  split at h
  · obtain ⟨bs, h1, rfl⟩ := Option.map_eq_some_iff.mp h
    obtain ⟨a, xs, rfl, hs, r⟩ := rq_lst hx
    rw [ints_rp r h1] at hs
    exact ⟨a, bs, rfl, hs, q _ H (Same.refl H) (.int _)⟩
  · cases h
theorem b_max {K : PySem.W.Frag} : Cal1 K (rMax K) maxD := fun v x d H Q hx h q => by
  unfold maxD at h
  split at h
  · obtain ⟨bs, h1, h2⟩ := Option.bind_eq_some_iff.mp h
    obtain ⟨i, h3, rfl⟩ := Option.map_eq_some_iff.mp h2
    obtain ⟨a, xs, rfl, hs, r⟩ := rq_lst hx
    rw [ints_rp r h1] at hs
    cases bs with
    | nil => cases h3
    | cons j js =>
      cases h3
      refine ⟨a, _, rfl, hs, by simp, fun m hm hy => ?_⟩
      have f := fold_max js j
      have : m = js.foldl (fun a b => if decide (a < b) then b else a) j := Int.le_antisymm (f.2 m hm) (hy _ f.1)
      rw [this]
      exact q _ H (Same.refl H) (.int _)
  · cases h
theorem b_min {K : PySem.W.Frag} : Cal1 K (rMin K) minD := fun v x d H Q hx h q => by
  unfold minD at h
  split at h
  · obtain ⟨bs, h1, h2⟩ := Option.bind_eq_some_iff.mp h
    obtain ⟨i, h3, rfl⟩ := Option.map_eq_some_iff.mp h2
    obtain ⟨a, xs, rfl, hs, r⟩ := rq_lst hx
    rw [ints_rp r h1] at hs
    cases bs with
    | nil => cases h3
    | cons j js =>
      cases h3
      refine ⟨a, _, rfl, hs, by simp, fun m hm hy => ?_⟩
      have f := fold_min js j
      have : m = js.foldl (fun a b => if decide (b < a) then b else a) j := Int.le_antisymm (hy _ f.1) (f.2 m hm)
      rw [this]
      exact q _ H (Same.refl H) (.int _)
  · cases h
theorem e_sum (hc : X.calm = true) (hg : Gl X "sum") (hm : X.mg "sum" = none) (ha : PE X a (tQ X.K Z m)) (he : starEach [a] X.env = (false, eval a X.env) :: starEach [] X.env := by rfl) : PE X (.Call (.Name "sum" p) [a] [] pos) (tM X.K Z (una sumD m)) :=
  e_f1 (cr_sum hc) b_sum boot_sum hg hm ha (he := he)
theorem e_max1 (hc : X.calm = true) (hg : Gl X "max") (hm : X.mg "max" = none) (ha : PE X a (tQ X.K Z m)) (he : starEach [a] X.env = (false, eval a X.env) :: starEach [] X.env := by rfl) : PE X (.Call (.Name "max" p) [a] [] pos) (tM X.K Z (una maxD m)) :=
  e_f1 (cr_max hc) b_max boot_max hg hm ha (he := he)
theorem e_min1 (hc : X.calm = true) (hg : Gl X "min") (hm : X.mg "min" = none) (ha : PE X a (tQ X.K Z m)) (he : starEach [a] X.env = (false, eval a X.env) :: starEach [] X.env := by rfl) : PE X (.Call (.Name "min" p) [a] [] pos) (tM X.K Z (una minD m)) :=
  e_f1 (cr_min hc) b_min boot_min hg hm ha (he := he)
def max2D : D → D → Option D
  | .int i, .int j => some (.int (if j > i then j else i))
  | _, _ => none
def min2D : D → D → Option D
  | .int i, .int j => some (.int (if j < i then j else i))
  | _, _ => none
theorem b_max2 {K : PySem.W.Frag} : Cal2 K (fun xs H Q => ∃ i j, xs = [.int i, .int j] ∧ Q (.int (if j > i then j else i)) H) max2D := fun v w x y d H Q hx hy h q => by
  unfold max2D at h
  split at h
  · cases h; rw [rp_int hx, rq_int hy]; exact ⟨_, _, rfl, q _ H (Same.refl H) (.int _)⟩
  · cases h
theorem b_min2 {K : PySem.W.Frag} : Cal2 K (fun xs H Q => ∃ i j, xs = [.int i, .int j] ∧ Q (.int (if j < i then j else i)) H) min2D := fun v w x y d H Q hx hy h q => by
  unfold min2D at h
  split at h
  · cases h; rw [rp_int hx, rq_int hy]; exact ⟨_, _, rfl, q _ H (Same.refl H) (.int _)⟩
  · cases h
theorem e_max2 (hc : X.calm = true) (hg : Gl X "max") (hm : X.mg "max" = none) (ha : PE X a (tM X.K Z m)) (hb : PE X b (tM X.K Z m')) (he : starEach [a, b] X.env = (false, eval a X.env) :: starEach [b] X.env := by rfl) (he2 : starEach [b] X.env = (false, eval b X.env) :: starEach [] X.env := by rfl) : PE X (.Call (.Name "max" p) [a, b] [] pos) (tM X.K Z (bin max2D m m')) :=
  e_f2 (call_max2 hc) b_max2 boot_max hg hm ha (e_q hb) (he := he) (he2 := he2) (hpl := by rw [he2]; rfl)
theorem e_min2 (hc : X.calm = true) (hg : Gl X "min") (hm : X.mg "min" = none) (ha : PE X a (tM X.K Z m)) (hb : PE X b (tM X.K Z m')) (he : starEach [a, b] X.env = (false, eval a X.env) :: starEach [b] X.env := by rfl) (he2 : starEach [b] X.env = (false, eval b X.env) :: starEach [] X.env := by rfl) : PE X (.Call (.Name "min" p) [a, b] [] pos) (tM X.K Z (bin min2D m m')) :=
  e_f2 (call_min2 hc) b_min2 boot_min hg hm ha (e_q hb) (he := he) (he2 := he2) (hpl := by rw [he2]; rfl)

/-! isinstance -/
def tyD : D → String
  | .none => "NoneType" | .bool _ => "bool" | .int _ => "int" | .str _ => "str" | .list _ => "list" | .tuple _ => "tuple" | .dict _ => "dict"
def isiT (T t : String) : Bool := t == T || (T == "int" && t == "bool")
def isiD (T : String) (d : D) : Option D := some (.bool (isiT T (tyD d)))
theorem ty_rq {K : PySem.W.Frag} {H : Hp} {v : V} {d : D} (h : Rq K H v d) : TyX K H v (.type (tyD d)) := by
  rcases h with h | ⟨a, rfl, o⟩
  · cases h with
    | non => exact .base .non
    | bl b => exact .base (.bl b)
    | int i => exact .base (.int i)
    | str x => exact .base (.str x)
    | lst h _ =>
      rcases h with ⟨o, h⟩ | ⟨its, n, h, _⟩
      · exact .base (.frz h)
      · exact .kList h rfl
    | tup h _ =>
      rcases h with (h | ⟨o, h⟩) | ⟨o, its, n, h, hc, _⟩
      · exact .base (.tup h)
      · exact .fTuple h
      · exact .kTuple h hc
    | dic h _ => exact .fDict h
  · cases d with
    | list ds => obtain ⟨xs, h, _⟩ := o; exact .base (.lst h)
    | dict ds => obtain ⟨xs, h, _⟩ := o; exact .base (.dK h)
    | _ => exact o.elim
theorem kit_all : ∀ t ∈ ["NoneType", "int", "bool", "str", "list", "tuple", "dict"], ∀ T ∈ ["int", "bool", "str", "list", "tuple", "dict"], kitB t T = some (isiT T t) := by decide +kernel
theorem tyD_in (d : D) : tyD d ∈ ["NoneType", "int", "bool", "str", "list", "tuple", "dict"] := by cases d <;> simp [tyD]
theorem kit_ok (d : D) {T : String} (h : T ∈ ["int", "bool", "str", "list", "tuple", "dict"]) : kitB (tyD d) T = some (isiT T (tyD d)) := kit_all _ (tyD_in d) _ h
theorem e_isi {m : M D} {T : String} {pT : Pos} {nT : Str} (hT : T ∈ ["int", "bool", "str", "list", "tuple", "dict"]) (hv : bootBuiltins nT = some (.type T)) (hgT : Gl X nT) (hmT : X.mg nT = none) (hg : Gl X "isinstance") (hm : X.mg "isinstance" = none) (ha : PE X a (tQ X.K Z m)) (hn : nT ≠ "__name__" := by decide) (hd : (nT == ("__debug__" : Str)) = false := by decide)
    (he : starEach [a, .Name nT pT] X.env = (false, eval a X.env) :: starEach [.Name nT pT] X.env := by rfl) : PE X (.Call (.Name "isinstance" p) [a, .Name nT pT] [] pos) (tM X.K Z (una (isiD T) m)) := by
  refine PE_weak (pe_callB call_isi hg hm boot_isi (pa_cons ha (pa_cons (pe_bltn (pos := pT) hgT hmT hv (v := .ty T) rfl hn hd) pa_nil) he) (he := he)) fun σ H Q ⟨e, R, p⟩ => ⟨e, R, pst_bnd p fun v H1 x e1 m1 R1 r1 p1 => ?_⟩
  exact ⟨v, .ty T, _, .type T, _, rfl, .ty T, ty_rq r1, kit_ty (kit_ok x hT), p1 (.bl _) H1 .refl R1 (.bl _)⟩

/-! repr -/
def reprD (d : D) : Option D := if PyData.canLay0 d = true ∧ PyData.showable d = true ∧ PyData.depth d ≤ 60 ∧ (PyData.shown d).length ≤ sizeLine then some (.str (PyData.shown d)) else none
def rRep (K : PySem.W.Frag) : List V → Hp → VK → Prop := fun xs H Q => ∃ v d, xs = [v] ∧ Rq K H v d ∧ PyData.canLay0 d = true ∧ PyData.showable d = true ∧ PyData.depth d ≤ 60 ∧ (PyData.shown d).length ≤ sizeLine ∧ Q (.str (PyData.shown d)) H
theorem call_repr (hgd : X.A.guards = some []) (hu : X.A.units + 66 < cLine) : CallR X (.builtin "repr") (rRep X.K) := by
  intro pins s σ H xs us Q I r h
  obtain ⟨v, d, rfl, hv, h0, h1, h2, h3, q⟩ := h
  obtain ⟨u, rfl, rx⟩ := vals1 r
  have dp := hv.dp h0
  have ref : ∀ a : Addr, v = .ref a → wpAny (model X.prog X.w) X.A (call (.builtin "repr") [u]) (EP X pins σ Q) X.xe s := fun a e => by
    subst e
    cases rx
    obtain ⟨as, rd⟩ := Dp.reads I d (.ref a) (.ref a) dp rfl
    exact repr_of_reads' rd h1 (PyData.noDict_hsm (PyData.hasDict_of_canLay d h0)) hgd (by omega) (fun _ _ e => e) (fun h' t tk hk => ⟨.str _, H, I.kept hk, ⟨_, rfl⟩, q⟩) h3
  cases d with
  | none =>
    cases dp; cases rx
    exact PySem.P.repr_of_none ⟨.str "None", H, I.tok _, ⟨_, rfl⟩, by simpa only [PyData.shown] using q⟩
  | bool b =>
    cases dp; cases rx
    exact PySem.P.repr_of_bool ⟨.str _, H, I.tok _, ⟨_, rfl⟩, by simpa only [PyData.shown] using q⟩
  | int i =>
    cases dp
    obtain ⟨t, rfl⟩ := rx
    exact PySem.P.repr_of_int (by simpa [PyData.showable] using h1) ⟨.str _, H, I.tok _, ⟨_, rfl⟩, by simpa only [PyData.shown] using q⟩
  | str x =>
    cases dp
    obtain ⟨t, rfl⟩ := rx
    exact PySem.P.repr_of_str ⟨.str _, H, I.tok _, ⟨_, rfl⟩, by simpa only [PyData.shown] using q⟩ (by simpa only [PyData.shown] using h3)
  | list ds => cases dp; exact ref _ rfl
  | tuple ds => cases dp; exact ref _ rfl
  | dict ds => simp [PyData.canLay0] at h0
theorem b_repr {K : PySem.W.Frag} : Cal1 K (rRep K) reprD := fun v x d H Q hx h q => by
  unfold reprD at h
  split at h
  · rename_i g
    cases h
    exact ⟨v, x, rfl, hx, g.1, g.2.1, g.2.2.1, g.2.2.2, q _ H (Same.refl H) (.str _)⟩
  · cases h
theorem e_repr (hgd : X.A.guards = some []) (hu : X.A.units + 66 < cLine) (hg : Gl X "repr") (hm : X.mg "repr" = none) (ha : PE X a (tQ X.K Z m)) (he : starEach [a] X.env = (false, eval a X.env) :: starEach [] X.env := by rfl) : PE X (.Call (.Name "repr" p) [a] [] pos) (tM X.K Z (una reprD m)) :=
  e_f1 (call_repr hgd hu) b_repr boot_repr hg hm ha (he := he)
end
end ZZ

namespace ZZ
open PySem PySem.Spec PyProof.Rows L2
variable [TabC]

/-! ### a[b] -/
theorem atI_rp {K : PySem.W.Frag} {H : Hp} {xs : List V} {ds : List D} (r : RpA K H xs ds) {i : Int} {d : D} (h : atI ds i = some d) : ∃ v, atI xs i = some v ∧ Rp K H v d := by
  unfold atI at h ⊢
  rw [r.length]
  cases e : ixN ds.length i with
  | none => rw [e] at h; cases h
  | some j => rw [e] at h; exact r.get j d h
def keyD : D → Option Key
  | .int i => some (.inl i)
  | .str x => some (.inr x)
  | _ => none
theorem keyD_eq {d : D} {k : Key} (h : keyD d = some k) : d = kD k := by cases d <;> cases h <;> rfl
theorem rp_key {K : PySem.W.Frag} {H : Hp} {v : V} {k : Key} (h : Rp K H v (kD k)) : v = kV k := by cases k <;> cases h <;> rfl
def getK (ds : List (D × D)) (k : D) : Option D := (ds.find? fun p => PyData.eqv p.1 k).map (·.2)
theorem getK_rp {K : PySem.W.Frag} {H : Hp} {k : Key} {d : D} : ∀ {kvs : List (Key × V)} {ds : List (D × D)}, RpK K H kvs ds → getK ds (kD k) = some d → ∃ v, valV kvs k = some v ∧ Rp K H v d
  | _, _, .nil, h => by cases h
  | _, _, .cons (k := j) (v := v) (vs := vs) (d := d') (ds := ds) r t, h => by
    have tl := getK_rp (d := d) (k := k) t
    unfold getK valV at *
    rw [List.find?_cons] at h ⊢
    rw [eqv_key] at h
    by_cases e : j = k
    · rw [decide_eq_true e] at h ⊢
      cases h
      exact ⟨v, rfl, r⟩
    · rw [decide_eq_false e] at h ⊢
      exact tl h
def ixD : D → D → Option D
  | .list ds, .int i => atI ds i
  | .tuple ds, .int i => atI ds i
  | .str z, .int i => if z.length ≤ sizeLine then (atI z.cps.toList i).map fun c => .str ⟨#[c]⟩ else none
  | .dict ds, k => (keyD k).bind fun _ => getK ds k
  | _, _ => none
abbrev rIxA (K : PySem.W.Frag) : R2 := fun x y H Q => rIx K x y H Q ∨ (∃ a v, x = .ref a ∧ DGet H a y (some v) ∧ Q v H)
section
variable {X : Cx} {Z : ZC} {a b : Expr} {pos : Pos} {ma mb : M D}
theorem ix_dict (hu : X.A.units + 66 < cLine) : IxR X (fun x y H Q => ∃ a v, x = .ref a ∧ DGet H a y (some v) ∧ Q v H) := by
  intro value slice pins s σ H x y v u Q I rx ry h hs
  obtain ⟨a, w, rfl, g, q⟩ := h
  cases rx
  exact tail_any (dict_typeIs I g) PySem.F.slot_dict_getitem.lookup (d_getItem (by omega) I g ry fun w' s3 I3 rw' => ⟨w, H, I3, rw', q⟩) hs
theorem ix_all (hu : X.A.units + 66 < cLine) : IxR X (rIxA X.K) := ix_seq.or (ix_dict hu)
theorem b_ix {K : PySem.W.Frag} : BinQ K (rIxA K) ixD := fun v w x y d H Q hx hy h q => by
  unfold ixD at h
  split at h
  · obtain ⟨a, xs, rfl, hs, r⟩ := rq_lst hx
    rw [rq_int hy]
    obtain ⟨u, h1, ru⟩ := atI_rp r h
    exact .inl (.inl ⟨a, xs, _, u, rfl, rfl, hs, h1, q u ru⟩)
  · obtain ⟨a, xs, rfl, hs, r⟩ := rq_tup hx
    rw [rq_int hy]
    obtain ⟨u, h1, ru⟩ := atI_rp r h
    exact .inl (.inr (.inl ⟨a, xs, _, u, rfl, rfl, hs, h1, q u ru⟩))
  · split at h
    · rename_i hz
      obtain ⟨c, h1, rfl⟩ := Option.map_eq_some_iff.mp h
      rw [rq_str hx, rq_int hy]
      exact .inl (.inr (.inr ⟨_, _, c, rfl, rfl, hz, h1, q _ (.str _)⟩))
    · cases h
  · obtain ⟨k, h1, h2⟩ := Option.bind_eq_some_iff.mp h
    obtain ⟨a, kvs, rfl, hd, r⟩ := rq_dic hx
    have e := keyD_eq h1
    subst e
    obtain ⟨u, h3, ru⟩ := getK_rp r h2
    have hv : w = kV k := by
      rcases hy with hy | ⟨c, rfl, o⟩
      · exact rp_key hy
      · cases k <;> exact o.elim
    subst hv
    exact .inr ⟨a, u, rfl, .inl ⟨kvs, k, hd, rfl, h3.symm⟩, q u ru⟩
  · cases h
theorem e_ix (hu : X.A.units + 66 < cLine) (ha : PE X a (tM X.K Z ma)) (hb : PE X b (tM X.K Z mb)) (hs : PlainIx b := by exact fun _ _ => rfl) : PE X (.Subscript a b pos) (tM X.K Z (bin ixD ma mb)) :=
  PE_weak (pe_ix (ix_all hu) ha (e_q hb) hs) (t_bin b_ix.r)
theorem e_ixL {i : Nat} (hu : X.A.units + 66 < cLine) (ha : PE X a (tVar i)) (hb : PE X b (tM X.K Z mb)) (hs : PlainIx b := by exact fun _ _ => rfl) : PE X (.Subscript a b pos) (tM X.K Z (binL ixD i mb)) :=
  PE_weak (pe_ix (ix_all hu) ha hb hs) (t_binQL b_ix)

/-! ### a[lo:hi] -/
def cutD (xs : List D) (lo hi : Option Int) : List D := (xs.drop (HT.sIx xs.length 0 lo)).take (HT.sIx xs.length xs.length hi - HT.sIx xs.length 0 lo)
theorem cut_rp {K : PySem.W.Frag} {H : Hp} {xs : List V} {ds : List D} (r : RpA K H xs ds) (lo hi : Option Int) : RpA K H (cutV xs lo hi) (cutD ds lo hi) := by
  unfold cutV cutD
  rw [r.length]
  exact (r.drop _).take _
def slD : D → Option Int → Option Int → Option D
  | .list ds, lo, hi => some (.list (cutD ds lo hi))
  | .tuple ds, lo, hi => some (.tuple (cutD ds lo hi))
  | .str z, lo, hi => if z.length ≤ sizeLine then some (.str (cutS z lo hi)) else none
  | _, _, _ => none
def partM : Option (M D) → M (Option Int)
  | none => ret none
  | some m => bnd m fun d => lft (match d with | .int i => some (some i) | _ => none)
def slM (m : M D) (lo hi : Option (M D)) : M D := bnd m fun x => bnd (partM lo) fun l => bnd (partM hi) fun h => lft (slD x l h)
abbrev rSlA3 (K : PySem.W.Frag) : V → Option Int → Option Int → Hp → VK → Prop := fun x lo hi H Q => rSlL K x lo hi H Q ∨ rSlA K x lo hi H Q ∨ rSlS x lo hi H Q
theorem sl_all : SlR X (rSlA3 X.K) := sl_list.or (sl_tupA.or sl_str)
def tOp' (K : PySem.W.Frag) (Z : ZC) : Option (M D) → TO
  | none => tNoPart
  | some m => tPart (tM K Z m)
theorem pst_part {K : PySem.W.Frag} {β α : Type} {r : RR β α} {σ : SS} {H : Hp} {Q : β → Hp → Prop} {m : Option (M D)} {f : Option Int → M α} {e : En} {R : Option Int → Hp → Prop} (R0 : Rel K Z σ H e) (p : pst K Z r σ H Q (bnd (partM m) f e))
    (k : ∀ o H1 e1, Mono H H1 → Rel K Z σ H1 e1 → pst K Z r σ H1 Q (f o e1) → R o H1) : tOp' K Z m σ H R := by
  cases m with
  | none => exact k none H e .refl R0 p
  | some m =>
    refine ⟨e, R0, ?_⟩
    unfold partM bnd at p
    cases hm : m e with
    | no => simp only [hm] at p; exact p.elim
    | exc x e1 => simp only [hm] at p; exact p
    | ok d e1 =>
      simp only [hm] at p
      cases d with
      | int i => exact fun v H1 m1 R1 r1 => ⟨i, rp_int r1, k (some i) H1 e1 m1 R1 (pst.mono p m1)⟩
      | _ => exact p.elim
theorem po_0 : PO X none (tOp' X.K Z none) := po_none
theorem po_1 {e : Expr} {m : M D} (h : PE X e (tM X.K Z m)) : PO X (some e) (tOp' X.K Z (some m)) := po_some h
theorem sl_ok {K : PySem.W.Frag} {v : V} {x d : D} {l h : Option Int} {H : Hp} {Q : VK} (hx : Rq K H v x) (hd : slD x l h = some d) (q : ∀ u H', Same H H' → (Rp K H' u d ∨ ∃ a, u = .ref a ∧ Opn K H' a d ∧ H a = none) → Q u H') : rSlA3 K v l h H Q := by
  unfold slD at hd
  split at hd
  · cases hd
    obtain ⟨a, xs, rfl, hs, r⟩ := rq_lst hx
    exact .inl ⟨a, xs, rfl, hs, fun p hp => q _ _ (same_upd hp) (.inr ⟨p, rfl, ⟨_, upd_same, (cut_rp r l h).mono (.same (same_upd hp))⟩, hp⟩)⟩
  · cases hd
    obtain ⟨a, xs, rfl, hs, r⟩ := rq_tup hx
    refine .inr (.inl ⟨a, xs, rfl, hs, fun hw => q _ H (Same.refl H) (.inl (.tup hs ?_)), fun _ p hp => q _ _ (same_upd hp) (.inl (.tup (SqT.of upd_same) ((cut_rp r l h).mono (.same (same_upd hp)))))⟩)
    have := cut_rp r l h
    unfold cutV at this
    rw [hw.1, hw.2, List.drop_zero, Nat.sub_zero, List.take_length] at this
    exact this
  · split at hd
    · rename_i hz; cases hd
      rw [rq_str hx]
      exact .inr (.inr ⟨_, rfl, hz, q _ H (Same.refl H) (.inl (.str _))⟩)
    · cases hd
  · cases hd
theorem sl_fin {K : PySem.W.Frag} {σ : SS} {H : Hp} {Q : VK} {v : V} {x : D} {l h : Option Int} {e : En} (R : Rel K Z σ H e) (hx : Rq K H v x) (p : pst K Z (rX K Z) σ H Q (lft (slD x l h) e)) : rSlA3 K v l h H Q := by
  obtain ⟨d, hd, q⟩ := pst_lft p
  refine sl_ok hx hd fun u H' s ru => q u H' (.same s) (R.same s) ?_
  rcases ru with ru | ⟨c, rfl, o, hc⟩
  · exact .inl ru
  · obtain ⟨hb, hs⟩ := R.fresh hc
    exact .inr ⟨c, rfl, o, hb, hs⟩
theorem e_sl {lo hi : Option Expr} {p2 : Pos} {ml mh : Option (M D)} (ha : PE X a (tM X.K Z ma)) (hl : PO X lo (tOp' X.K Z ml)) (hh : PO X hi (tOp' X.K Z mh)) : PE X (.Subscript a (.Slice lo hi none p2) pos) (tX X.K Z (slM ma ml mh)) :=
  PE_weak (pe_slice sl_all ha hl hh) fun σ H Q ⟨e, R, p⟩ => ⟨e, R, pst_bnd p fun v H1 x e1 m1 R1 r1 p1 => pst_part R1 p1 fun l H2 e2 m2 R2 p2 => pst_part R2 p2 fun u H3 e3 m3 R3 p3 => sl_fin R3 (.inl (Rp.mono (m2.trans m3) r1)) p3⟩
def slL (i : Nat) (lo hi : Option (M D)) : M D := bnd (vq i) fun _ => bnd (partM lo) fun l => bnd (partM hi) fun h => bnd (vq i) fun x => lft (slD x l h)
theorem e_slL {i : Nat} {lo hi : Option Expr} {p2 : Pos} {ml mh : Option (M D)} (ha : PE X a (tVar i)) (hl : PO X lo (tOp' X.K Z ml)) (hh : PO X hi (tOp' X.K Z mh)) : PE X (.Subscript a (.Slice lo hi none p2) pos) (tX X.K Z (slL i ml mh)) :=
  PE_weak (pe_slice sl_all ha hl hh) fun σ H Q ⟨e, R, p⟩ => by
    obtain ⟨v, _, hv, _, p⟩ := vq_ok R p
    refine ⟨v, hv, pst_part R p fun l H2 e2 m2 R2 p2 => pst_part R2 p2 fun u H3 e3 m3 R3 p3 => ?_⟩
    obtain ⟨v', x, hv', rq, p4⟩ := vq_ok R3 p3
    rw [hv] at hv'; cases hv'
    exact sl_fin R3 rq p4
/-- xs[::-1] of a list -/
def revD : D → Option D
  | .list ds => some (.list ds.reverse)
  | _ => none
theorem e_rev {k : Nat} {p1 p2 p3 : Pos} (ha : PE X a (tQ X.K Z ma)) : PE X (.Subscript a (.Slice none none (some (.UnaryOp .USub (.Constant (.int 1) k p1) p2)) p3) pos) (tO X.K Z (una revD ma)) :=
  PE_weak (pe_revL ha) fun σ H Q ⟨e, R, p⟩ => ⟨e, R, pst_bnd p fun v H1 x e1 m1 R1 r1 p1 => by
    obtain ⟨d, hd, q⟩ := pst_lft p1
    unfold revD at hd
    split at hd
    · cases hd
      obtain ⟨a, xs, rfl, hs, r⟩ := rq_lst r1
      refine ⟨a, xs, rfl, hs, fun p hp => q _ _ (.same (same_upd hp)) (R1.same (same_upd hp)) ⟨p, rfl, ⟨_, upd_same, r.reverse.mono (.same (same_upd hp))⟩, R1.fresh hp⟩⟩
    · cases hd⟩
/-- list(range(..)), tuple(range(..)) -/
def rgOk (a b : Int) : Bool := decide (-(2 ^ 62) ≤ a ∧ a < 2 ^ 62 ∧ -(2 ^ 62) ≤ b ∧ b < 2 ^ 62 ∧ (b - a).toNat ≤ 2 ^ 24)
def lrgD (mk : List D → D) : D → D → Option D
  | .int a, .int b => if rgOk a b then some (mk (rng a b)) else none
  | _, _ => none
theorem lrgD_some {mk : List D → D} {x y d : D} (h : lrgD mk x y = some d) : ∃ a b, x = .int a ∧ y = .int b ∧ RgOk a b ∧ d = mk (rng a b) := by
  cases x with
  | int a =>
    cases y with
    | int b =>
      simp only [lrgD] at h
      by_cases ok : rgOk a b = true
      · rw [if_pos ok] at h
        cases h
        unfold rgOk at ok
        exact ⟨a, b, rfl, rfl, by unfold RgOk; exact of_decide_eq_true ok, rfl⟩
      · rw [if_neg ok] at h; cases h
    | _ => cases h
  | _ => cases h
theorem rg_rp {K : PySem.W.Frag} {H : Hp} {a b : Int} : RpA K H (rgV a b) (rng a b) := by
  unfold rgV rng
  generalize (b - a).toNat = n
  have : ∀ l : List Nat, RpA K H (l.map fun i => V.int (a + (i : Nat))) (l.map fun i => PyData.int (a + (i : Nat))) := fun l => by
    induction l with
    | nil => exact .nil
    | cons i l ih => exact .cons (.int _) ih
  exact this _
theorem t_rg1 {K : PySem.W.Frag} {β α : Type} {r : RR β α} {m : M D} {σ : SS} {H : Hp} {Q : β → Hp → Prop} {f : D → M α} {e : En} {R : Int → Int → Hp → Prop} (R0 : Rel K Z σ H e) (p : pst K Z r σ H Q (bnd m f e))
    (k : ∀ d H1 e1, Mono H H1 → Rel K Z σ H1 e1 → pst K Z r σ H1 Q (f d e1) → ∃ n, d = .int n ∧ R 0 n H1) : tRg1 (tM K Z m) σ H R := ⟨e, R0, pst_bnd p fun v H1 x e1 m1 R1 r1 p1 => by
    obtain ⟨n, rfl, q⟩ := k x H1 e1 m1 R1 p1
    exact ⟨n, rp_int r1, q⟩⟩
theorem e_lrg1 {p p' pos2 : Pos} (hc : X.calm = true) (hg : Gl X "list") (hm : X.mg "list" = none) (hg' : Gl X "range") (hm' : X.mg "range" = none) (ha : PE X a (tM X.K Z ma)) (na : starEach [a] X.env = (false, eval a X.env) :: starEach [] X.env := by rfl)
    (nb : starEach [.Call (.Name "range" p') [a] [] pos2] X.env = (false, eval (.Call (.Name "range" p') [a] [] pos2) X.env) :: starEach [] X.env := by rfl) : PE X (.Call (.Name "list" p) [.Call (.Name "range" p') [a] [] pos2] [] pos) (tO X.K Z (bin (lrgD .list) (ret (.int 0)) ma)) :=
  PE_weak (pe_listRg hc hg hm (prg_1 hg' hm' ha na) nb) fun σ H Q ⟨e, R, p⟩ => t_rg1 R (show pst X.K Z (rO X.K Z) σ H Q (bnd ma (fun y => lft (lrgD .list (.int 0) y)) e) from p) fun d H1 e1 m1 R1 p1 => by
    obtain ⟨d', hd, q⟩ := pst_lft p1
    obtain ⟨a, n, ha, rfl, ok, rfl⟩ := lrgD_some hd
    cases ha
    exact (⟨n, rfl, ok, fun c hc => q _ _ (.same (same_upd hc)) (R1.same (same_upd hc)) ⟨c, rfl, ⟨_, upd_same, rg_rp⟩, R1.fresh hc⟩⟩)
theorem e_trg1 {p p' pos2 : Pos} (hc : X.calm = true) (hg : Gl X "tuple") (hm : X.mg "tuple" = none) (hg' : Gl X "range") (hm' : X.mg "range" = none) (ha : PE X a (tM X.K Z ma)) (na : starEach [a] X.env = (false, eval a X.env) :: starEach [] X.env := by rfl)
    (nb : starEach [.Call (.Name "range" p') [a] [] pos2] X.env = (false, eval (.Call (.Name "range" p') [a] [] pos2) X.env) :: starEach [] X.env := by rfl) : PE X (.Call (.Name "tuple" p) [.Call (.Name "range" p') [a] [] pos2] [] pos) (tM X.K Z (bin (lrgD .tuple) (ret (.int 0)) ma)) :=
  PE_weak (pe_tupRg hc hg hm (prg_1 hg' hm' ha na) nb) fun σ H Q ⟨e, R, p⟩ => t_rg1 R (show pst X.K Z (rV X.K) σ H Q (bnd ma (fun y => lft (lrgD .tuple (.int 0) y)) e) from p) fun d H1 e1 m1 R1 p1 => by
    obtain ⟨d', hd, q⟩ := pst_lft p1
    obtain ⟨a, n, ha, rfl, ok, rfl⟩ := lrgD_some hd
    cases ha
    exact (⟨n, rfl, ok, fun c hc => q _ _ (.same (same_upd hc)) (R1.same (same_upd hc)) (.tup (SqT.of upd_same) rg_rp)⟩)
theorem t_rg2 {K : PySem.W.Frag} {β α : Type} {r : RR β α} {m m' : M D} {σ : SS} {H : Hp} {Q : β → Hp → Prop} {f : D → D → M α} {e : En} {R : Int → Int → Hp → Prop} (R0 : Rel K Z σ H e) (p : pst K Z r σ H Q (bnd m (fun x => bnd m' fun y => f x y) e))
    (k : ∀ c d H1 e1, Mono H H1 → Rel K Z σ H1 e1 → pst K Z r σ H1 Q (f c d e1) → ∃ i j, c = .int i ∧ d = .int j ∧ R i j H1) : tRg2 (tM K Z m) (tM K Z m') σ H R := ⟨e, R0, pst_bnd p fun v H1 x e1 m1 R1 r1 p1 => ⟨e1, R1, pst_bnd p1 fun w H2 y e2 m2 R2 r2 p2 => by
    obtain ⟨i, j, rfl, rfl, q⟩ := k x y H2 e2 (m1.trans m2) R2 p2
    exact ⟨i, j, rp_int r1, rp_int r2, q⟩⟩⟩
theorem e_lrg2 {p p' pos2 : Pos} (hc : X.calm = true) (hg : Gl X "list") (hm : X.mg "list" = none) (hg' : Gl X "range") (hm' : X.mg "range" = none) (ha : PE X a (tM X.K Z ma)) (hb : PE X b (tM X.K Z mb)) (na : starEach [a, b] X.env = (false, eval a X.env) :: starEach [b] X.env := by rfl) (na2 : starEach [b] X.env = (false, eval b X.env) :: starEach [] X.env := by rfl) (hpl : (backTo pos2 (starEach [b] X.env)).any (·.1) = false := by rfl)
    (nb : starEach [.Call (.Name "range" p') [a, b] [] pos2] X.env = (false, eval (.Call (.Name "range" p') [a, b] [] pos2) X.env) :: starEach [] X.env := by rfl) : PE X (.Call (.Name "list" p) [.Call (.Name "range" p') [a, b] [] pos2] [] pos) (tO X.K Z (bin (lrgD .list) ma mb)) :=
  PE_weak (pe_listRg hc hg hm (prg_2 hg' hm' ha hb na na2 hpl) nb) fun σ H Q ⟨e, R, p⟩ => t_rg2 R p fun c d H1 e1 m1 R1 p1 => by
    obtain ⟨d', hd, q⟩ := pst_lft p1
    obtain ⟨i, j, rfl, rfl, ok, rfl⟩ := lrgD_some hd
    exact (⟨i, j, rfl, rfl, ok, fun c hc => q _ _ (.same (same_upd hc)) (R1.same (same_upd hc)) ⟨c, rfl, ⟨_, upd_same, rg_rp⟩, R1.fresh hc⟩⟩)
theorem e_trg2 {p p' pos2 : Pos} (hc : X.calm = true) (hg : Gl X "tuple") (hm : X.mg "tuple" = none) (hg' : Gl X "range") (hm' : X.mg "range" = none) (ha : PE X a (tM X.K Z ma)) (hb : PE X b (tM X.K Z mb)) (na : starEach [a, b] X.env = (false, eval a X.env) :: starEach [b] X.env := by rfl) (na2 : starEach [b] X.env = (false, eval b X.env) :: starEach [] X.env := by rfl) (hpl : (backTo pos2 (starEach [b] X.env)).any (·.1) = false := by rfl)
    (nb : starEach [.Call (.Name "range" p') [a, b] [] pos2] X.env = (false, eval (.Call (.Name "range" p') [a, b] [] pos2) X.env) :: starEach [] X.env := by rfl) : PE X (.Call (.Name "tuple" p) [.Call (.Name "range" p') [a, b] [] pos2] [] pos) (tM X.K Z (bin (lrgD .tuple) ma mb)) :=
  PE_weak (pe_tupRg hc hg hm (prg_2 hg' hm' ha hb na na2 hpl) nb) fun σ H Q ⟨e, R, p⟩ => t_rg2 R p fun c d H1 e1 m1 R1 p1 => by
    obtain ⟨d', hd, q⟩ := pst_lft p1
    obtain ⟨i, j, rfl, rfl, ok, rfl⟩ := lrgD_some hd
    exact (⟨i, j, rfl, rfl, ok, fun c hc => q _ _ (.same (same_upd hc)) (R1.same (same_upd hc)) (.tup (SqT.of upd_same) rg_rp)⟩)
end
end ZZ

namespace ZZ
open PySem PySem.Spec PyProof.Rows L2
variable [TabC]

/-! ### names of the module -/
section
variable {X : Cx} {Z : ZC} {pos : Pos}
theorem e_gl {x : Str} {v : V} {u : Value} {d : D} (hg : Gl X x) (hm : X.mg x = some u) (r : RelV v u) (h : ∀ H, Rp X.K H v d) (hd : (x == ("__debug__" : Str)) = false := by decide) : PE X (.Name x pos) (tM X.K Z (ret d)) :=
  PE_weak (pe_glob hg hm r hd) fun σ H Q ⟨e, R, p⟩ => p v H .refl R (h H)

/-! ### a, b = x, y with stores from the right -/
def parB (N : List Str) (scope : Scope) : List Str → List Nat → Bool
  | [], [] => true
  | x :: xs, i :: is => decide (N[i]? = some x) && (scope.names.lookup x == some .local) && parB N scope xs is
  | _, _ => false
theorem asg_all (hN : X.N.Nodup) {Q : SS → Hp → Prop} {pins : List (Addr × Obj)} {H : Hp} : ∀ {xs : List Str} {is : List Nat} {us : List Value} {vs : List V} {σ : SS} {s : Shared}, parB X.N X.env.scope xs is = true → Vals vs us → Inv X pins σ H s → gsN is vs σ H Q →
    wpAny (model X.prog X.w) X.A (assignInOrder (xs.map fun n => bindName X.env n) us) (fun _ s' => ∃ σ' H', Inv X pins σ' H' s' ∧ Q σ' H') X.xe s
  | [], [], us, vs, σ, s, _, r, I, q => by
    obtain ⟨rfl, q⟩ := q
    cases r
    exact assignInOrder_nil ⟨σ, H, I, q⟩
  | x :: xs, i :: is, us, vs, σ, s, h, r, I, q => by
    simp only [parB, Bool.and_eq_true] at h
    obtain ⟨⟨h1, h2⟩, h3⟩ := h
    obtain ⟨v, vs', rfl, q⟩ := q
    cases r with
    | cons r1 r2 =>
      have hl : X.env.scope.names.lookup x = some .local := by
        have := h2
        revert this
        cases X.env.scope.names.lookup x with
        | none => intro z; cases z
        | some b => cases b <;> intro z <;> first | rfl | (exfalso; revert z; decide)
      exact assignInOrder_cons (wpAny_bindName (store_ok I hN (of_decide_eq_true h1) (.inl hl) r1 (fun s2 I2 => asg_all hN h3 r2 I2 q) (.inr hl)))
  | [], _ :: _, _, _, _, _, h, _, _, _ => by cases h
  | _ :: _, [], _, _, _, _, h, _, _, _ => by cases h
def setTr (is : List Nat) : D → En → Option En
  | .tuple ds, e => setNs is ds.reverse e
  | _, _ => none
theorem vals_rev {vs : List V} {us : List Value} (r : Vals vs us) : Vals vs.reverse us.reverse := by
  induction r with
  | nil => exact .nil
  | cons h t ih =>
    rw [List.reverse_cons, List.reverse_cons]
    exact ih.append (.cons h .nil)
theorem s_par {elts : List Expr} {k : Nat} {tpos : Pos} {e : Expr} {m : M D} {xs : List Str} {is : List Nat} (hc : X.calm = true) (hN : X.N.Nodup) (hp : parB X.N X.env.scope xs.reverse is = true) (hio : ∀ i ∈ is, i ∉ Z.ios) (h : PE X e (tM X.K Z m))
    (hw : swappedStores [.Tuple elts k tpos] e X.env = pure (some xs) := by rfl) (hs : swapsWithSole [.Tuple elts k tpos] e pos.line X.env = pure false := by rfl) : PS X (.Assign [.Tuple elts k tpos] e pos) (tS X.K Z (sAsg (setTr is) m)) := by
  refine ⟨fun pins s σ H D I ⟨en, R, p⟩ => ?_⟩
  refine Assign_Tuple_swapped (names := xs) (thn (h.run pins s σ H (fun v H1 => ∃ a vs, v = .ref a ∧ SqT X.K H1 a vs ∧ vs.length = xs.length ∧ gsN is vs.reverse σ H1 D.nx) I ⟨en, R, ?_⟩) fun v s1 ⟨x, H1, I1, r1, a, vs, ex, hs1, hl, q1⟩ => ?_) hs hw
  · refine pstS_bnd p fun v H1 d e1 hm m1 R1 r1 p1 => ?_
    cases d with
    | tuple ds =>
      obtain ⟨a, vs, rfl, hs1, ra⟩ := rp_tup r1
      cases hst : setTr is (.tuple ds) e1 with
      | none => rw [hst] at p1; exact p1.elim
      | some e' =>
        rw [hst] at p1
        refine ⟨a, vs, rfl, hs1, ?_, ?_⟩
        · have h1 := setNs_len hst
          have h2 : ∀ {xs : List Str} {is : List Nat}, parB X.N X.env.scope xs is = true → xs.length = is.length := fun {xs is} h => by
            induction xs generalizing is with
            | nil => cases is with
              | nil => rfl
              | cons => cases h
            | cons x xs ih => cases is with
              | nil => cases h
              | cons i is =>
                simp only [parB, Bool.and_eq_true] at h
                rw [List.length_cons, List.length_cons, ih h.2]
          have h3 := h2 hp
          rw [List.length_reverse] at h1 h3
          rw [ra.length, h1, h3]
        · exact g_ns R1 ra.reverse hst hio fun σ' R' => p1 σ' H1 .refl R'
    | _ => exact p1.elim
  · subst ex
    cases r1
    obtain ⟨its, rv, ht, hz⟩ := I1.tuple hs1
    have hn : xs.length = its.toArray.size := by rw [List.size_toArray, ← rv.length]; exact hl.symm
    rw [hn]
    refine unpackItems_tuple (I.ok.hd hc) ht fun h' hx' => ?_
    have I3 := I1.kept (h' := h') (t' := s1.toks) fun b o e => hx' b o (Nat.ne_of_lt (Heap.lt_size e)) e
    have := asg_all (X := X) hN hp (vals_rev rv) I3 q1
    rw [List.map_reverse] at this
    rw [List.map_reverse]
    exact thn this fun _ s2 q => q

/-! ### displays of dicts -/
abbrev ZD (Z : ZC) (p : Addr) : ZC := ⟨Z.Hb, Z.ios, Z.adr, (p, .dK []) :: Z.tmp, fun _ _ _ _ => False, Z.pw⟩
def tD (K : PySem.W.Frag) (Z : ZC) (m : M D) : TE := fun σ H Q => ∃ p, tM K (ZD Z p) m σ H Q
theorem e_D {a : Expr} {m : M D} (h : ∀ p, PE X a (tM X.K (ZD Z p) m)) : PE X a (tD X.K Z m) := ⟨fun pins s σ H Q I ⟨p, q⟩ => (h p).run pins s σ H Q I q⟩
def seqP : List (M D × M D) → M (List (D × D))
  | [] => ret []
  | (mk, mv) :: r => bnd mk fun k => bnd mv fun v => bnd (seqP r) fun ps => ret ((k, v) :: ps)
def RpP (K : PySem.W.Frag) (H : Hp) (ps : List (V × V)) (ds : List (D × D)) : Prop := RpA K H (ps.map (·.1)) (ds.map (·.1)) ∧ RpA K H (ps.map (·.2)) (ds.map (·.2))
def rP (K : PySem.W.Frag) : RR (List (V × V)) (List (D × D)) := fun _ _ H ps ds => RpP K H ps ds
abbrev trsOf (K : PySem.W.Frag) (Z : ZC) (ms : List (M D × M D)) : List (TE × TE) := ms.map fun p => (tD K Z p.1, tD K Z p.2)
theorem t_prs {K : PySem.W.Frag} {p : Addr} : ∀ {ms : List (M D × M D)} {σ : SS} {H : Hp} {Q : List (V × V) → Hp → Prop}, tG K (ZD Z p) (rP K) (seqP ms) σ H Q → tPairs (trsOf K Z ms) σ H Q
  | [], σ, H, Q, ⟨e, R, q⟩ => q [] H .refl R ⟨.nil, .nil⟩
  | (mk, mv) :: r, σ, H, Q, ⟨e, R, q⟩ => ⟨p, e, R, pst_bnd q fun v H1 x e1 m1 R1 r1 p1 => ⟨p, e1, R1, pst_bnd p1 fun w H2 y e2 m2 R2 r2 p2 => t_prs ⟨e2, R2, pst_bnd p2 fun ps H3 ds e3 m3 R3 r3 p3 =>
      p3 _ H3 .refl R3 ⟨.cons (Rp.mono (m2.trans m3) r1) r3.1, .cons (Rp.mono m3 r2) r3.2⟩⟩⟩⟩
def putD (ds : List (D × D)) (k v : D) : List (D × D) :=
  if (ds.any fun p => PyData.eqv p.1 k) = true then ds.map (fun p => if PyData.eqv p.1 k = true then (p.1, v) else p) else ds ++ [(k, v)]
theorem any_kd {K : PySem.W.Frag} {H : Hp} {k : Key} : ∀ {kvs : List (Key × V)} {ds : List (D × D)}, RpK K H kvs ds → (ds.any fun p => PyData.eqv p.1 (kD k)) = kvs.any fun kv => decide (kv.1 = k)
  | _, _, .nil => rfl
  | _, _, .cons r t => by rw [List.any_cons, List.any_cons, any_kd t, eqv_key]
theorem RpK.app {K : PySem.W.Frag} {H : Hp} {k : Key} {v : V} {d : D} (rv : Rp K H v d) : ∀ {kvs : List (Key × V)} {ds : List (D × D)}, RpK K H kvs ds → RpK K H (kvs ++ [(k, v)]) (ds ++ [(kD k, d)])
  | _, _, .nil => .cons rv .nil
  | _, _, .cons r t => .cons r (RpK.app rv t)
theorem RpK.chg {K : PySem.W.Frag} {H : Hp} {k : Key} {v : V} {d : D} (rv : Rp K H v d) : ∀ {kvs : List (Key × V)} {ds : List (D × D)}, RpK K H kvs ds → RpK K H (kvs.map (fun kv => if kv.1 = k then (kv.1, v) else kv)) (ds.map (fun p => if PyData.eqv p.1 (kD k) = true then (p.1, d) else p))
  | _, _, .nil => .nil
  | _, _, .cons (k := j) r t => by
    rw [List.map_cons, List.map_cons, eqv_key]
    by_cases e : j = k
    · rw [if_pos e, if_pos (decide_eq_true e)]
      exact .cons rv (RpK.chg rv t)
    · rw [if_neg e, if_neg (by rw [decide_eq_false e]; exact Bool.false_ne_true)]
      exact .cons r (RpK.chg rv t)
theorem RpK.put {K : PySem.W.Frag} {H : Hp} {k : Key} {v : V} {d : D} (rv : Rp K H v d) {kvs : List (Key × V)} {ds : List (D × D)} (r : RpK K H kvs ds) : RpK K H (putK kvs k v) (putD ds (kD k) d) := by
  unfold putK putD
  rw [any_kd r]
  split
  · exact r.chg rv
  · exact r.app rv
def keysD : List (D × D) → Option (List (Key × D))
  | [] => some []
  | (k, v) :: r => (keyD k).bind fun k => (keysD r).map ((k, v) :: ·)
def dspD (ps : List (D × D)) : Option D := (keysD ps).bind fun _ => if ps.length ≤ 15 then some (.dict (ps.foldl (fun acc p => putD acc p.1 p.2) [])) else none
theorem keysD_ok {K : PySem.W.Frag} {H : Hp} : ∀ {ps : List (V × V)} {ds : List (D × D)} {ks : List (Key × D)}, RpP K H ps ds → keysD ds = some ks → ∃ kvs : List (Key × V), ps = kvs.map (fun kv => (kV kv.1, kv.2)) ∧ kvs.length = ds.length ∧
    ∀ (a : List (Key × V)) (b : List (D × D)), RpK K H a b → RpK K H (mergeK a kvs) (ds.foldl (fun acc p => putD acc p.1 p.2) b)
  | [], [], ks, _, h => ⟨[], rfl, rfl, fun a b r => r⟩
  | p :: ps, (k, v) :: ds, ks, r, h => by
    obtain ⟨r1, r2⟩ := r
    cases r1 with
    | cons r1 t1 =>
      cases r2 with
      | cons r2 t2 =>
        simp only [keysD] at h
        obtain ⟨j, h1, h2⟩ := Option.bind_eq_some_iff.mp h
        obtain ⟨ks', h3, rfl⟩ := Option.map_eq_some_iff.mp h2
        obtain ⟨kvs, e1, e2, e3⟩ := keysD_ok (K := K) (H := H) ⟨t1, t2⟩ h3
        have ek := keyD_eq h1
        subst ek
        refine ⟨(j, p.2) :: kvs, ?_, by rw [List.length_cons, List.length_cons, e2], fun a b r => e3 _ _ (r.put r2)⟩
        rw [List.map_cons, ← e1, ← rp_key r1]
  | [], _ :: _, _, r, _ => by obtain ⟨r, _⟩ := r; cases r
  | _ :: _, [], _, r, _ => by obtain ⟨r, _⟩ := r; cases r
def dspM (ms : List (M D × M D)) : M D := bnd (seqP ms) fun ps => lft (dspD ps)
theorem p_nil : PPs X pos [] [] (trsOf X.K Z []) := pps_nil
theorem p_cons {k v : Expr} {ks : List (Option Expr)} {vs : List Expr} {mk mv : M D} {ms : List (M D × M D)} (hk : ∀ p, PE X k (tM X.K (ZD Z p) mk)) (hv : ∀ p, PE X v (tM X.K (ZD Z p) mv)) (hr : PPs X pos ks vs (trsOf X.K Z ms)) : PPs X pos (some k :: ks) (v :: vs) (trsOf X.K Z ((mk, mv) :: ms)) :=
  pps_cons (e_D hk) (e_D hv) hr
theorem rel_inD {K : PySem.W.Frag} {σ : SS} {H : Hp} {e : En} {p : Addr} (R : Rel K Z σ H e) (h : H p = some (.dK [])) (hb : Z.Hb p = none) (hs : ∀ (i : Nat) (d : D), e[i]? = some (.op d) → σ[i]? ≠ some (some (.ref p))) : Rel K (ZD Z p) σ H e :=
  ⟨R.len, R.fz, R.op, R.inj, R.fr, R.io, R.tab, ⟨R.nd.at_, R.nd.inj⟩, fun q hq => by
    rcases List.mem_cons.mp hq with rfl | hq
    · exact ⟨h, trivial, hb, hs⟩
    · exact R.tp q hq⟩
theorem rel_outD {K : PySem.W.Frag} {σ : SS} {H : Hp} {e : En} {p : Addr} (R : Rel K (ZD Z p) σ H e) : Rel K Z σ H e ∧ H p = some (.dK []) ∧ Z.Hb p = none ∧ ∀ (i : Nat) (d : D), e[i]? = some (.op d) → σ[i]? ≠ some (some (.ref p)) := by
  obtain ⟨h1, _, h2, h3⟩ := R.tp (p, .dK []) List.mem_cons_self
  exact ⟨⟨R.len, R.fz, R.op, R.inj, R.fr, R.io, R.tab, ⟨R.nd.at_, R.nd.inj⟩, fun q hq => R.tp q (List.mem_cons_of_mem _ hq)⟩, h1, h2, h3⟩
theorem seqP_len : ∀ (ms : List (M D × M D)) (e : En) (xs : List (D × D)) (e' : En), seqP ms e = .ok xs e' → xs.length = ms.length
  | [], e, xs, e', h => by cases h; rfl
  | (mk, mv) :: ms, e, xs, e', h => by
    simp only [seqP, bnd] at h
    split at h
    · split at h
      · split at h
        · rename_i h2
          cases h
          rw [List.length_cons, List.length_cons, seqP_len ms _ _ _ h2]
        · cases h
        · cases h
      · cases h
      · cases h
    · cases h
    · cases h
/-- where no exception comes -/
def noX {α : Type} (m : M α) : M α := fun e => match m e with
  | .exc _ _ => .no
  | o => o
theorem e_dsp {keys : List (Option Expr)} {values : List Expr} {ms : List (M D × M D)} (h : PPs X pos keys values (trsOf X.K Z ms)) (hall : keys.all (·.isSome) = true := by rfl) (hl : keys.length = values.length := by rfl) (h0 : keys ≠ [] := by exact List.cons_ne_nil _ _) (h15 : keys.length ≤ 15 := by decide) :
    PE X (.Dict keys values pos) (tO X.K Z (noX (dspM ms))) := PE_weak (pe_disp h hall hl h0 h15) fun σ H Q ⟨e, R, q⟩ p hp => by
  obtain ⟨hb, hs, ht⟩ := R.fresh hp
  have R1 : Rel X.K (ZD Z p) σ (upd H p (.dK [])) e := rel_inD (R.same (same_upd hp)) upd_same hb hs
  refine t_prs (p := p) ⟨e, R1, ?_⟩
  unfold noX dspM bnd at q
  cases hm : seqP ms e with
  | no => simp only [hm] at q; exact q.elim
  | exc x e1 => simp only [hm] at q; exact q.elim
  | ok ds e1 =>
    simp only [hm] at q
    intro ps H2 m2 R2 r2
    obtain ⟨R3, e3, hb3, hs3⟩ := rel_outD R2
    refine ⟨e3, ?_⟩
    cases hd : dspD ds with
    | none => rw [hd] at q; exact q.elim
    | some d =>
      rw [hd] at q
      unfold dspD at hd
      obtain ⟨ks, h1, h2⟩ := Option.bind_eq_some_iff.mp hd
      split at h2
      · rename_i hlen
        cases h2
        obtain ⟨kvs, ek, el, er⟩ := keysD_ok r2 h1
        refine ⟨kvs, ek, by omega, ?_⟩
        have ht3 : ∀ t ∈ Z.tmp, t.1 ≠ p := ht
        have mo : Mono H2 (upd H2 p (.dK (mergeK [] kvs))) := mono_upd e3 trivial
        have m3 : Mono H (upd H2 p (.dK (mergeK [] kvs))) := ((Mono.same (same_upd hp)).trans m2).trans mo
        refine q (.ref p) _ m3 (R3.other e3 trivial hb3 hs3 ht3) ⟨p, rfl, ⟨_, upd_same, ?_⟩, hb3, hs3, ht3⟩
        exact RpK.mono mo (er [] [] .nil)
      · cases h2
theorem e_dsp0 : PE X (.Dict [] [] pos) (tO X.K Z (ret (.dict []))) := PE_weak pe_dnewK fun σ H Q ⟨e, R, q⟩ p hp => q _ _ (.same (same_upd hp)) (R.same (same_upd hp)) ⟨p, rfl, ⟨[], upd_same, .nil⟩, R.fresh hp⟩
end
end ZZ

namespace ZZ
open PySem PySem.Spec PyProof.Rows L2
variable [TabC]

/-! ### calls with keywords alone -/
section
variable {X : Cx} {Z : ZC} {pos : Pos}
theorem kk_nil : PK X [] (tMs X.K Z (seqM [])) := ⟨fun p pins s σ H Q I ⟨e, R, q⟩ => pk_nil.run p pins s σ H Q I (q [] H .refl R .nil)⟩
theorem kk_cons {nm : Option Str} {a : Expr} {kp : Pos} {kws : List Keyword} {m : M D} {ms : List (M D)} (h : PE X a (tM X.K Z m)) (k : PK X kws (tMs X.K Z (seqM ms))) : PK X (⟨nm, a, kp⟩ :: kws) (tMs X.K Z (seqM (m :: ms))) :=
  ⟨fun p pins s σ H Q I ⟨e, R, q⟩ => (pk_cons h k).run p pins s σ H Q I ⟨e, R, pst_bnd q fun v H1 d e1 m1 R1 r1 p1 => ⟨e1, R1, pst_bnd p1 fun w H2 y e2 m2 R2 r2 p2 => p2 _ H2 .refl R2 (.cons (Rp.mono m2 r1) r2)⟩⟩⟩
def pickD (pm : List Nat) (xs : List D) : List D := pm.map fun i => xs.getD i .none
def callK (F : List D → FO) (pm : List Nat) (ms : List (M D)) : M D := bnd (seqM ms) fun xs e => match F (pickD pm xs) with
  | .ok d [] => .ok d e
  | _ => .no
/-- how f(k = v, ..) binds -/
def KwB (fd : FuncData) (ps ks : List Str) (pm : List Nat) : Prop := ∀ ws : List Value, ws.length = ks.length → bindArgs fd ⟨[], ks.zip ws⟩ = pure (ps.zip (pm.map fun i => ws.getD i .none))
theorem pick_rp {K : PySem.W.Frag} {H : Hp} {vs : List V} {ds : List D} (r : RpA K H vs ds) (i : Nat) : Rp K H (vs.getD i .non) (ds.getD i .none) := by
  rw [List.getD_eq_getElem?_getD, List.getD_eq_getElem?_getD]
  cases h : ds[i]? with
  | none =>
    have : vs[i]? = none := by
      rw [List.getElem?_eq_none_iff] at h ⊢
      rw [r.length]; exact h
    rw [this]; exact .non
  | some d =>
    obtain ⟨v, hv, q⟩ := r.get i d h
    rw [hv]; exact q
theorem pick_v {vs : List V} {us : List Value} (r : Vals vs us) : ∀ i : Nat, RelV (vs.getD i .non) (us.getD i .none) := by
  induction r with
  | nil => intro i; exact rfl
  | cons h t ih =>
    intro i
    cases i with
    | zero => exact h
    | succ i => exact ih i
theorem arg_false {K : PySem.W.Frag} {H : Hp} : ∀ {n : Nat} {vs : List V} {ds : List D}, RpA K H vs ds → vs.length = n → ArgR K H (List.replicate n false) vs ds
  | _, _, _, .nil, h => by cases h; trivial
  | _, _, _, .cons r t, h => by cases h; exact ⟨r, arg_false t rfl⟩
theorem pos_false : ∀ (n k : Nat), posT (List.replicate n false) k = []
  | 0, _ => rfl
  | n + 1, k => pos_false n (k + 1)
theorem e_callK {f : Addr} {fd : FuncData} {ps ks : List Str} {pm : List Nat} {k : Nat} {F : List D → FO} {x : Str} {p : Pos} {kws : List Keyword} {ms : List (M D)} {mask : List Bool} (G : FnG X.prog X.w X.K X.mg X.base CX0 k f fd ps (spF X.K mask false F)) (hr : Room k X.A) (hgd : X.A.guards = some []) (hg : Gl X x) (hm : X.mg x = some (.ref f)) (hk : PySem.W.keepIn X.K (.ref f) = true) (hb : KwB fd ps ks pm)
    (hkw : PK X kws (tMs X.K Z (seqM ms))) (hmk : mask = List.replicate pm.length false := by rfl) (hn : ms.length = ks.length := by rfl) (hpm : pm.length = ps.length := by rfl) (hall : (backToKw pos (keywordEach kws X.env)).all (·.1.isSome) = true := by rfl) (hks : (backToKw pos (keywordEach kws X.env)).filterMap (·.1) = ks := by rfl) (hdb : (x == ("__debug__" : Str)) = false := by decide)
    (hpl : ((backTo pos (starEach [] X.env)).any (·.1) || (backToKw pos (keywordEach kws X.env)).any (·.1.isNone)) = false := by rfl) : PE X (.Call (.Name x p) [] kws pos) (tM X.K Z (callK F pm ms)) := by
  refine ⟨fun pins s σ H Q I ⟨e, R, q⟩ => ?_⟩
  refine wpAny_Call_Name_kw (ld_glob I hg hm ?_ hdb)
  refine PySem.W.callWith_KW0 (h₀ := X.base) I.ok.mod.kin hk hall (thn (hkw.run pos pins s σ H (fun vs H1 => vs.length = ks.length ∧ spF X.K mask false F (pm.map fun i => vs.getD i .non) H1 Q E0) I ⟨e, R, ?_⟩) fun ws s2 ⟨zs, H2, I2, rz, hl, q2⟩ => ⟨I2.kIn, ?_⟩) hpl
  · refine pst_bndE q fun vs H1 ds e1 he m1 R1 r1 p1 => ?_
    have hlen : vs.length = ks.length := by rw [r1.length, seqM_len _ _ _ _ he, hn]
    refine ⟨hlen, R1.tab, pickD pm ds, ?_, ?_, ?_⟩
    · subst hmk
      refine arg_false ?_ (by rw [List.length_map])
      unfold pickD
      have : ∀ l : List Nat, RpA X.K H1 (l.map fun i => vs.getD i .non) (l.map fun i => ds.getD i .none) := fun l => by
        induction l with
        | nil => exact .nil
        | cons i l ih => exact .cons (pick_rp r1 i) ih
      exact this pm
    · subst hmk; rw [pos_false]; exact List.nodup_nil
    · cases hF : F (pickD pm ds) with
      | no => rw [hF] at p1; exact p1.elim
      | exc x outs => rw [hF] at p1; exact p1.elim
      | ok d outs =>
        rw [hF] at p1
        cases outs with
        | cons => exact p1.elim
        | nil =>
          intro v H' mo fr _ rr
          subst hmk
          rw [pos_false] at fr
          refine p1 v H' mo ?_ rr
          refine rel_after (S := []) (A := []) R1 mo (by simpa using fr) rfl (fun _ _ => rfl) (fun j hj => absurd hj (by simp)) fun a ha => absurd ha (by simp)
  · rw [hks]
    have hw : ws.length = ks.length := by rw [← rz.length, hl]
    have rr : Vals (pm.map fun i => zs.getD i .non) (pm.map fun i => ws.getD i .none) := by
      have : ∀ l : List Nat, Vals (l.map fun i => zs.getD i .non) (l.map fun i => ws.getD i .none) := fun l => by
        induction l with
        | nil => exact .nil
        | cons i l ih => exact .cons (pick_v rz i) ih
      exact this pm
    refine wpAny_call (codeAny_mono (runG G hr hgd (.of_eq (hb ws hw)) pass0 I2 rr q2) fun r s' hq => ?_)
    cases r with
    | error e => exact hq
    | ok fl => cases fl <;> first | exact hq | exact hq.elim
end

end ZZ

namespace ZZ
open PySem PySem.Spec PyProof.Rows L2
variable [TabC]

/-! ### what is walked, of any kind -/
section
variable {X : Cx} {Z : ZC} {pos p : Pos}
theorem it_str {tg : Expr} {pins : List (Addr × Obj)} {σ : SS} {H : Hp} {s : Shared} {R : It → Hp → Prop} {x : Str} {t : Tok} (I : Inv X pins σ H s) (q : R (Its x) H) : wpAny (model X.prog X.w) X.A (pyIter (.str x t)) (PIE X pins σ tg R) X.xe s := by
  have e : ∀ (nm : String) (h : nm = "str_ascii_iterator" ∨ nm = "str_iterator"), (s.heap.push { cls := .type nm, data := .fields #[.str x t, .int 0 0] }).get? s.heap.objs.size = some { cls := .type nm, data := .fields #[.str x t, .int 0 0] } := fun nm h => Heap.get?_push_size _ rfl
  cases ha : x.cps.all (· < 128)
  · refine wpAny_pyIter_wide ha (pi_one (tk := s.toks) I _ (turn_str _ x t "str_iterator" (.inr rfl))
      ⟨_, e _ (.inr rfl), rfl, rfl⟩ q)
  · refine wpAny_pyIter_ascii ha (pi_one (tk := s.toks) I _ (turn_str _ x t "str_ascii_iterator" (.inl rfl))
      ⟨_, e _ (.inl rfl), rfl, rfl⟩ q)
def itemsA : D → Option (List D)
  | .list ds => some ds
  | .tuple ds => some ds
  | .str z => some (chrs z)
  | _ => none
def walkA (m : M D) : M (List D) := bnd m fun d => lft (itemsA d)
theorem i_any {tg e : Expr} {m : M D} (h : PE X e (tM X.K Z m)) : PI X tg e (tI X.K Z (walkA m)) := by
  refine ⟨fun pins s σ H R I ⟨en, Rl, q⟩ => ?_⟩
  refine thn (h.run pins s σ H (fun v H1 => (∃ a xs, v = .ref a ∧ SqL X.K H1 a xs ∧ R (Itl X.K a) H1) ∨ (∃ a xs, v = .ref a ∧ SqT X.K H1 a xs ∧ R (Itt X.K a) H1) ∨ ∃ z, v = .str z ∧ R (Its z) H1) I ⟨en, Rl, tI_bnd q fun v H1 d e1 ds m1 R1 r1 hd k => ?_⟩) fun v s1 ⟨x, H1, I1, r1, q1⟩ => ?_
  · cases d with
    | list es =>
      cases hd
      cases r1 with
      | lst hl ra => exact .inl ⟨_, _, rfl, hl.sq, k _ H1 .refl R1 (itd_list hl ra)⟩
    | tuple es =>
      cases hd
      cases r1 with
      | tup hl ra => exact .inr (.inl ⟨_, _, rfl, hl, k _ H1 .refl R1 (itd_tup hl ra)⟩)
    | str z => cases hd; exact .inr (.inr ⟨z, rp_str r1, k _ H1 .refl R1 itd_str⟩)
    | _ => cases hd
  · rcases q1 with ⟨a, xs, rfl, hl, q1⟩ | ⟨a, xs, rfl, hl, q1⟩ | ⟨z, rfl, q1⟩
    · cases r1; exact it_list I1 hl q1
    · cases r1; exact it_tup I1 hl q1
    · obtain ⟨t, rfl⟩ := r1; exact it_str I1 q1
end

/-! ### a def that stands in the module -/
structure CalF (P : Program) (w : World) (K : PySem.W.Frag) (mg : Str → Option Value) (base : Heap) (k : Nat) (x : Str) (st : Stmt) (ps : List Str) (mask : List Bool) (opn : Bool) (F : List D → FO) : Prop where
  ex : ∃ f fd, FnG P w K mg base CX0 k f fd ps (spF K mask opn F) ∧ mg x = some (.ref f) ∧ PySem.W.keepIn K (.ref f) = true ∧ Binds K fd ps [] ∧
    ∃ (kV doc pm : Value) (an : Option Addr) (cdv ct : Value), fd = PySem.W.fnOf x x (defArgs st) (defBody st) (defScope st) .none kV doc pm an cdv ct
def KwS (x : Str) (st : Stmt) (ps ks : List Str) (pm : List Nat) : Prop := ∀ (kV doc pm' : Value) (an : Option Addr) (cdv ct : Value), KwB (PySem.W.fnOf x x (defArgs st) (defBody st) (defScope st) .none kV doc pm' an cdv ct) ps ks pm
section
variable {X : Cx} {Z : ZC} {pos p : Pos} {k j : Nat} {x : Str} {st : Stmt} {ps ks : List Str} {mask : List Bool} {F : List D → FO} {a : Expr} {es : List Expr} {as : List Arg}
theorem d_call (C : CalF X.prog X.w X.K X.mg X.base k x st ps mask false F) (hr : Room j X.A) (hgd : X.A.guards = some []) (ha : PA X (a :: es) (tA X.K Z as)) (hj : k ≤ j := by decide) (hg : Gl X x := by rfl) (hmk : maskA as = mask := by rfl) (nd : (slA as).Nodup := by decide) (hdb : (x == ("__debug__" : Str)) = false := by decide) (he : starEach (a :: es) X.env = (false, eval a X.env) :: starEach es X.env := by rfl) (hpl : (backTo pos (starEach es X.env)).any (·.1) = false := by rfl) :
    PE X (.Call (.Name x p) (a :: es) [] pos) (tM X.K Z (callM F as)) := by
  obtain ⟨f, fd, G, m, kp, b, _⟩ := C.ex
  exact e_call G (hr.mono hj) hgd hg m kp b ha hmk nd hdb he hpl
theorem d_callO (C : CalF X.prog X.w X.K X.mg X.base k x st ps mask true F) (hr : Room j X.A) (hgd : X.A.guards = some []) (ha : PA X (a :: es) (tA X.K Z as)) (hj : k ≤ j := by decide) (hg : Gl X x := by rfl) (hmk : maskA as = mask := by rfl) (nd : (slA as).Nodup := by decide) (hdb : (x == ("__debug__" : Str)) = false := by decide) (he : starEach (a :: es) X.env = (false, eval a X.env) :: starEach es X.env := by rfl) (hpl : (backTo pos (starEach es X.env)).any (·.1) = false := by rfl) :
    PE X (.Call (.Name x p) (a :: es) [] pos) (tO X.K Z (callM F as)) := by
  obtain ⟨f, fd, G, m, kp, b, _⟩ := C.ex
  exact e_callO G (hr.mono hj) hgd hg m kp b ha hmk nd hdb he hpl
theorem d_callK {kws : List Keyword} {ms : List (M D)} {pm : List Nat} (C : CalF X.prog X.w X.K X.mg X.base k x st ps mask false F) (hr : Room j X.A) (hgd : X.A.guards = some []) (hb : KwS x st ps ks pm) (hkw : PK X kws (tMs X.K Z (seqM ms))) (hj : k ≤ j := by decide) (hg : Gl X x := by rfl) (hmk : mask = List.replicate pm.length false := by rfl) (hn : ms.length = ks.length := by rfl) (hpm : pm.length = ps.length := by rfl) (hall : (backToKw pos (keywordEach kws X.env)).all (·.1.isSome) = true := by rfl) (hks : (backToKw pos (keywordEach kws X.env)).filterMap (·.1) = ks := by rfl) (hdb : (x == ("__debug__" : Str)) = false := by decide)
    (hpl : ((backTo pos (starEach [] X.env)).any (·.1) || (backToKw pos (keywordEach kws X.env)).any (·.1.isNone)) = false := by rfl) : PE X (.Call (.Name x p) [] kws pos) (tM X.K Z (callK F pm ms)) := by
  obtain ⟨f, fd, G, m, kp, b, kV, doc, pm', an, cdv, ct, rfl⟩ := C.ex
  exact e_callK G (hr.mono hj) hgd hg m kp (hb kV doc pm' an cdv ct) hkw hmk hn hpm hall hks hdb hpl
end
theorem hu66 {k : Nat} {A : Around} (h : Room k A) : A.units + 66 < cLine := by have := h.un; omega
theorem hu64 {k : Nat} {A : Around} (h : Room k A) : A.units + 64 < cLine := by have := h.un; omega
theorem cal0 {P : Program} {w : World} {K : PySem.W.Frag} {mg : Str → Option Value} {base : Heap} {k : Nat} {x : Str} {st : Stmt} {N ps : List Str} {mask : List Bool} {n : Nat} {m : M Fl} {f : Addr} {kV doc pm cdv ct : Value} {an : Option Addr} (F : Fun K x x st f (PySem.W.fnOf x x (defArgs st) (defBody st) (defScope st) .none kV doc pm an cdv ct)) (hm : mg x = some (.ref f)) (S : FnScope N ps (defScope st)) (hps : ps.length = mask.length) (hN : N.length = mask.length + n)
    (hb : ∀ (kV doc pm : Value) (an : Option Addr) (cdv ct : Value) (us : List Value), us.length = ps.length → bindArgs (PySem.W.fnOf x x (defArgs st) (defBody st) (defScope st) .none kV doc pm an cdv ct) ⟨us, []⟩ = pure (ps.zip us))
    (body : ∀ (cdv : Value) (A : Around) (outer : List Env) (s : Shared) (H : Hp) (E : XK) (Z : ZC), Z.ios = posT mask 0 ∧ Z.pw = some (P, w) → Room k (A.deeper (envOfC x (defScope st) s.heap.objs.size f cdv)) → (A.deeper (envOfC x (defScope st) s.heap.objs.size f cdv)).guards = some [] →
      PSs (cxOf CX0 P w K mg base N x (defScope st) f cdv A outer s H E).nox (defBody st) (tS K Z m)) : CalF P w K mg base (k + 1) x st ps mask false (mkF mask n m) :=
  ⟨f, _, fnG0 F S hps hN (fun cdv _ => body cdv), hm, F.kp, F.binds hb, kV, doc, pm, an, cdv, ct, rfl⟩
theorem cal0o {P : Program} {w : World} {K : PySem.W.Frag} {mg : Str → Option Value} {base : Heap} {k : Nat} {x : Str} {st : Stmt} {N ps : List Str} {mask : List Bool} {n : Nat} {m : M Fl} {f : Addr} {kV doc pm cdv ct : Value} {an : Option Addr} (F : Fun K x x st f (PySem.W.fnOf x x (defArgs st) (defBody st) (defScope st) .none kV doc pm an cdv ct)) (hm : mg x = some (.ref f)) (S : FnScope N ps (defScope st)) (hps : ps.length = mask.length) (hN : N.length = mask.length + n)
    (hb : ∀ (kV doc pm : Value) (an : Option Addr) (cdv ct : Value) (us : List Value), us.length = ps.length → bindArgs (PySem.W.fnOf x x (defArgs st) (defBody st) (defScope st) .none kV doc pm an cdv ct) ⟨us, []⟩ = pure (ps.zip us))
    (body : ∀ (cdv : Value) (A : Around) (outer : List Env) (s : Shared) (H : Hp) (E : XK) (Z : ZC), Z.ios = posT mask 0 ∧ Z.pw = some (P, w) → Room k (A.deeper (envOfC x (defScope st) s.heap.objs.size f cdv)) → (A.deeper (envOfC x (defScope st) s.heap.objs.size f cdv)).guards = some [] →
      PSs (cxOf CX0 P w K mg base N x (defScope st) f cdv A outer s H E).nox (defBody st) (tS K Z m)) : CalF P w K mg base (k + 1) x st ps mask true (mkFo mask n m) :=
  ⟨f, _, fnG0o F S hps hN (fun cdv _ => body cdv), hm, F.kp, F.binds hb, kV, doc, pm, an, cdv, ct, rfl⟩
theorem cal0C {P : Program} {w : World} {K : PySem.W.Frag} {mg : Str → Option Value} {base : Heap} {k : Nat} {x : Str} {st : Stmt} {N ps : List Str} {mask : List Bool} {n : Nat} {m : M Fl} {f : Addr} {kV doc pm cdv ct : Value} {an : Option Addr} (F : Fun K x x st f (PySem.W.fnOf x x (defArgs st) (defBody st) (defScope st) .none kV doc pm an cdv ct)) (hm : mg x = some (.ref f)) (S : FnScope N ps (defScope st)) (hps : ps.length = mask.length) (hN : N.length = mask.length + n)
    (hb : ∀ (kV doc pm : Value) (an : Option Addr) (cdv ct : Value) (us : List Value), us.length = ps.length → bindArgs (PySem.W.fnOf x x (defArgs st) (defBody st) (defScope st) .none kV doc pm an cdv ct) ⟨us, []⟩ = pure (ps.zip us))
    (body : ∀ (cdv : Value) (_ : CodeAt K f cdv) (A : Around) (outer : List Env) (s : Shared) (H : Hp) (E : XK) (Z : ZC), Z.ios = posT mask 0 ∧ Z.pw = some (P, w) → Room k (A.deeper (envOfC x (defScope st) s.heap.objs.size f cdv)) → (A.deeper (envOfC x (defScope st) s.heap.objs.size f cdv)).guards = some [] →
      PSs (cxOf CX0 P w K mg base N x (defScope st) f cdv A outer s H E).nox (defBody st) (tS K Z m)) : CalF P w K mg base (k + 1) x st ps mask false (mkF mask n m) :=
  ⟨f, _, fnG0 F S hps hN body, hm, F.kp, F.binds hb, kV, doc, pm, an, cdv, ct, rfl⟩
theorem cal0oC {P : Program} {w : World} {K : PySem.W.Frag} {mg : Str → Option Value} {base : Heap} {k : Nat} {x : Str} {st : Stmt} {N ps : List Str} {mask : List Bool} {n : Nat} {m : M Fl} {f : Addr} {kV doc pm cdv ct : Value} {an : Option Addr} (F : Fun K x x st f (PySem.W.fnOf x x (defArgs st) (defBody st) (defScope st) .none kV doc pm an cdv ct)) (hm : mg x = some (.ref f)) (S : FnScope N ps (defScope st)) (hps : ps.length = mask.length) (hN : N.length = mask.length + n)
    (hb : ∀ (kV doc pm : Value) (an : Option Addr) (cdv ct : Value) (us : List Value), us.length = ps.length → bindArgs (PySem.W.fnOf x x (defArgs st) (defBody st) (defScope st) .none kV doc pm an cdv ct) ⟨us, []⟩ = pure (ps.zip us))
    (body : ∀ (cdv : Value) (_ : CodeAt K f cdv) (A : Around) (outer : List Env) (s : Shared) (H : Hp) (E : XK) (Z : ZC), Z.ios = posT mask 0 ∧ Z.pw = some (P, w) → Room k (A.deeper (envOfC x (defScope st) s.heap.objs.size f cdv)) → (A.deeper (envOfC x (defScope st) s.heap.objs.size f cdv)).guards = some [] →
      PSs (cxOf CX0 P w K mg base N x (defScope st) f cdv A outer s H E).nox (defBody st) (tS K Z m)) : CalF P w K mg base (k + 1) x st ps mask true (mkFo mask n m) :=
  ⟨f, _, fnG0o F S hps hN body, hm, F.kp, F.binds hb, kV, doc, pm, an, cdv, ct, rfl⟩
theorem pNever {M : Model} {A : Around} {env : Env} : PassesOwn M A env (fun _ _ => False) := .never
end ZZ

namespace ZZ
open PySem PySem.Spec PyProof.Rows L2
variable [TabC]

/-! ### the end of a law -/
theorem lawG {P : Program} {w : World} {K : PySem.W.Frag} {mg mb : Str → Option Value} {k : Nat} {fa a : Addr} {x y : Str} {st : Stmt} {FL : List D → FO} (hnT : TabC.T = []) {t : Shared} {vs : List Value} {ns : List Int} {outs : List D}
    (kin : K.In t.heap) (gns : t.heap.Ns mainGlobals mg) (bns : t.heap.Ns builtinsNs mb) (boot : ∀ y : Str, y ≠ "__name__" → mb y = bootBuiltins y) (lim : t.heap.NoLimit) (gen : t.gens = #[])
    (at_ : t.heap.get? a = some { cls := .type "list", data := .seq vs.toArray }) (hints : IntsAre vs ns) (few : ns.length ≤ sizeLine) (room : Room k callerA)
    (F : ∀ base : Heap, K.In base → base.Ns mainGlobals mg → CalF P w K mg base k y st [x] [false] false FL) (hfa : mg y = some (.ref fa))
    (good : FL [.list (ns.map PyData.int)] = .ok (.bool true) outs) :
    codeAny (model P w) callerA (.call (.ref fa) ⟨[.ref a], []⟩) (fun r t' => r = .ok (.ret (.bool true)) ∧ OldK t.heap t'.heap ∧ t'.os = t.os ∧ AllBare t'.gens) t := by
  have rv := vals_ints hints
  have lv := hints.length
  have rpi : ∀ H : Hp, RpA K H (ns.map V.int) (ns.map PyData.int) := fun H => by
    induction ns generalizing vs with
    | nil => exact .nil
    | cons i is ih =>
      refine .cons (.int i) ?_
      have : ∀ l : List Int, RpA K H (l.map V.int) (l.map PyData.int) := fun l => by
        induction l with
        | nil => exact .nil
        | cons j l ih => exact .cons (.int j) ih
      exact this is
  have main : ∀ H : Hp, FzL K H a (ns.map V.int) → HOk P w H t.heap → (∀ b, H b = none ∨ b = a ∧ ∃ o ys, H b = some (.frz o (.lst ys))) → (H a ≠ none → K.lookup a = none) →
      codeAny (model P w) callerA (.call (.ref fa) ⟨[.ref a], []⟩) (fun r t' => r = .ok (.ret (.bool true)) ∧ OldK t.heap t'.heap ∧ t'.os = t.os ∧ AllBare t'.gens) t := by
    intro H hz ok only nk
    have dictN : ∀ {b : Addr} {o : Obj} {es : Array DictEntry} {ep : Nat}, t.heap.get? b = some o → o.data = .dict es ep → H b = none := fun {b o es ep} e d => by
      rcases only b with q | ⟨rfl, _⟩
      · exact q
      · rw [at_] at e
        injection e with e
        rw [← e] at d
        cases d
    have nsB : ∀ {b : Addr} {m : Str → Option Value}, t.heap.Ns b m → (hidT t.heap H).Ns b m := by
      rintro b m ⟨o, es, ep, e, d, r⟩
      exact ⟨o, es, ep, hidT_get e (dictN e d), d, r⟩
    have kinB : K.In (hidT t.heap H) := by
      intro b o e
      refine hidT_get (kin b o e) ?_
      rcases only b with q | ⟨rfl, ob, ys, q⟩
      · exact q
      · have z := nk (by rw [q]; exact Option.some_ne_none _)
        rw [z] at e
        cases e
    obtain ⟨mc, l1, l2⟩ := lim
    have env : Env0 P w K mg (hidT t.heap H) callerA [] t H :=
      ⟨rfl, ⟨kinB, nsB gns, ⟨mb, nsB bns, boot⟩, ⟨mc, nsB l1, l2⟩⟩, fun b o e => of_hidT e, Nat.le_of_eq (hidT_size _ _), trivial, fun b hb => (List.not_mem_nil (show b ∈ ([] : List Addr) from hb)).elim, ok, .of_eq gen⟩
    have keepsp : spF K [false] false FL [.ref a] H (fun v _ => v = .bl true) (fun _ _ _ => False) := by
      refine ⟨fun p hp => by rw [hnT] at hp; exact absurd hp List.not_mem_nil, [.list (ns.map PyData.int)], ⟨.lst hz (rpi H), trivial⟩, List.nodup_nil, ?_⟩
      rw [good]
      intro v H' _ _ _ r
      exact rp_bl r
    obtain ⟨f', fd, G, hm, _, bd, _⟩ := (F _ kinB (nsB gns)).ex
    rw [hfa] at hm
    cases hm
    refine codeAny_mono (G.rn callerA [] t H ⟨[.ref a], []⟩ [.ref a] [.ref a] _ _ room rfl env (bd t [.ref a] kin rfl) (.cons rfl .nil) keepsp) fun r t' h => ?_
    cases r with
    | error e => exact (show False from h).elim
    | ok fl =>
      cases fl with
      | ret u =>
        obtain ⟨v, H', os, bare, un, ok', rel, q⟩ := h
        have e1 : v = .bl true := q
        subst e1
        have e2 : u = Value.bool true := rel
        subst e2
        refine ⟨rfl, OldK.of_keep fun b o e => ?_, os, bare⟩
        rcases only b with q | ⟨rfl, ob, ys, q⟩
        · exact un.keep b o e q (by intro z; exact absurd (show b ∈ ([] : List Addr) from z) List.not_mem_nil) (by simp)
        · obtain ⟨g1, _⟩ := ok b _ q
          obtain ⟨g2, _⟩ := ok' b _ (un.frzs b ob _ q)
          rw [e] at g1
          injection g1 with g1
          rw [g1]; exact g2
      | next => exact False.elim h
      | brk => exact False.elim h
      | cont => exact False.elim h
  by_cases hk : K.lookup a = none
  · refine main (fun b => if b = a then some (.frz { cls := .type "list", data := .seq vs.toArray } (.lst (ns.map V.int))) else none) (.inl ⟨_, if_pos rfl⟩) (fun b u z => ?_) (fun b => ?_) fun _ => hk
    · by_cases e : b = a
      · subst e
        have z1 := (if_pos rfl).symm.trans z
        cases z1
        exact ⟨at_, by rw [List.length_map]; exact few, vs, _, rv, at_⟩
      · have z1 := (if_neg e).symm.trans z; cases z1
    · by_cases e : b = a
      · exact .inr ⟨e, _, _, if_pos e⟩
      · exact .inl (if_neg e)
  · obtain ⟨o, ho⟩ := Option.ne_none_iff_exists'.mp hk
    have e := kin a o ho
    rw [at_] at e
    injection e with e
    subst e
    refine main (fun _ => none) (.inr ⟨vs.toArray, _, ho, by rw [List.size_toArray, lv]; exact few, by simpa using rv⟩) (fun b u z => by cases z) (fun b => .inl rfl) fun z => absurd rfl z
theorem walkG {l : PySem.W.OpenLaw} {n k : Nat} {q : Program} {loose : List Str} {XP : (Str → Option Value) → Heap → Prop} {YP : World → Heap → Prop} {d : DefRec} {K : Params → PySem.W.Frag} {x : Str} {st : Stmt} {FL : List D → FO}
    (hnT : TabC.T = []) (hn : l.most = some n) (hn2 : n ≤ sizeLine) (hdf : d.params.defaults = []) (hr : Room k callerA) (hY : ∀ (w : World) (h : Heap), YP w h → (K w.params).In h)
    (F : ∀ (w : World) (mg : Str → Option Value) (fa : Addr) (h : Heap), YP w h → (K w.params).In h → h.Ns mainGlobals mg → mg d.name = some (.ref fa) →
      ∀ base : Heap, (K w.params).In base → base.Ns mainGlobals mg → CalF l.prog w (K w.params) mg base k d.name st [x] [false] false FL)
    (good : ∀ ns : List Int, ns.length ≤ n → (∀ z ∈ ns, Builtin.Int.intBits z ≤ 1048576) → ∃ outs, FL [.list (ns.map PyData.int)] = .ok (.bool true) outs) :
    PySem.W.WalkO q loose XP YP l.row.toRowW d [] (fun f vs => PySem.call f vs) := by
  refine Att.attach_callB hn hdf fun w s₀ s1 mg mb fa o pm cd doc a vs ns G Y _ _ _ hmg hobj hints hlen hbits hg => ?_
  obtain ⟨outs, ho⟩ := good ns hlen hbits
  exact lawG hnT (hY w _ Y) G.T.g G.T.b G.T.builtins G.T.nolimit hg hobj hints (Nat.le_trans hlen hn2) hr (F w mg fa _ Y (hY w _ Y) G.T.g hmg) hmg ho
end ZZ

namespace ZZ
open PySem PySem.Spec PyProof.Rows L2
variable [TabC]

/-! ### a, b = x, [] : some of the things new and open -/
inductive PI1 where
  | v (m : M D) | o (m : M D)
def evP : List PI1 → M (List D)
  | [] => ret []
  | .v m :: r => bnd m fun d => bnd (evP r) fun ds => ret (d :: ds)
  | .o m :: r => bnd m fun d => bnd (noX (evP r)) fun ds => ret (d :: ds)
def opP : List PI1 → List Bool
  | [] => []
  | .v _ :: r => false :: opP r
  | .o _ :: r => true :: opP r
abbrev ZX (Z : ZC) (a : Addr) (u : HO) : ZC := ⟨Z.Hb, Z.ios, Z.adr, (a, u) :: Z.tmp, fun _ _ _ _ => False, Z.pw⟩
/-- values behind the whole tuple: the open ones new, each another one -/
def PRel (K : PySem.W.Frag) (Z : ZC) (σ : SS) (e : En) (H : Hp) : List Bool → List V → List D → Prop
  | [], [], [] => True
  | false :: bs, v :: vs, d :: ds => Rp K H v d ∧ PRel K Z σ e H bs vs ds
  | true :: bs, v :: vs, d :: ds => (∃ a u, v = .ref a ∧ H a = some u ∧ MutZ (some u) ∧ Opn K H a d ∧ Z.Hb a = none ∧ (∀ (i : Nat) (f : D), e[i]? = some (.op f) → σ[i]? ≠ some (some (.ref a))) ∧ (∀ p ∈ Z.tmp, p.1 ≠ a) ∧ PRel K (ZX Z a u) σ e H bs vs ds)
  | _, _, _ => False
def rPr (K : PySem.W.Frag) (Z : ZC) (bs : List Bool) : RR (List V) (List D) := fun σ e H vs ds => PRel K Z σ e H bs vs ds
abbrev tPr (K : PySem.W.Frag) (Z : ZC) (ps : List PI1) : TA := tG K Z (rPr K Z (opP ps)) (evP ps)
section
variable {X : Cx} {Z : ZC} {pos : Pos}
theorem q_nil : PA X [] (tPr X.K Z []) := PA_weak pa_nil fun σ H Q ⟨e, R, p⟩ => p [] H .refl R trivial
theorem q_v {a : Expr} {es : List Expr} {m : M D} {ps : List PI1} (h : PE X a (tM X.K Z m)) (k : PA X es (tPr X.K Z ps)) (hs : starEach (a :: es) X.env = (false, eval a X.env) :: starEach es X.env := by rfl) : PA X (a :: es) (tPr X.K Z (.v m :: ps)) :=
  PA_weak (pa_cons h k hs) fun σ H Q ⟨e, R, p⟩ => ⟨e, R, pst_bnd p fun v H1 d e1 m1 R1 r1 p1 => ⟨e1, R1, pst_bnd p1 fun w H2 y e2 m2 R2 r2 p2 => p2 _ H2 .refl R2 ⟨Rp.mono m2 r1, r2⟩⟩⟩
theorem rel_inX {K : PySem.W.Frag} {σ : SS} {H : Hp} {e : En} {a : Addr} {u : HO} (R : Rel K Z σ H e) (h : H a = some u) (mu : MutZ (some u)) (hb : Z.Hb a = none) (hs : ∀ (i : Nat) (d : D), e[i]? = some (.op d) → σ[i]? ≠ some (some (.ref a))) : Rel K (ZX Z a u) σ H e :=
  ⟨R.len, R.fz, R.op, R.inj, R.fr, R.io, R.tab, ⟨R.nd.at_, R.nd.inj⟩, fun q hq => by
    rcases List.mem_cons.mp hq with e1 | hq
    · rw [e1]; exact ⟨h, mu, hb, hs⟩
    · exact R.tp q hq⟩
theorem rel_outX {K : PySem.W.Frag} {σ : SS} {H : Hp} {e : En} {a : Addr} {u : HO} (R : Rel K (ZX Z a u) σ H e) : Rel K Z σ H e ∧ H a = some u ∧ Z.Hb a = none ∧ ∀ (i : Nat) (d : D), e[i]? = some (.op d) → σ[i]? ≠ some (some (.ref a)) := by
  obtain ⟨h1, _, h2, h3⟩ := R.tp (a, u) List.mem_cons_self
  exact ⟨⟨R.len, R.fz, R.op, R.inj, R.fr, R.io, R.tab, ⟨R.nd.at_, R.nd.inj⟩, fun q hq => R.tp q (List.mem_cons_of_mem _ hq)⟩, h1, h2, h3⟩
def tPx (K : PySem.W.Frag) (Z : ZC) (ps : List PI1) : TA := fun σ H Q => ∃ a u, tPr K (ZX Z a u) ps σ H Q
theorem q_o {a : Expr} {es : List Expr} {m : M D} {ps : List PI1} (h : PE X a (tO X.K Z m)) (k : ∀ c u, PA X es (tPr X.K (ZX Z c u) ps)) (hs : starEach (a :: es) X.env = (false, eval a X.env) :: starEach es X.env := by rfl) : PA X (a :: es) (tPr X.K Z (.o m :: ps)) :=
  PA_weak (pa_cons h (⟨fun pos pins s σ H Q I ⟨c, u, q⟩ => (k c u).run pos pins s σ H Q I q⟩ : PA X es (tPx X.K Z ps)) hs) fun σ H Q ⟨e, R, p⟩ => ⟨e, R, pst_bnd p fun v H1 d e1 m1 R1 r1 p1 => by
    obtain ⟨c, rfl, o, hb, hsl, ht⟩ := r1
    obtain ⟨u, hu, mu⟩ := o.there
    refine ⟨c, u, e1, rel_inX R1 hu mu hb hsl, ?_⟩
    unfold bnd noX at p1
    cases hm : evP ps e1 with
    | no => simp only [hm] at p1; exact p1.elim
    | exc x e2 => simp only [hm] at p1; exact p1.elim
    | ok ds e2 =>
      simp only [hm] at p1
      intro ws H2 m2 R2 r2
      obtain ⟨R3, h3, hb3, hs3⟩ := rel_outX R2
      exact p1 _ H2 m2 R3 ⟨c, u, rfl, h3, mu, o.mono m2 (h3.trans hu.symm), hb3, hs3, ht, r2⟩⟩
end
structure It1 where
  b : Bool
  v : V
  d : D
def ItOk (K : PySem.W.Frag) (Z : ZC) (σ : SS) (e : En) (H : Hp) (t : It1) : Prop :=
  (t.b = false → Rp K H t.v t.d) ∧ (t.b = true → ∃ a, t.v = .ref a ∧ Opn K H a t.d ∧ Z.Hb a = none ∧ (∀ (i : Nat) (f : D), e[i]? = some (.op f) → σ[i]? ≠ some (some (.ref a))) ∧ ∀ p ∈ Z.tmp, p.1 ≠ a)
def Apart (x y : It1) : Prop := x.b = true → y.b = true → x.v ≠ y.v
theorem prel_flat {K : PySem.W.Frag} {σ : SS} {e : En} {H : Hp} : ∀ {bs : List Bool} {vs : List V} {ds : List D} {Z : ZC}, PRel K Z σ e H bs vs ds →
    ∃ ts : List It1, ts.map (·.b) = bs ∧ ts.map (·.v) = vs ∧ ts.map (·.d) = ds ∧ (∀ t ∈ ts, ItOk K Z σ e H t) ∧ ts.Pairwise Apart
  | [], [], [], Z, _ => ⟨[], rfl, rfl, rfl, fun t h => (List.not_mem_nil h).elim, .nil⟩
  | false :: bs, v :: vs, d :: ds, Z, h => by
    obtain ⟨ts, h1, h2, h3, h4, h5⟩ := prel_flat h.2
    refine ⟨⟨false, v, d⟩ :: ts, by rw [List.map_cons, h1], by rw [List.map_cons, h2], by rw [List.map_cons, h3], fun t ht => ?_, List.pairwise_cons.mpr ⟨fun y _ z => (by cases z), h5⟩⟩
    rcases List.mem_cons.mp ht with rfl | ht
    · exact ⟨fun _ => h.1, fun z => (by cases z)⟩
    · exact h4 t ht
  | true :: bs, v :: vs, d :: ds, Z, h => by
    obtain ⟨a, u, hv, hu, mu, o, hb, hs, htm, h⟩ := h
    obtain ⟨ts, h1, h2, h3, h4, h5⟩ := prel_flat h
    refine ⟨⟨true, v, d⟩ :: ts, by rw [List.map_cons, h1], by rw [List.map_cons, h2], by rw [List.map_cons, h3], fun t ht => ?_, List.pairwise_cons.mpr ⟨fun y hy _ z e1 => ?_, h5⟩⟩
    · rcases List.mem_cons.mp ht with rfl | ht
      · exact ⟨fun z => (by cases z), fun _ => ⟨a, hv, o, hb, hs, htm⟩⟩
      · refine ⟨(h4 t ht).1, fun z => ?_⟩
        obtain ⟨c, q1, q2, q3, q4, q5⟩ := (h4 t ht).2 z
        exact ⟨c, q1, q2, q3, q4, fun p hp => q5 p (List.mem_cons_of_mem _ hp)⟩
    · obtain ⟨c, q1, q2, q3, q4, q5⟩ := (h4 y hy).2 z
      have e2 : v = y.v := e1
      rw [hv, q1] at e2
      cases e2
      exact q5 (a, u) List.mem_cons_self rfl
  | [], _ :: _, _, _, h => h.elim
  | [], [], _ :: _, _, h => h.elim
  | false :: _, [], _, _, h => h.elim
  | false :: _, _ :: _, [], _, h => h.elim
  | true :: _, [], _, _, h => h.elim
  | true :: _, _ :: _, [], _, h => h.elim
def putP : List Nat → List Bool → List D → En → Option En
  | [], [], [], e => some e
  | i :: is, b :: bs, d :: ds, e => ((if b = true then setO i d e else setN i d e)).bind (putP is bs ds)
  | _, _, _, _ => none
theorem st_all {K : PySem.W.Frag} {Z : ZC} {H : Hp} {Q : SS → Hp → Prop} : ∀ {is : List Nat} {ts : List It1} {σ : SS} {e e' : En}, Rel K Z σ H e → (∀ t ∈ ts, ItOk K Z σ e H t) → ts.Pairwise Apart → putP is (ts.map (·.b)) (ts.map (·.d)) e = some e' → (∀ i ∈ is, i ∉ Z.ios) → (∀ σ', Rel K Z σ' H e' → Q σ' H) → gsN is (ts.map (·.v)) σ H Q
  | [], [], σ, e, e', R, _, _, h, _, q => by cases h; exact ⟨rfl, q σ R⟩
  | i :: is, t :: ts, σ, e, e', R, ok, ap, h, hi, q => by
    simp only [List.map_cons, putP] at h
    obtain ⟨e1, h1, h2⟩ := Option.bind_eq_some_iff.mp h
    rw [List.pairwise_cons] at ap
    have hio := hi i List.mem_cons_self
    refine ⟨t.v, _, rfl, ?_⟩
    cases hb : t.b with
    | false =>
      rw [hb] at h1
      simp only [Bool.false_eq_true, if_false] at h1
      have R1 := rel_setN R ((ok t List.mem_cons_self).1 hb) h1 hio
      refine st_all R1 (fun y hy => ⟨(ok y (List.mem_cons_of_mem _ hy)).1, fun z => ?_⟩) ap.2 h2 (fun j hj => hi j (List.mem_cons_of_mem _ hj)) q
      obtain ⟨c, q1, q2, q3, q4, q5⟩ := (ok y (List.mem_cons_of_mem _ hy)).2 z
      refine ⟨c, q1, q2, q3, fun j f hj => ?_, q5⟩
      unfold setN at h1
      split at h1
      · rename_i s hs
        cases h1
        have hlt := lt_of_get hs
        by_cases e2 : i = j
        · subst e2; rw [List.getElem?_set_self hlt] at hj; cases hj
        · rw [List.getElem?_set_ne e2] at hj ⊢
          exact q4 j f hj
      · cases h1
    | true =>
      rw [hb] at h1
      simp only [if_true] at h1
      obtain ⟨a, a1, a2, a3, a4, a5⟩ := (ok t List.mem_cons_self).2 hb
      have R1 := rel_setO R ⟨a, a1, a2, a3, a4, a5⟩ h1 hio
      refine st_all R1 (fun y hy => ⟨(ok y (List.mem_cons_of_mem _ hy)).1, fun z => ?_⟩) ap.2 h2 (fun j hj => hi j (List.mem_cons_of_mem _ hj)) q
      obtain ⟨c, q1, q2, q3, q4, q5⟩ := (ok y (List.mem_cons_of_mem _ hy)).2 z
      refine ⟨c, q1, q2, q3, fun j f hj => ?_, q5⟩
      unfold setO at h1
      split at h1
      · rename_i s hs
        cases h1
        have hlt := lt_of_get hs
        by_cases e2 : i = j
        · subst e2
          rw [List.getElem?_set_self (by rw [← R.len]; exact hlt)]
          intro e3
          have e4 : t.v = .ref c := Option.some.inj (Option.some.inj e3)
          exact ap.1 y hy hb z (e4.trans q1.symm)
        · rw [List.getElem?_set_ne e2] at hj ⊢
          exact q4 j f hj
      · cases h1
  | [], _ :: _, _, _, _, _, _, _, h, _, _ => by cases h
  | _ :: _, [], _, _, _, _, _, _, h, _, _ => by cases h
theorem putP_len : ∀ {is : List Nat} {bs : List Bool} {ds : List D} {e e' : En}, putP is bs ds e = some e' → ds.length = is.length
  | [], [], [], _, _, _ => rfl
  | i :: is, b :: bs, d :: ds, e, e', h => by
    simp only [putP] at h
    obtain ⟨e1, _, h2⟩ := Option.bind_eq_some_iff.mp h
    rw [List.length_cons, List.length_cons, putP_len h2]
  | [], _ :: _, _, _, _, h => by cases h
  | [], [], _ :: _, _, _, h => by cases h
  | _ :: _, [], _, _, _, h => by cases h
  | _ :: _, _ :: _, [], _, _, h => by cases h
def sPar (is : List Nat) (ps : List PI1) : M Fl := bnd (evP ps) fun ds e => match putP is (opP ps).reverse ds.reverse e with
  | some e' => .ok .nx e'
  | none => .no
theorem s_parO {X : Cx} {Z : ZC} {pos tpos p2 : Pos} {elts es : List Expr} {k k2 : Nat} {ps : List PI1} {xs : List Str} {is : List Nat} (hc : X.calm = true) (hN : X.N.Nodup) (hp : parB X.N X.env.scope xs.reverse is = true) (hio : ∀ i ∈ is, i ∉ Z.ios) (h : PA X es (tPr X.K Z ps)) (hlen : is.length = xs.length := by rfl) (hfew : xs.length ≤ 1000 := by decide)
    (hw : swappedStores [.Tuple elts k tpos] (.Tuple es k2 p2) X.env = pure (some xs) := by rfl) (hs : swapsWithSole [.Tuple elts k tpos] (.Tuple es k2 p2) pos.line X.env = pure false := by rfl) : PS X (.Assign [.Tuple elts k tpos] (.Tuple es k2 p2) pos) (tS X.K Z (sPar is ps)) := by
  refine ⟨fun pins s σ H D I ⟨en, R, p⟩ => ?_⟩
  refine Assign_Tuple_swapped (names := xs) (Tuple_ (thn (h.run _ pins s σ H (fun vs H1 => vs.length = xs.length ∧ gsN is vs.reverse σ H1 D.nx) I ⟨en, R, ?_⟩) fun us s1 ⟨vs, H1, I1, r1, hl, q1⟩ => ?_)) hs hw
  · refine pstS_bnd p fun vs H1 ds e1 _ m1 R1 r1 p1 => ?_
    cases hst : putP is (opP ps).reverse ds.reverse e1 with
    | none => rw [hst] at p1; exact p1.elim
    | some e' =>
      rw [hst] at p1
      obtain ⟨ts, h1, h2, h3, h4, h5⟩ := prel_flat r1
      have hl := putP_len hst
      refine ⟨?_, ?_⟩
      · rw [← h2, List.length_map, ← hlen, ← hl, List.length_reverse, ← h3, List.length_map]
      · rw [← h1, ← h3, ← List.map_reverse, ← List.map_reverse] at hst
        rw [← h2, ← List.map_reverse]
        refine st_all R1 (fun t ht => h4 t (List.mem_reverse.mp ht)) ?_ hst hio fun σ' R' => p1 σ' H1 .refl R'
        rw [List.pairwise_reverse]
        exact h5.imp fun {a b} hab z1 z2 e => hab z2 z1 e.symm
  · refine wpAny_newObj_type ?_ (by show us.length ≤ sizeLine; rw [← r1.length, hl, sizeLine_eq]; omega)
    have I2 : Inv X pins σ H1 { s1 with heap := s1.heap.push { cls := .type "tuple", data := .seq us.toArray } } := I1.kept (t' := s1.toks) fun b o e => Heap.get?_push_of_some _ e
    have hn : xs.length = us.toArray.size := by rw [List.size_toArray, ← r1.length]; exact hl.symm
    rw [hn]
    refine unpackItems_tuple (items := us.toArray) (I.ok.hd hc) (IsTup.new s1.heap _) fun h' hx' => ?_
    have I3 := I2.kept (h' := h') (t' := s1.toks) fun b o e => hx' b o (Nat.ne_of_lt (Heap.lt_size e)) e
    have := asg_all (X := X) hN hp (vals_rev r1) I3 q1
    exact thn this fun _ s2 q => q
/-- the same where the stores go from the left -/
def sParN (is : List Nat) (ps : List PI1) : M Fl := bnd (evP ps) fun ds e => match putP is (opP ps) ds e with
  | some e' => .ok .nx e'
  | none => .no
theorem ItOk.same {K : PySem.W.Frag} {Z : ZC} {σ : SS} {e : En} {H H' : Hp} {t : It1} (h : ItOk K Z σ e H t) (s : Same H H') : ItOk K Z σ e H' t :=
  ⟨fun z => (h.1 z).mono (.same s), fun z => by
    obtain ⟨a, q1, q2, q3⟩ := h.2 z
    obtain ⟨u, hu, _⟩ := q2.there
    exact ⟨a, q1, q2.mono (.same s) ((s a u hu).trans hu.symm), q3⟩⟩
theorem s_parN {X : Cx} {Z : ZC} {pos tpos p2 : Pos} {elts es : List Expr} {k k2 : Nat} {ps : List PI1} {is : List Nat} (hc : X.calm = true) (hg : PGs X elts (gsN is)) (hio : ∀ i ∈ is, i ∉ Z.ios) (h : PA X es (tPr X.K Z ps)) (hfew : is.length ≤ 1000 := by decide) (hn : (assignEach elts X.env).length = is.length := by rfl) (hst : (assignEach elts X.env).findIdx? (·.1) = none := by rfl)
    (hs : swapsWithSole [.Tuple elts k tpos] (.Tuple es k2 p2) pos.line X.env = pure false := by rfl) (hw : swappedStores [.Tuple elts k tpos] (.Tuple es k2 p2) X.env = pure none := by rfl) (h1 : (assignEach [.Tuple elts k tpos] X.env).map (·.2) = [assign (.Tuple elts k tpos) X.env] := by rfl) : PS X (.Assign [.Tuple elts k tpos] (.Tuple es k2 p2) pos) (tS X.K Z (sParN is ps)) := by
  refine PS_weak (ps_asg (pe_tup h) (pg_tup hc hg hn hst) hs hw h1) fun D σ H ⟨e, R, p⟩ => ⟨e, R, pstS_bnd p fun vs H1 ds e1 _ m1 R1 r1 p1 => ?_⟩
  cases hput : putP is (opP ps) ds e1 with
  | none => rw [hput] at p1; exact p1.elim
  | some e' =>
    rw [hput] at p1
    obtain ⟨ts, t1, t2, t3, t4, t5⟩ := prel_flat r1
    have hl := putP_len hput
    have hlv : vs.length = is.length := by rw [← t2, List.length_map, ← hl, ← t3, List.length_map]
    refine ⟨by rw [hlv, sizeLine_eq]; omega, fun q hq => ⟨q, vs, rfl, SqT.of upd_same, hlv, ?_⟩⟩
    rw [← t1, ← t3] at hput
    rw [← t2]
    exact st_all (R1.same (same_upd hq)) (fun t ht => (t4 t ht).same (same_upd hq)) t5 hput hio fun σ' R' => p1 σ' _ (.same (same_upd hq)) R'
end ZZ

namespace ZZ
open PySem PySem.Spec PyProof.Rows L2
variable [TabC]

/-! ### f([..], ..): the first thing new and open, handed over for good -/
theorem rel_frm {K : PySem.W.Frag} {Z : ZC} {σ : SS} {H H' : Hp} {e : En} {c : Addr} (R : Rel K Z σ H e) (m : Mono H H') (fr : Frm H H' [c]) (hb : Z.Hb c = none) (hs : ∀ (i : Nat) (d : D), e[i]? = some (.op d) → σ[i]? ≠ some (some (.ref c))) (ht : ∀ p ∈ Z.tmp, p.1 ≠ c) (hc : ∃ u, H' c = some u) (hx : ∀ φ, H c ≠ some (.ext φ)) : Rel K Z σ H' e where
  len := R.len
  fz := fun i d h => let ⟨v, h1, h2⟩ := R.fz i d h; ⟨v, h1, h2.mono m⟩
  op := fun i d h => by
    obtain ⟨a, h1, h2, h3⟩ := R.op i d h
    obtain ⟨u, hu, mu⟩ := h2.there
    have hne : a ∉ [c] := by
      intro z
      rw [List.mem_singleton] at z
      subst z
      exact hs i d h h1
    exact ⟨a, h1, h2.mono m (((fr a u hu hne).mut mu).trans hu.symm), h3⟩
  inj := R.inj
  fr := fun b o h n => by
    refine (R.fr b o h n).trans fun x hx => fr b x hx ?_
    intro z
    rw [List.mem_singleton] at z
    subst z
    rw [hb] at h; cases h
  io := fun i hi => by
    obtain ⟨⟨u, hu⟩, h⟩ := R.io i hi
    refine ⟨?_, h⟩
    by_cases z : Z.adr i = c
    · rw [z]; exact hc
    · exact (fr _ u hu (by rw [List.mem_singleton]; exact z)).is
  tab := fun p hp => m.tabs p hp (R.tab p hp)
  nd := R.nd.keep m fun b φ _ q => by
    rcases fr b _ q (fun z => by rw [List.mem_singleton] at z; subst z; exact hx φ q) with k | ⟨_, _, k, _⟩
    · exact k
    · cases k
  tp := fun p hp => by
    obtain ⟨h1, h2⟩ := R.tp p hp
    exact ⟨(fr _ _ h1 (by rw [List.mem_singleton]; exact ht p hp)).mut h2.1, h2⟩
def callN (F : List D → FO) (m : M D) (ms : List (M D)) : M D := bnd m fun d => bnd (noX (seqM ms)) fun ds e => match F (d :: ds) with
  | .ok v [_] => .ok v e
  | _ => .no
def tMx (K : PySem.W.Frag) (Z : ZC) (ms : List (M D)) : TA := fun σ H Q => ∃ a u, tMs K (ZX Z a u) (seqM ms) σ H Q
section
variable {X : Cx} {Z : ZC} {pos p : Pos}
theorem d_callN {k j : Nat} {x : Str} {st : Stmt} {ps : List Str} {mask : List Bool} {F : List D → FO} {a : Expr} {es : List Expr} {m : M D} {ms : List (M D)} (C : CalF X.prog X.w X.K X.mg X.base k x st ps mask false F) (hr : Room j X.A) (hgd : X.A.guards = some []) (ha : PE X a (tO X.K Z m)) (hes : ∀ c u, PA X es (tMs X.K (ZX Z c u) (seqM ms))) (hj : k ≤ j := by decide) (hg : Gl X x := by rfl) (hmk : mask = true :: List.replicate ms.length false := by rfl) (hdb : (x == ("__debug__" : Str)) = false := by decide) (he : starEach (a :: es) X.env = (false, eval a X.env) :: starEach es X.env := by rfl) (hpl : (backTo pos (starEach es X.env)).any (·.1) = false := by rfl) :
    PE X (.Call (.Name x p) (a :: es) [] pos) (tM X.K Z (callN F m ms)) := by
  obtain ⟨f, fd, G, hm, kp, b, _⟩ := C.ex
  refine PE_weak (call_v G (hr.mono hj) hgd hg hm kp b (pa_cons ha (⟨fun pos pins s σ H Q I ⟨c, u, q⟩ => (hes c u).run pos pins s σ H Q I q⟩ : PA X es (tMx X.K Z ms)) he) hdb he hpl) fun σ H Q ⟨e, R, q⟩ => ⟨e, R, pst_bnd q fun v H1 d e1 m1 R1 r1 p1 => ?_⟩
  obtain ⟨c, rfl, o, hb, hsl, ht⟩ := r1
  obtain ⟨u, hu, mu⟩ := o.there
  refine ⟨c, u, e1, rel_inX R1 hu mu hb hsl, ?_⟩
  unfold bnd noX at p1
  cases hms : seqM ms e1 with
  | no => simp only [hms] at p1; exact p1.elim
  | exc x e2 => simp only [hms] at p1; exact p1.elim
  | ok ds e2 =>
    simp only [hms] at p1
    intro ws H2 m2 R2 r2
    obtain ⟨R3, h3, hb3, hs3⟩ := rel_outX R2
    have hlen : ws.length = ms.length := by rw [r2.length, seqM_len _ _ _ _ hms]
    have hpos : posT mask 0 = [0] := by rw [hmk]; show 0 :: posT _ 1 = [0]; rw [pos_false]
    refine ⟨R2.tab, d :: ds, ?_, ?_, ?_⟩
    · rw [hmk]
      exact ⟨⟨c, rfl, o.mono m2 (h3.trans hu.symm)⟩, arg_false r2 hlen⟩
    · rw [hpos]; simp
    · cases hF : F (d :: ds) with
      | no => rw [hF] at p1; exact p1.elim
      | exc y outs => rw [hF] at p1; exact p1.elim
      | ok w outs =>
        rw [hF] at p1
        cases outs with
        | nil => exact p1.elim
        | cons o1 outs =>
          cases outs with
          | cons => exact p1.elim
          | nil =>
            intro v' H' mo fr out rr
            rw [hpos] at fr out
            have fr' : Frm H2 H' [c] := fr
            have oc : Opn X.K H' c o1 := out.1
            obtain ⟨u', hu', _⟩ := oc.there
            exact p1 v' H' (m2.trans mo) (rel_frm R3 mo fr' hb3 hs3 ht ⟨u', hu'⟩ fun φ q => by rw [h3] at q; cases q; exact mu) rr
end
end ZZ

namespace ZZ
open PySem PySem.Spec PyProof.Rows L2
variable [TabC]

/-! ### chains of any length -/
def chG : List ((D → D → Option D) × M D) → D → M D
  | [], _ => fun _ => .no
  | [(op, m)], x => bnd m fun y => lft (op x y)
  | (op, m) :: q :: r, x => bnd m fun y => bnd (lft (op x y)) fun z => match z with
    | .bool true => chG (q :: r) y
    | .bool false => ret (.bool false)
    | _ => fun _ => .no
def chnG (a : M D) (l : List ((D → D → Option D) × M D)) : M D := bnd a (chG l)
section
variable {X : Cx} {Z : ZC} {pos : Pos}
/-- what stands behind the first value of a chain, from the left -/
structure PCh (X : Cx) (Z : ZC) (ops : List CmpOp) (rs : List Expr) (l : List ((D → D → Option D) × M D)) : Prop where
  v : ∀ (pos : Pos) (pins : List (Addr × Obj)) (s : Shared) (σ : SS) (H : Hp) (e : En) (x : V) (d : D) (u : Value) (Q : VK), Inv X pins σ H s → RelV x u → Rp X.K H x d → Rel X.K Z σ H e → pst X.K Z (rV X.K) σ H Q (chG l d e) →
    wpAny (model X.prog X.w) X.A (compareChain pos u ops (evalEach rs X.env)) (EP X pins σ Q) X.xe s
  t : ∀ (pos : Pos) (pins : List (Addr × Obj)) (s : Shared) (σ : SS) (H : Hp) (e : En) (x : V) (d : D) (u : Value) (Q : Bool → Hp → Prop), Inv X pins σ H s → RelV x u → Rp X.K H x d → Rel X.K Z σ H e → pst X.K Z (rV X.K) σ H (fun v H1 => ∃ k, v = .bl k ∧ Q k H1) (chG l d e) →
    wpAny (model X.prog X.w) X.A (testChain pos u ops (evalEach rs X.env)) (TP X pins σ Q) X.xe s
theorem ch_1 {o : CmpOp} {r : R2} {op : D → D → Option D} {b : Expr} {m : M D} (ho : OpR X (compareOp o) r) (h : BinQ X.K r op) (hb : PE X b (tM X.K Z m)) : PCh X Z [o] [b] [(op, m)] := by
  refine ⟨fun pos pins s σ H e x d u Q I rx rd R p => ?_, fun pos pins s σ H e x d u Q I rx rd R p => ?_⟩
  · refine chain_last (thn (hb.run pins s σ H (fun y H1 => r x y H1 Q) I ⟨e, R, pst_bnd p fun w H1 y e1 m1 R1 r1 p1 => ?_⟩) fun w s1 ⟨y, H1, I1, ry, q1⟩ => ho pins s1 σ H1 x y u w Q I1 rx ry q1)
    obtain ⟨d', hd, q⟩ := pst_lft p1
    exact h x w d y d' H1 Q (.inl (rd.mono m1)) (.inl r1) hd fun u' ru => q u' H1 .refl R1 ru
  · refine test_last (thn (hb.run pins s σ H (fun y H1 => r x y H1 fun v H2 => ∃ k, v = .bl k ∧ Q k H2) I ⟨e, R, pst_bnd p fun w H1 y e1 m1 R1 r1 p1 => ?_⟩) fun w s1 ⟨y, H1, I1, ry, q1⟩ => thn (ho pins s1 σ H1 x y u w _ I1 rx ry q1) fun c s2 ⟨z, H2, I2, rz, k, ez, q2⟩ => ?_)
    · obtain ⟨d', hd, q⟩ := pst_lft p1
      exact h x w d y d' H1 _ (.inl (rd.mono m1)) (.inl r1) hd fun u' ru => q u' H1 .refl R1 ru
    · subst ez
      cases rz
      exact wpAny_truthy_bool ⟨H2, I2, q2⟩
theorem ch_s {o o' : CmpOp} {os : List CmpOp} {r : R2} {op : D → D → Option D} {b b' : Expr} {bs : List Expr} {m : M D} {q : (D → D → Option D) × M D} {l : List ((D → D → Option D) × M D)} (ho : OpR X (compareOp o) r) (h : BinQ X.K r op) (hb : PE X b (tM X.K Z m)) (k : PCh X Z (o' :: os) (b' :: bs) (q :: l)) : PCh X Z (o :: o' :: os) (b :: b' :: bs) ((op, m) :: q :: l) := by
  have key : ∀ {σ : SS} {H : Hp} {e : En} {d y : D} {Q : VK}, pst X.K Z (rV X.K) σ H Q (bnd (lft (op d y)) (fun z => match z with
      | .bool true => chG (q :: l) y
      | .bool false => ret (.bool false)
      | _ => fun _ => .no) e) → ∃ c, op d y = some (.bool c) ∧ pst X.K Z (rV X.K) σ H Q ((if c = true then chG (q :: l) y else ret (.bool false)) e) := fun {σ H e d y Q} p => by
    unfold bnd at p
    cases hz : op d y with
    | none => rw [hz] at p; exact p.elim
    | some z =>
      rw [hz] at p
      cases z with
      | bool c => cases c <;> exact ⟨_, rfl, p⟩
      | _ => exact p.elim
  refine ⟨fun pos pins s σ H e x d u Q I rx rd R p => ?_, fun pos pins s σ H e x d u Q I rx rd R p => ?_⟩
  · refine chain_link (thn (hb.run pins s σ H (fun y H1 => ∃ e1 dy, Rel X.K Z σ H1 e1 ∧ Rp X.K H1 y dy ∧ r x y H1 fun v H2 => H2 = H1 ∧ ∃ c, v = .bl c ∧ pst X.K Z (rV X.K) σ H1 Q ((if c = true then chG (q :: l) dy else ret (.bool false)) e1)) I ⟨e, R, pst_bnd p fun w H1 y e1 m1 R1 r1 p1 => ?_⟩) fun w s1 ⟨y, H1, I1, ry, e1, dy, R1, rdy, q1⟩ => thn (ho pins s1 σ H1 x y u w _ I1 rx ry q1) fun cv s2 ⟨z, H2, I2, rz, e2, c, ez, q2⟩ => ?_)
    · obtain ⟨c, hc, p2⟩ := key p1
      exact ⟨e1, y, R1, r1, h x w d y _ H1 _ (.inl (rd.mono m1)) (.inl r1) hc fun u' ru => ⟨rfl, c, rp_bl ru, p2⟩⟩
    · subst e2 ez
      cases rz
      refine wpAny_truthy_bool ?_
      cases c with
      | false =>
        rw [if_neg Bool.false_ne_true] at q2
        exact ite_ff ⟨.bl false, H2, I2, rfl, q2 _ H2 .refl R1 (.bl _)⟩
      | true =>
        rw [if_pos rfl] at q2
        exact ite_tt (k.v pos pins s2 σ H2 e1 y dy w Q I2 ry rdy R1 q2)
  · refine test_link (thn (hb.run pins s σ H (fun y H1 => ∃ e1 dy, Rel X.K Z σ H1 e1 ∧ Rp X.K H1 y dy ∧ r x y H1 fun v H2 => H2 = H1 ∧ ∃ c, v = .bl c ∧ pst X.K Z (rV X.K) σ H1 (fun v H3 => ∃ k, v = .bl k ∧ Q k H3) ((if c = true then chG (q :: l) dy else ret (.bool false)) e1)) I ⟨e, R, pst_bnd p fun w H1 y e1 m1 R1 r1 p1 => ?_⟩) fun w s1 ⟨y, H1, I1, ry, e1, dy, R1, rdy, q1⟩ => thn (ho pins s1 σ H1 x y u w _ I1 rx ry q1) fun cv s2 ⟨z, H2, I2, rz, e2, c, ez, q2⟩ => ?_)
    · obtain ⟨c, hc, p2⟩ := key p1
      exact ⟨e1, y, R1, r1, h x w d y _ H1 _ (.inl (rd.mono m1)) (.inl r1) hc fun u' ru => ⟨rfl, c, rp_bl ru, p2⟩⟩
    · subst e2 ez
      cases rz
      refine wpAny_truthy_bool ?_
      cases c with
      | false =>
        rw [if_neg Bool.false_ne_true] at q2
        obtain ⟨k', e', q'⟩ := q2 _ H2 .refl R1 (.bl _)
        cases e'
        exact ite_ff ⟨H2, I2, q'⟩
      | true =>
        rw [if_pos rfl] at q2
        exact ite_tt (k.t pos pins s2 σ H2 e1 y dy w Q I2 ry rdy R1 q2)
theorem e_chG {a : Expr} {o o' : CmpOp} {os : List CmpOp} {b b' : Expr} {bs : List Expr} {ma : M D} {l : List ((D → D → Option D) × M D)} (ha : PE X a (tM X.K Z ma)) (k : PCh X Z (o :: o' :: os) (b :: b' :: bs) l) (hm : lastMarks (o :: o' :: os) (b :: b' :: bs) = false := by with_unfolding_all rfl) : PE X (.Compare a (o :: o' :: os) (b :: b' :: bs) pos) (tM X.K Z (chnG ma l)) := by
  refine ⟨fun pins s σ H Q I ⟨e, R, p⟩ => ?_⟩
  refine Compare_chain (thn (ha.run pins s σ H (fun x H1 => ∃ e1 d, Rel X.K Z σ H1 e1 ∧ Rp X.K H1 x d ∧ pst X.K Z (rV X.K) σ H1 Q (chG l d e1)) I ⟨e, R, pst_bnd p fun w H1 y e1 m1 R1 r1 p1 => ⟨e1, y, R1, r1, p1⟩⟩) fun v s1 ⟨x, H1, I1, r1, e1, d, R1, rd, q1⟩ => k.v pos pins s1 σ H1 e1 x d v Q I1 r1 rd R1 q1) hm
theorem c_chG {a : Expr} {o o' : CmpOp} {os : List CmpOp} {b b' : Expr} {bs : List Expr} {ma : M D} {l : List ((D → D → Option D) × M D)} (ha : PE X a (tM X.K Z ma)) (k : PCh X Z (o :: o' :: os) (b :: b' :: bs) l) (hm : lastMarks (o :: o' :: os) (b :: b' :: bs) = false := by with_unfolding_all rfl) : PT X (.Compare a (o :: o' :: os) (b :: b' :: bs) pos) (tT X.K Z (boolOf (chnG ma l))) := by
  refine ⟨fun pins s σ H Q I q => ?_⟩
  obtain ⟨e, R, p⟩ := t_test (K := X.K) (Z := Z) (m := chnG ma l) (fun _ _ _ z => z) σ H Q q
  refine isTrue_chain (thn (ha.run pins s σ H (fun x H1 => ∃ e1 d, Rel X.K Z σ H1 e1 ∧ Rp X.K H1 x d ∧ pst X.K Z (rV X.K) σ H1 (fun v H2 => ∃ k, v = .bl k ∧ Q k H2) (chG l d e1)) I ⟨e, R, pst_bnd p fun w H1 y e1 m1 R1 r1 p1 => ⟨e1, y, R1, r1, p1⟩⟩) fun v s1 ⟨x, H1, I1, r1, e1, d, R1, rd, q1⟩ => k.t pos pins s1 σ H1 e1 x d v Q I1 r1 rd R1 q1) hm
end
end ZZ

namespace ZZ
open PySem PySem.Spec PyProof.Rows L2
variable [TabC]

/-! ### zip of two or three lists or tuples -/
/-- (tuple, the iterator, its source) -/
abbrev ZQ := Bool × Addr × Addr
def ItrAt (h : Heap) (b : Bool) (it l : Addr) (k : Nat) : Prop := match b with | true => h.IsTupleIter it l k | false => h.IsListIter it l k
def SrcAt (h : Heap) (b : Bool) (l : Addr) (xs : Array Value) : Prop := match b with | true => h.IsTuple l xs | false => h.IsList l xs
theorem ItrAt.at {h h' : Heap} {b : Bool} {it l : Addr} {k : Nat} (x : ItrAt h b it l k) (e : ∀ o, h.get? it = some o → h'.get? it = some o) : ItrAt h' b it l k := by
  cases b with
  | true => exact Heap.IsTupleIter.at x e
  | false => exact Heap.IsListIter.at x e
theorem SrcAt.at {h h' : Heap} {b : Bool} {l : Addr} {xs : Array Value} (x : SrcAt h b l xs) (e : ∀ o, h.get? l = some o → h'.get? l = some o) : SrcAt h' b l xs := by
  cases b with
  | true => exact Heap.IsTuple.at x e
  | false => obtain ⟨o, ho, r⟩ := x; exact ⟨o, e _ ho, r⟩
theorem ItrAt.obj {h : Heap} {b : Bool} {it l : Addr} {k : Nat} (x : ItrAt h b it l k) : ∃ o, h.get? it = some o ∧ ∀ v, o.data ≠ .cell v := by
  cases b with
  | true => obtain ⟨o, ho, _, d⟩ := x; exact ⟨o, ho, fun v q => by rw [d] at q; cases q⟩
  | false => obtain ⟨o, ho, _, d⟩ := x; exact ⟨o, ho, fun v q => by rw [d] at q; cases q⟩
theorem ItrAt.lt {h : Heap} {b : Bool} {it l : Addr} {k : Nat} (x : ItrAt h b it l k) : it < h.objs.size := by
  obtain ⟨o, ho, _⟩ := x.obj
  exact Heap.lt_size ho
theorem SrcAt.lt {h : Heap} {b : Bool} {l : Addr} {xs : Array Value} (x : SrcAt h b l xs) : l < h.objs.size := by
  cases b with
  | true => obtain ⟨o, ho, _⟩ := x; exact Heap.lt_size ho
  | false => obtain ⟨o, ho, _⟩ := x; exact Heap.lt_size ho
section
variable {prog : Program} {w : World} {A : Around} {E : Value → Shared → Prop} {s : Shared}
theorem nx_item {b : Bool} {it l : Addr} {i : Nat} {items : Array Value} {x : Value} {Q : Value → Shared → Prop} (hit : ItrAt s.heap b it l i) (hl : SrcAt s.heap b l items) (hx : items[i]? = some x)
    (hQ : ∀ h', ItrAt h' b it l (i + 1) → Heap.SameBut it s.heap h' → Q x { s with heap := h' }) : wpAny (model prog w) A (Builtin.SmallTypes.nextOf (.ref it)) Q E s := by
  cases b with
  | true => exact RZ.nextOf_tuple_item hit hl hx hQ
  | false => exact wpAny_nextOf_list_item hit hl hx hQ
theorem nx_end {b : Bool} {it l : Addr} {i : Nat} {items : Array Value} {Q : Value → Shared → Prop} (hh : A.handled = none) (hit : ItrAt s.heap b it l i) (hl : SrcAt s.heap b l items) (hx : items[i]? = none)
    (hE : ∀ h' e, Heap.ExtBut it s.heap h' → (∃ o, h'.get? e = some o ∧ o.cls = .type "StopIteration") → E (.ref e) { s with heap := h' }) : wpAny (model prog w) A (Builtin.SmallTypes.nextOf (.ref it)) Q E s := by
  cases b with
  | true => exact RZ.nextOf_tuple_end hh hit hl hx hE
  | false => exact wpAny_nextOf_list_end hh hit hl hx hE
structure ZA (z TI TO : Addr) (qs : List ZQ) : Prop where
  TIz : TI ≠ z
  TOz : TO ≠ z
  TITO : TI ≠ TO
  it : ∀ q ∈ qs, q.2.1 ≠ z ∧ q.2.1 ≠ TO ∧ q.2.1 ≠ TI
  src : ∀ q ∈ qs, q.2.2 ≠ z ∧ q.2.2 ≠ TO ∧ ∀ r ∈ qs, q.2.2 ≠ r.2.1
  nd : (qs.map (·.2.1)).Nodup
abbrev IsTup (h : Heap) (T : Addr) (vs : List Value) : Prop := h.get? T = some { cls := .type "tuple", data := .seq vs.toArray }
abbrev its (qs : List ZQ) : List Value := qs.map fun q => Value.ref q.2.1
theorem ZA.ne {z TI TO : Addr} {qs : List ZQ} (D : ZA z TI TO qs) {i j : Nat} {p q : ZQ} (hp : qs[i]? = some p) (hq : qs[j]? = some q) (h : i ≠ j) : p.2.1 ≠ q.2.1 := by
  obtain ⟨h1, e1⟩ := List.getElem?_eq_some_iff.mp hp
  obtain ⟨h2, e2⟩ := List.getElem?_eq_some_iff.mp hq
  have nd := List.pairwise_iff_getElem.mp D.nd
  rcases Nat.lt_or_gt_of_ne h with hl | hl
  · have := nd i j (by simpa using h1) (by simpa using h2) hl
    simpa [e1, e2] using this
  · have := nd j i (by simpa using h2) (by simpa using h1) hl
    intro e; apply this; simp [e1, e2, e]
/-- amid the draws: j of them have come -/
structure ZSt (s : Shared) (z TI TO : Addr) (qs : List ZQ) (k : Nat) (vss : Nat → Array Value) (j : Nat) (ws : List Value) (h' : Heap) : Prop where
  zz : IsZip h' z TI TO .ellipsis
  to : IsTup h' TO ws
  len : ws.length = qs.length
  got : ∀ i, i < j → ∃ u, (vss i)[k]? = some u ∧ ws[i]? = some u
  itr : ∀ (i : Nat) (q : ZQ), qs[i]? = some q → ItrAt h' q.1 q.2.1 q.2.2 (if i < j then k + 1 else k)
  keep : ∀ (c : Addr) (o : Obj), c ≠ z → c ≠ TO → (∀ q ∈ qs, c ≠ q.2.1) → s.heap.get? c = some o → h'.get? c = some o
  sz : h'.objs.size = s.heap.objs.size
theorem zipN_next {z TI TO : Addr} {qs : List ZQ} {k : Nat} {vss : Nat → Array Value} {ws0 : List Value} {Q : Value → Shared → Prop} (hh : A.handled = none) (D : ZA z TI TO qs) (hne : qs ≠ []) (hn : qs.length ≤ 4000)
    (hz : IsZip s.heap z TI TO .none) (hTI : IsTup s.heap TI (its qs)) (hTO : IsTup s.heap TO ws0) (hl0 : ws0.length = qs.length)
    (hi : ∀ (i : Nat) (q : ZQ), qs[i]? = some q → ItrAt s.heap q.1 q.2.1 q.2.2 k) (hs : ∀ (i : Nat) (q : ZQ), qs[i]? = some q → SrcAt s.heap q.1 q.2.2 (vss i))
    (hQ : ∀ us : List Value, us.length = qs.length → (∀ i, i < qs.length → ∃ u, (vss i)[k]? = some u ∧ us[i]? = some u) → ∀ h', IsZip h' z TI TO (rawInt s.heap.objs.size) → IsTup h' TO us → (∀ (i : Nat) (q : ZQ), qs[i]? = some q → ItrAt h' q.1 q.2.1 q.2.2 (k + 1)) → IsTup h' s.heap.objs.size us → h'.objs.size = s.heap.objs.size + 1 →
      (∀ (c : Addr) (o : Obj), c ≠ z → c ≠ TO → (∀ q ∈ qs, c ≠ q.2.1) → s.heap.get? c = some o → h'.get? c = some o) → Q (.ref s.heap.objs.size) { s with heap := h' })
    (hE : (∃ i, i < qs.length ∧ (vss i)[k]? = none) → ∀ h' e, (∀ (c : Addr) (o : Obj), c ≠ z → c ≠ TO → (∀ q ∈ qs, c ≠ q.2.1) → s.heap.get? c = some o → h'.get? c = some o) → (∃ o, h'.get? e = some o ∧ o.cls = .type "StopIteration") → E (.ref e) { s with heap := h' }) :
    wpAny (model prog w) A (Builtin.«zip.__next__» ⟨[.ref z], []⟩) (fun fin s' => ∃ v, fin = .done (.ret v) ∧ Q v s') E s := by
  show wpAny _ _ (field (.ref z) 2 >>= _) _ _ _
  refine wpAny_bind (wpAny_field hz rfl (x := .bool false) rfl ?_)
  show wpAny _ _ (field (.ref z) 3 >>= _) _ _ _
  refine wpAny_bind (wpAny_field hz rfl (x := .ref TI) rfl ?_)
  refine wpAny_bind (wpAny_seqItems hTI rfl ?_)
  have hem : (its qs).toArray.isEmpty = false := by
    cases qs with
    | nil => exact absurd rfl hne
    | cons q r => simp [its]
  dsimp only
  rw [if_neg (by rw [hem]; exact Bool.false_ne_true)]
  show wpAny _ _ (Builtin.SmallTypes.ownedTupleIsFree (.ref z) >>= _) _ _ _
  refine wpAny_bind ?_
  unfold Builtin.SmallTypes.ownedTupleIsFree
  refine wpAny_bind (wpAny_field hz rfl (x := .none) rfl (wpAny_pure ?_))
  simp only [if_true]
  refine wpAny_bind (wpAny_rule ?_)
  refine wpAny_bind (wpAny_field hz rfl (x := .ref TO) rfl ?_)
  refine wpAny_bind (wpAny_setField_rec hz (by simp) fun h₁ hz₁ hs₁ => ?_)
  replace hz₁ : IsZip h₁ z TI TO .ellipsis := hz₁
  refine wpAny_bind (wpAny_forIn_list _ (fun rest b s' => b.1 = none ∧ ∃ j ws h', rest = (its qs).zipIdx.drop j ∧ j ≤ qs.length ∧ s' = { s with heap := h' } ∧ ZSt s z TI TO qs k vss j ws h') _ (fun x rest b s₁ hI => ?_) (fun b s₁ hI => ?_) _ _ ⟨rfl, 0, ws0, h₁, by simp, Nat.zero_le _, rfl, ⟨hz₁, hs₁.extBut _ _ D.TOz hTO, hl0, fun i hi => absurd hi (Nat.not_lt_zero _), fun i q hq => ?_, fun c o c1 _ _ e => hs₁.extBut _ _ c1 e, hs₁.1⟩⟩)
  · obtain ⟨hb, j, ws, h', hr, hj, rfl, S⟩ := hI
    obtain ⟨b1, b2⟩ := b
    cases hb
    have hjl : j < qs.length := by
      have : ((its qs).zipIdx.drop j).length = rest.length + 1 := by rw [← hr]; rfl
      simp [its] at this
      omega
    have hx : ∃ q, qs[j]? = some q ∧ x = (.ref q.2.1, j) ∧ rest = (its qs).zipIdx.drop (j + 1) := by
      refine ⟨qs[j], List.getElem?_eq_getElem hjl, ?_⟩
      have hlz : j < (its qs).zipIdx.length := by simpa [its] using hjl
      rw [List.drop_eq_getElem_cons hlz] at hr
      injection hr with h1 h2
      refine ⟨?_, h2⟩
      rw [h1]
      simp [its]
    obtain ⟨q, hq, rfl, rfl⟩ := hx
    have hm : q ∈ qs := List.mem_of_getElem? hq
    have hit := S.itr j q hq
    rw [if_neg (Nat.lt_irrefl _)] at hit
    have hsrc : SrcAt h' q.1 q.2.2 (vss j) := (hs j q hq).at fun o e => S.keep _ o (D.src q hm).1 (D.src q hm).2.1 (fun r hr => (D.src q hm).2.2 r hr) e
    refine wpAny_bind (wpAny_onRaise ?_)
    show wpAny _ _ (Builtin.SmallTypes.nextOf (.ref q.2.1) >>= _) _ _ _
    cases hv : (vss j)[k]? with
    | none =>
      refine wpAny_bind (nx_end hh hit hsrc hv fun h₂ e hs₂ he => ?_)
      obtain ⟨oe, hoe, hce⟩ := he
      have hz₂ : IsZip h₂ z TI TO .ellipsis := hs₂ _ _ (D.it q hm).1.symm S.zz
      have hez : e ≠ z := fun x => by subst x; rw [hz₂] at hoe; cases hoe; simp at hce
      refine wpAny_setField_rec hz₂ (by simp) fun h₃ _ hs₃ => hE ⟨j, hjl, hv⟩ h₃ e (fun c o c1 c2 c3 x => hs₃.extBut _ _ c1 (hs₂ _ _ (c3 q hm) (S.keep c o c1 c2 c3 x))) ⟨oe, hs₃.extBut _ _ hez hoe, hce⟩
    | some u =>
      refine wpAny_bind (nx_item hit hsrc hv fun h₂ h1₂ hs₂ => wpAny_pure ?_)
      have hTO₂ : IsTup h₂ TO ws := hs₂.extBut _ _ (D.it q hm).2.1.symm S.to
      refine wpAny_bind (wpAny_seqItems hTO₂ rfl ?_)
      have hwl : ws.toArray.size ≤ sizeLine := by
        rw [List.size_toArray, S.len]
        exact Nat.le_trans hn (by decide)
      refine wpAny_bind (wpAny_updateSeq hTO₂ rfl ?_ hwl (by rw [Array.size_setIfInBounds]; omega))
      refine wpAny_bind (wpAny_letGo (wpAny_pure ?_))
      have hs₃ : Heap.SameBut TO h₂ (h₂.update TO (Obj.mapSeq (·.setIfInBounds j u))) := Heap.SameBut.update ..
      have hTO₃ : IsTup (h₂.update TO (Obj.mapSeq (·.setIfInBounds j u))) TO (ws.set j u) := by
        show Heap.get? _ _ = _
        rw [Heap.get?_update_self _ hTO₂ rfl]
        simp [Obj.mapSeq]
      refine ⟨rfl, j + 1, ws.set j u, _, rfl, hjl, rfl, ⟨hs₃.extBut _ _ D.TOz.symm (hs₂.extBut _ _ (D.it q hm).1.symm S.zz), hTO₃, by rw [List.length_set]; exact S.len, fun i hi => ?_, fun i p hp => ?_, fun c o c1 c2 c3 e => hs₃.extBut _ _ c2 (hs₂.extBut _ _ (c3 q hm) (S.keep c o c1 c2 c3 e)), hs₃.1.trans (hs₂.1.trans S.sz)⟩⟩
      · by_cases hij : i = j
        · subst hij
          exact ⟨u, hv, List.getElem?_set_self (by rw [S.len]; exact hjl)⟩
        · obtain ⟨v, e1, e2⟩ := S.got i (by omega)
          exact ⟨v, e1, by rw [List.getElem?_set_ne (Ne.symm hij)]; exact e2⟩
      · have hpm : p ∈ qs := List.mem_of_getElem? hp
        by_cases hij : i = j
        · subst hij
          rw [hq] at hp; cases hp
          rw [if_pos (Nat.lt_succ_self _)]
          exact h1₂.at fun o e => hs₃.extBut _ _ (D.it q hm).2.1 e
        · have e : (if i < j + 1 then k + 1 else k) = if i < j then k + 1 else k := by
            by_cases h : i < j
            · rw [if_pos h, if_pos (by omega)]
            · rw [if_neg h, if_neg (by omega)]
          rw [e]
          exact (S.itr i p hp).at fun o e => hs₃.extBut _ _ (D.it p hpm).2.1 (hs₂.extBut _ _ (D.ne hp hq hij) e)
  · obtain ⟨hb, j, ws, h', hr, hj, rfl, S⟩ := hI
    obtain ⟨b1, b2⟩ := b
    cases hb
    have hjl : j = qs.length := by
      have h0 : ((its qs).zipIdx.drop j).length = 0 := by rw [← hr]; rfl
      simp [its] at h0
      omega
    subst hjl
    refine wpAny_bind (wpAny_seqItems S.to rfl ?_)
    refine wpAny_bind (wpAny_newTuple ?_ (by rw [List.toList_toArray, S.len]; exact Nat.le_trans hn (by decide)))
    have hzlt : z < h'.objs.size := Heap.lt_size S.zz
    show wpAny _ _ (Builtin.SmallTypes.ownedTupleHandOut (.ref z) (.ref h'.objs.size) >>= _) _ _ _
    refine wpAny_bind ?_
    unfold Builtin.SmallTypes.ownedTupleHandOut
    have hz₆ : IsZip (h'.push { cls := .type "tuple", data := .seq ws.toArray.toList.toArray }) z TI TO .ellipsis := Heap.get?_push_of_some _ S.zz
    refine wpAny_bind (wpAny_setField_rec hz₆ (by simp) fun h₇ hz₇ hs₇ => ?_)
    replace hz₇ : IsZip h₇ z TI TO (rawInt h'.objs.size) := hz₇
    refine wpAny_setField_rec hz₇ (by simp) fun h₈ hz₈ hs₈ => ?_
    replace hz₈ : IsZip h₈ z TI TO (rawInt h'.objs.size) := hz₈
    have up : ∀ c o, c ≠ z → h'.get? c = some o → h₈.get? c = some o := fun c o c1 e => hs₈.extBut _ _ c1 (hs₇.extBut _ _ c1 (Heap.get?_push_of_some _ e))
    have hT₈ : IsTup h₈ h'.objs.size ws := hs₈.extBut _ _ (Nat.ne_of_gt hzlt) (hs₇.extBut _ _ (Nat.ne_of_gt hzlt) (by
      have := Heap.get?_push_size h' (o := { cls := .type "tuple", data := .seq ws.toArray.toList.toArray }) rfl
      simpa using this))
    have hz8 : h₈.objs.size = h'.objs.size + 1 := by rw [hs₈.1, hs₇.1, Heap.size_push]
    rw [S.sz] at hz₈ hT₈ hz8
    refine wpAny_pure ⟨_, rfl, ?_⟩
    show Q (.ref h'.objs.size) _
    rw [S.sz]
    refine hQ ws S.len (fun i hi => S.got i hi) h₈ hz₈ (up _ _ D.TOz S.to) (fun i q hq => ?_) hT₈ hz8 fun c o c1 c2 c3 e => up c o c1 (S.keep c o c1 c2 c3 e)
    have := S.itr i q hq
    rw [if_pos (List.getElem?_eq_some_iff.mp hq).1] at this
    exact this.at fun o e => up _ o (D.it q (List.mem_of_getElem? hq)).1 e
  · rw [if_neg (Nat.not_lt_zero _)]
    exact (hi i q hq).at fun o e => hs₁.extBut _ _ (D.it q (List.mem_of_getElem? hq)).1 e
end
end ZZ

namespace ZZ
open PySem PySem.Spec PyProof.Rows L2
variable [TabC]
section
variable {prog : Program} {w : World} {A : Around} {E : Value → Shared → Prop} {s : Shared}
theorem pyNext_zipN {z TI TO : Addr} {qs : List ZQ} {k : Nat} {vss : Nat → Array Value} {ws0 : List Value} {Q : Option Value → Shared → Prop} (hh : A.handled = none) (D : ZA z TI TO qs) (hne : qs ≠ []) (hn : qs.length ≤ 4000)
    (hz : IsZip s.heap z TI TO .none) (hTI : IsTup s.heap TI (its qs)) (hTO : IsTup s.heap TO ws0) (hl0 : ws0.length = qs.length)
    (hi : ∀ (i : Nat) (q : ZQ), qs[i]? = some q → ItrAt s.heap q.1 q.2.1 q.2.2 k) (hs : ∀ (i : Nat) (q : ZQ), qs[i]? = some q → SrcAt s.heap q.1 q.2.2 (vss i))
    (hQ : ∀ us : List Value, us.length = qs.length → (∀ i, i < qs.length → ∃ u, (vss i)[k]? = some u ∧ us[i]? = some u) → ∀ h', IsZip h' z TI TO (rawInt s.heap.objs.size) → IsTup h' TO us → (∀ (i : Nat) (q : ZQ), qs[i]? = some q → ItrAt h' q.1 q.2.1 q.2.2 (k + 1)) → IsTup h' s.heap.objs.size us → h'.objs.size = s.heap.objs.size + 1 →
      (∀ (c : Addr) (o : Obj), c ≠ z → c ≠ TO → (∀ q ∈ qs, c ≠ q.2.1) → s.heap.get? c = some o → h'.get? c = some o) → Q (some (.ref s.heap.objs.size)) { s with heap := h' })
    (hE : (∃ i, i < qs.length ∧ (vss i)[k]? = none) → ∀ h', (∀ (c : Addr) (o : Obj), c ≠ z → c ≠ TO → (∀ q ∈ qs, c ≠ q.2.1) → s.heap.get? c = some o → h'.get? c = some o) → Q none { s with heap := h' }) :
    wpAny (model prog w) A (pyNext (.ref z)) Q E s := by
  have hT : s.TypeIs (.ref z) "zip" := ⟨_, hz, rfl⟩
  unfold pyNext
  refine wpAny_bind (wpAny_attempt (wpAny_callSpecial?_slot (name := Str.ofString "__next__") hT F.slot_zip_next
    (wpAny_call_entry F.slot_zip_next hT F.entry_zip_next
      (zipN_next hh D hne hn hz hTI hTO hl0 hi hs (fun us hl hg h' a1 a2 a3 a4 a5 a6 => wpAny_pure (hQ us hl hg h' a1 a2 a3 a4 a5 a6)) fun he h' e hk ho => ?_) (F.args_zip_next_1 _))))
  obtain ⟨o, ho, hc⟩ := ho
  refine wpAny_bind (wpAny_isInstance (T := "StopIteration") (b := true) ⟨o, ho, hc⟩ isSubtype_stop ?_)
  exact wpAny_pure (hE he h' hk)
/-! ### the making -/
def itO (b : Bool) (l : Addr) : Obj := match b with | true => { cls := .type "tuple_iterator", data := .fields #[.ref l, .int 0 0] } | false => { cls := .type "list_iterator", data := .fields #[.ref l, .int 0 0] }
theorem pyIter_src {b : Bool} {l : Addr} {xs : Array Value} {Q : Value → Shared → Prop} (hl : SrcAt s.heap b l xs) (hQ : Q (.ref s.heap.objs.size) { s with heap := s.heap.push (itO b l) }) : wpAny (model prog w) A (pyIter (.ref l)) Q E s := by
  cases b with
  | true => exact wpAny_pyIter_tuple hl hQ
  | false => exact wpAny_pyIter_list hl hQ
theorem itO_at {h : Heap} {b : Bool} {it l : Addr} (e : h.get? it = some (itO b l)) : ItrAt h b it l 0 := by
  cases b with
  | true => exact ⟨_, e, rfl, rfl⟩
  | false => exact ⟨_, e, rfl, rfl⟩
theorem SrcAt.push {h : Heap} {b : Bool} {l : Addr} {xs : Array Value} (x : SrcAt h b l xs) (o : Obj) : SrcAt (h.push o) b l xs := x.at fun _ e => Heap.get?_push_of_some _ e
end
abbrev zmH1 (h : Heap) (b1 : Bool) (l1 : Addr) : Heap := h.push (itO b1 l1)
abbrev zmH2 (h : Heap) (b1 b2 : Bool) (l1 l2 : Addr) : Heap := (zmH1 h b1 l1).push (itO b2 l2)
abbrev zmE2 (h : Heap) (b1 b2 : Bool) (l1 l2 : Addr) : Heap := (((zmH2 h b1 b2 l1 l2).push { cls := .type "tuple", data := .seq #[.ref h.objs.size, .ref (zmH1 h b1 l1).objs.size] }).push { cls := .type "tuple", data := .seq #[.none, .none] }).push
  { cls := .type "zip", data := .fields #[.none, .bool false, .bool false, .ref (zmH2 h b1 b2 l1 l2).objs.size, .ref ((zmH2 h b1 b2 l1 l2).push { cls := .type "tuple", data := .seq #[.ref h.objs.size, .ref (zmH1 h b1 l1).objs.size] }).objs.size] }
theorem meets_zm2 (b1 b2 : Bool) (l1 l2 : Addr) (xs ys : Array Value) :
    Meets (Builtin.«zip.__new__» ⟨[.type "zip", .ref l1, .ref l2], []⟩) (fun _ R s => SrcAt s.heap b1 l1 xs ∧ SrcAt s.heap b2 l2 ys ∧
      R (.ok (.ret (.ref (((zmH2 s.heap b1 b2 l1 l2).push { cls := .type "tuple", data := .seq #[.ref s.heap.objs.size, .ref (zmH1 s.heap b1 l1).objs.size] }).push { cls := .type "tuple", data := .seq #[.none, .none] }).objs.size))) { s with heap := zmE2 s.heap b1 b2 l1 l2 }) :=
  .of_wp fun prog w A R s h => by
    obtain ⟨hp, g, d, tk, os⟩ := s; obtain ⟨hl1, hl2, h⟩ := h
    have hsub := sub_zip
    have hL1 : SrcAt (Shared.heap ⟨hp, g, d, tk, os⟩) b1 l1 xs := hl1
    have hL2 : SrcAt (Shared.heap ⟨hp.push (itO b1 l1), g, d, tk, os⟩) b2 l2 ys := SrcAt.push hl2 _
    wp_walk using pyIter_src hL1, pyIter_src hL2
    exact ⟨_, rfl, h⟩
abbrev zmH3 (h : Heap) (b1 b2 b3 : Bool) (l1 l2 l3 : Addr) : Heap := (zmH2 h b1 b2 l1 l2).push (itO b3 l3)
abbrev zmT3 (h : Heap) (b1 b2 b3 : Bool) (l1 l2 l3 : Addr) : Heap := (zmH3 h b1 b2 b3 l1 l2 l3).push { cls := .type "tuple", data := .seq #[.ref h.objs.size, .ref (zmH1 h b1 l1).objs.size, .ref (zmH2 h b1 b2 l1 l2).objs.size] }
abbrev zmU3 (h : Heap) (b1 b2 b3 : Bool) (l1 l2 l3 : Addr) : Heap := (zmT3 h b1 b2 b3 l1 l2 l3).push { cls := .type "tuple", data := .seq #[.none, .none, .none] }
abbrev zmE3 (h : Heap) (b1 b2 b3 : Bool) (l1 l2 l3 : Addr) : Heap := (zmU3 h b1 b2 b3 l1 l2 l3).push
  { cls := .type "zip", data := .fields #[.none, .bool false, .bool false, .ref (zmH3 h b1 b2 b3 l1 l2 l3).objs.size, .ref (zmT3 h b1 b2 b3 l1 l2 l3).objs.size] }
theorem meets_zm3 (b1 b2 b3 : Bool) (l1 l2 l3 : Addr) (xs ys zs : Array Value) :
    Meets (Builtin.«zip.__new__» ⟨[.type "zip", .ref l1, .ref l2, .ref l3], []⟩) (fun _ R s => SrcAt s.heap b1 l1 xs ∧ SrcAt s.heap b2 l2 ys ∧ SrcAt s.heap b3 l3 zs ∧
      R (.ok (.ret (.ref (zmU3 s.heap b1 b2 b3 l1 l2 l3).objs.size))) { s with heap := zmE3 s.heap b1 b2 b3 l1 l2 l3 }) :=
  .of_wp fun prog w A R s h => by
    obtain ⟨hp, g, d, tk, os⟩ := s; obtain ⟨hl1, hl2, hl3, h⟩ := h
    have hsub := sub_zip
    have hL1 : SrcAt (Shared.heap ⟨hp, g, d, tk, os⟩) b1 l1 xs := hl1
    have hL2 : SrcAt (Shared.heap ⟨hp.push (itO b1 l1), g, d, tk, os⟩) b2 l2 ys := SrcAt.push hl2 _
    have hL3 : SrcAt (Shared.heap ⟨(hp.push (itO b1 l1)).push (itO b2 l2), g, d, tk, os⟩) b3 l3 zs := SrcAt.push (SrcAt.push hl3 _) _
    wp_walk using pyIter_src hL1, pyIter_src hL2, pyIter_src hL3
    exact ⟨_, rfl, h⟩
theorem typeCall_zip_3 (a b c : Value) : checkTypeCall "zip" ⟨[a, b, c], []⟩ = pure () := by kernel_rfl
theorem newCall_zip_3 (a b c : Value) : checkBuiltinCall "zip.__new__" ⟨[.type "zip", a, b, c], []⟩ = pure () := by kernel_rfl
theorem args_object_init_4 (a b c d : Value) : argsOk "object.__init__" ⟨[a, b, c, d], []⟩ := by
  unfold argsOk; rw [signature?_of (id := "object.__init__") (n := ['_', '_', 't', 'i', 'n', 'i', '_', '_']) (o := ['t', 'c', 'e', 'j', 'b', 'o']) (by kernel_rfl) F.owner_object]; kernel_rfl
section
variable {prog : Program} {w : World} {A : Around} {E : Value → Shared → Prop} {s : Shared}
/-- what the making leaves: the iterators from size on, then the two tuples, then the zip -/
def Made (s : Shared) (ps : List (Bool × Addr)) (h' : Heap) : Prop :=
  ∃ n, n = ps.length ∧ IsZip h' (s.heap.objs.size + n + 2) (s.heap.objs.size + n) (s.heap.objs.size + n + 1) .none ∧ IsTup h' (s.heap.objs.size + n) ((List.range n).map fun i => Value.ref (s.heap.objs.size + i)) ∧ IsTup h' (s.heap.objs.size + n + 1) (List.replicate n .none) ∧
    (∀ i p, ps[i]? = some p → ItrAt h' p.1 (s.heap.objs.size + i) p.2 0) ∧ ∀ c o, s.heap.get? c = some o → h'.get? c = some o
theorem call_zm2 {b1 b2 : Bool} {l1 l2 : Addr} {xs ys : Array Value} {Q : Value → Shared → Prop} (hl1 : SrcAt s.heap b1 l1 xs) (hl2 : SrcAt s.heap b2 l2 ys)
    (h : ∀ h', Made s [(b1, l1), (b2, l2)] h' → Q (.ref (s.heap.objs.size + 4)) { s with heap := h' }) : wpAny (model prog w) A (call (.type "zip") [.ref l1, .ref l2]) Q E s := by
  refine callType_new F.called_zip (by decide) (F.typeCall_zip_2 _ _) (F.newCall_zip_2 _ _) (fun obj => F.args_object_init_3 obj _ _) F.entry_zip_new
    (meets_zm2 b1 b2 l1 l2 xs ys) ⟨hl1, hl2, ?_⟩
  have z1 : (zmH1 s.heap b1 l1).objs.size = s.heap.objs.size + 1 := Heap.size_push ..
  have z2 : (zmH2 s.heap b1 b2 l1 l2).objs.size = s.heap.objs.size + 2 := by rw [Heap.size_push, z1]
  generalize hT : (zmH2 s.heap b1 b2 l1 l2).push { cls := .type "tuple", data := .seq #[.ref s.heap.objs.size, .ref (zmH1 s.heap b1 l1).objs.size] } = hp3
  have z3 : hp3.objs.size = s.heap.objs.size + 3 := by rw [← hT, Heap.size_push, z2]
  have z4 : (hp3.push { cls := .type "tuple", data := .seq #[.none, .none] }).objs.size = s.heap.objs.size + 4 := by rw [Heap.size_push, z3]
  have g5 := Heap.get?_push_size (hp3.push { cls := .type "tuple", data := .seq #[.none, .none] }) (o := { cls := .type "zip", data := .fields #[.none, .bool false, .bool false, .ref (zmH2 s.heap b1 b2 l1 l2).objs.size, .ref hp3.objs.size] }) rfl
  have k3 : ∀ c o, hp3.get? c = some o → ((hp3.push { cls := .type "tuple", data := .seq #[.none, .none] }).push { cls := .type "zip", data := .fields #[.none, .bool false, .bool false, .ref (zmH2 s.heap b1 b2 l1 l2).objs.size, .ref hp3.objs.size] }).get? c = some o := fun c o e => Heap.get?_push_of_some _ (Heap.get?_push_of_some _ e)
  have g4 := Heap.get?_push_of_some (o := { cls := .type "zip", data := .fields #[.none, .bool false, .bool false, .ref (zmH2 s.heap b1 b2 l1 l2).objs.size, .ref hp3.objs.size] }) (Heap.get?_push_size hp3 (o := { cls := .type "tuple", data := .seq #[.none, .none] }) rfl)
  have g3 := k3 _ _ (by rw [← hT]; exact Heap.get?_push_size (zmH2 s.heap b1 b2 l1 l2) (o := { cls := .type "tuple", data := .seq #[.ref s.heap.objs.size, .ref (zmH1 s.heap b1 l1).objs.size] }) rfl)
  have k2 : ∀ c o, (zmH2 s.heap b1 b2 l1 l2).get? c = some o → hp3.get? c = some o := fun c o e => by rw [← hT]; exact Heap.get?_push_of_some _ e
  have g2 := k3 _ _ (k2 _ _ (Heap.get?_push_size (zmH1 s.heap b1 l1) (o := itO b2 l2) (by cases b2 <;> rfl)))
  have g1 := k3 _ _ (k2 _ _ (Heap.get?_push_of_some (o := itO b2 l2) (Heap.get?_push_size s.heap (o := itO b1 l1) (by cases b1 <;> rfl))))
  show _ ∧ _
  generalize hF : ((hp3.push { cls := .type "tuple", data := .seq #[.none, .none] }).push { cls := .type "zip", data := .fields #[.none, .bool false, .bool false, .ref (zmH2 s.heap b1 b2 l1 l2).objs.size, .ref hp3.objs.size] }) = hf at g1 g2 g3 g4 g5 k3 ⊢
  have eF : zmE2 s.heap b1 b2 l1 l2 = hf := by rw [← hF, ← hT]
  rw [eF]
  rw [z2, z3, z4] at g5
  rw [z2, z1] at g3
  rw [z3] at g4
  rw [z1] at g2
  rw [z4]
  refine ⟨⟨_, g5, rfl⟩, h _ ⟨2, rfl, g5, g3, g4, fun i p hp => ?_, fun c o e => k3 _ _ (k2 _ _ (Heap.get?_push_of_some _ (Heap.get?_push_of_some _ e)))⟩⟩
  match i, hp with
  | 0, hp => cases hp; exact itO_at g1
  | 1, hp => cases hp; exact itO_at g2
theorem call_zm3 {b1 b2 b3 : Bool} {l1 l2 l3 : Addr} {xs ys zs : Array Value} {Q : Value → Shared → Prop} (hl1 : SrcAt s.heap b1 l1 xs) (hl2 : SrcAt s.heap b2 l2 ys) (hl3 : SrcAt s.heap b3 l3 zs)
    (h : ∀ h', Made s [(b1, l1), (b2, l2), (b3, l3)] h' → Q (.ref (s.heap.objs.size + 5)) { s with heap := h' }) : wpAny (model prog w) A (call (.type "zip") [.ref l1, .ref l2, .ref l3]) Q E s := by
  refine callType_new F.called_zip (by decide) (typeCall_zip_3 _ _ _) (newCall_zip_3 _ _ _) (fun obj => args_object_init_4 obj _ _ _) F.entry_zip_new
    (meets_zm3 b1 b2 b3 l1 l2 l3 xs ys zs) ⟨hl1, hl2, hl3, ?_⟩
  have z1 : (zmH1 s.heap b1 l1).objs.size = s.heap.objs.size + 1 := Heap.size_push ..
  have z2 : (zmH2 s.heap b1 b2 l1 l2).objs.size = s.heap.objs.size + 2 := by rw [Heap.size_push, z1]
  have z3 : (zmH3 s.heap b1 b2 b3 l1 l2 l3).objs.size = s.heap.objs.size + 3 := by rw [Heap.size_push, z2]
  generalize hT : zmT3 s.heap b1 b2 b3 l1 l2 l3 = hp3
  have hT' := hT
  have z4 : hp3.objs.size = s.heap.objs.size + 4 := by rw [← hT, Heap.size_push, z3]
  have z5 : (hp3.push { cls := .type "tuple", data := .seq #[.none, .none, .none] }).objs.size = s.heap.objs.size + 5 := by rw [Heap.size_push, z4]
  have g5 := Heap.get?_push_size (hp3.push { cls := .type "tuple", data := .seq #[.none, .none, .none] }) (o := { cls := .type "zip", data := .fields #[.none, .bool false, .bool false, .ref (zmH3 s.heap b1 b2 b3 l1 l2 l3).objs.size, .ref hp3.objs.size] }) rfl
  have k3 : ∀ c o, hp3.get? c = some o → ((hp3.push { cls := .type "tuple", data := .seq #[.none, .none, .none] }).push { cls := .type "zip", data := .fields #[.none, .bool false, .bool false, .ref (zmH3 s.heap b1 b2 b3 l1 l2 l3).objs.size, .ref hp3.objs.size] }).get? c = some o := fun c o e => Heap.get?_push_of_some _ (Heap.get?_push_of_some _ e)
  have g4 := Heap.get?_push_of_some (o := { cls := .type "zip", data := .fields #[.none, .bool false, .bool false, .ref (zmH3 s.heap b1 b2 b3 l1 l2 l3).objs.size, .ref hp3.objs.size] }) (Heap.get?_push_size hp3 (o := { cls := .type "tuple", data := .seq #[.none, .none, .none] }) rfl)
  have g3 := k3 _ _ (by rw [← hT]; exact Heap.get?_push_size (zmH3 s.heap b1 b2 b3 l1 l2 l3) (o := { cls := .type "tuple", data := .seq #[.ref s.heap.objs.size, .ref (zmH1 s.heap b1 l1).objs.size, .ref (zmH2 s.heap b1 b2 l1 l2).objs.size] }) rfl)
  have k2 : ∀ c o, (zmH3 s.heap b1 b2 b3 l1 l2 l3).get? c = some o → hp3.get? c = some o := fun c o e => by rw [← hT]; exact Heap.get?_push_of_some _ e
  have g2' := k3 _ _ (k2 _ _ (Heap.get?_push_size (zmH2 s.heap b1 b2 l1 l2) (o := itO b3 l3) (by cases b3 <;> rfl)))
  have g2 := k3 _ _ (k2 _ _ (Heap.get?_push_of_some (o := itO b3 l3) (Heap.get?_push_size (zmH1 s.heap b1 l1) (o := itO b2 l2) (by cases b2 <;> rfl))))
  have g1 := k3 _ _ (k2 _ _ (Heap.get?_push_of_some (o := itO b3 l3) (Heap.get?_push_of_some (o := itO b2 l2) (Heap.get?_push_size s.heap (o := itO b1 l1) (by cases b1 <;> rfl)))))
  show _ ∧ _
  generalize hF : ((hp3.push { cls := .type "tuple", data := .seq #[.none, .none, .none] }).push { cls := .type "zip", data := .fields #[.none, .bool false, .bool false, .ref (zmH3 s.heap b1 b2 b3 l1 l2 l3).objs.size, .ref hp3.objs.size] }) = hf at g1 g2 g2' g3 g4 g5 k3 ⊢
  have eF : zmE3 s.heap b1 b2 b3 l1 l2 l3 = hf := by rw [← hF, ← hT]
  have eU : (zmU3 s.heap b1 b2 b3 l1 l2 l3).objs.size = s.heap.objs.size + 5 := by rw [← z5, ← hT]
  rw [eF, eU]
  rw [z3, z4, z5] at g5
  rw [z3, z2, z1] at g3
  rw [z4] at g4
  rw [z1] at g2
  rw [z2] at g2'
  refine ⟨⟨_, g5, rfl⟩, h _ ⟨3, rfl, g5, g3, g4, fun i p hp => ?_, fun c o e => k3 _ _ (k2 _ _ (Heap.get?_push_of_some _ (Heap.get?_push_of_some _ (Heap.get?_push_of_some _ e))))⟩⟩
  match i, hp with
  | 0, hp => cases hp; exact itO_at g1
  | 1, hp => cases hp; exact itO_at g2
  | 2, hp => cases hp; exact itO_at g2'
end
end ZZ

namespace ZZ
open PySem PySem.Spec PyProof.Rows L2
variable [TabC]
/-- (tuple, its address, what it holds) -/
abbrev ZP := Bool × Addr × List V
def hold (K : PySem.W.Frag) (H : Hp) (p : ZP) : Prop := match p.1 with | true => SqT K H p.2.1 p.2.2 | false => SqL K H p.2.1 p.2.2
def fzh (K : PySem.W.Frag) (H : Hp) (p : ZP) : Prop := match p.1 with | true => SqT K H p.2.1 p.2.2 | false => FzL K H p.2.1 p.2.2
theorem fzh.sq {K : PySem.W.Frag} {H : Hp} {p : ZP} (h : fzh K H p) : hold K H p := by
  obtain ⟨b, a, xs⟩ := p
  cases b with
  | true => exact h
  | false => exact FzL.sq h
theorem fzh.mono {K : PySem.W.Frag} {H H' : Hp} {p : ZP} (h : fzh K H p) (m : Mono H H') : fzh K H' p := by
  obtain ⟨b, a, xs⟩ := p
  cases b with
  | true => exact m.sqT h
  | false => exact m.fzL h
def ItzN (K : PySem.W.Frag) (ps : List ZP) : It :=
  ⟨fun i H => (∀ p ∈ ps, hold K H p) ∧ ∀ p ∈ ps, i < p.2.2.length, fun i H v H' => ∃ T, v = .ref T ∧ H T = none ∧ H' = upd H T (.tup (ps.map fun p => p.2.2.getD i .non)), fun i H => (∀ p ∈ ps, hold K H p) ∧ ∃ p ∈ ps, p.2.2.length ≤ i⟩
theorem vals_of : ∀ {xs : List V} {us : List Value}, xs.length = us.length → (∀ (j : Nat) (x : V) (u : Value), xs[j]? = some x → us[j]? = some u → RelV x u) → Vals xs us
  | [], [], _, _ => .nil
  | x :: xs, u :: us, hl, h => .cons (h 0 x u rfl rfl) (vals_of (by simpa using hl) fun j x' u' h1 h2 => h (j + 1) x' u' h1 h2)
theorem src_of {X : Cx} {pins : List (Addr × Obj)} {σ : SS} {H : Hp} {s : Shared} (I : Inv X pins σ H s) {p : ZP} (h : hold X.K H p) : ∃ its : List Value, Vals p.2.2 its ∧ SrcAt s.heap p.1 p.2.1 its.toArray := by
  obtain ⟨b, a, xs⟩ := p
  cases b with
  | true =>
    obtain ⟨its, rv, q, _⟩ := I.tuple h
    exact ⟨its, rv, q⟩
  | false =>
    obtain ⟨its, rv, q, _⟩ := I.list h
    exact ⟨its, rv, q.isList⟩
theorem turn_zipN {P : Program} {w : World} {K : PySem.W.Frag} {elts : List Expr} {kk : Nat} {tpos : Pos} {z TI TO : Addr} {qs : List ZQ} {ps : List ZP} (D : ZA z TI TO qs) (hq : qs.map (fun q => (q.1, q.2.2)) = ps.map fun p => (p.1, p.2.1)) (hne : qs ≠ []) (hn : qs.length ≤ 4000) :
    Turn P w K (.Tuple elts kk tpos) (ItzN K ps) (z :: TI :: TO :: qs.map (·.2.1)) z (fun i h => IsZip h z TI TO .none ∧ IsTup h TI (its qs) ∧ (∃ ws : List Value, ws.length = qs.length ∧ IsTup h TO ws) ∧ ∀ (j : Nat) (q : ZQ), qs[j]? = some q → ItrAt h q.1 q.2.1 q.2.2 i) where
  mem := by simp
  obj := fun i h st c hc => by
    obtain ⟨hz, hTI, ⟨ws, hl, hTO⟩, hi⟩ := st
    rcases List.mem_cons.mp hc with rfl | hc
    · exact ⟨_, hz, fun v q => nomatch q⟩
    rcases List.mem_cons.mp hc with rfl | hc
    · exact ⟨_, hTI, fun v q => nomatch q⟩
    rcases List.mem_cons.mp hc with rfl | hc
    · exact ⟨_, hTO, fun v q => nomatch q⟩
    obtain ⟨q, hm, rfl⟩ := List.mem_map.mp hc
    obtain ⟨j, hj⟩ := List.mem_iff_getElem?.mp hm
    exact (hi j q hj).obj
  keep := fun i h h' st k => by
    obtain ⟨hz, hTI, ⟨ws, hl, hTO⟩, hi⟩ := st
    exact ⟨k z (by simp) _ hz, k TI (by simp) _ hTI, ⟨ws, hl, k TO (by simp) _ hTO⟩, fun j q hj => (hi j q hj).at fun o e => k q.2.1 (by simp only [List.mem_cons]; exact .inr (.inr (.inr (List.mem_map.mpr ⟨q, List.mem_of_getElem? hj, rfl⟩)))) o e⟩
  item := by
    intro X hP hw hK hc i pins s σ H E I hf st hg
    subst hP hw hK
    obtain ⟨hz, hTI, ⟨ws, hl, hTO⟩, hi⟩ := st
    obtain ⟨ho, hlt⟩ := hg
    have hlen : ps.length = qs.length := by have := congrArg List.length hq; simpa using this.symm
    have at_ : ∀ (j : Nat) (q : ZQ), qs[j]? = some q → ∃ p : ZP, ps[j]? = some p ∧ q.1 = p.1 ∧ q.2.2 = p.2.1 := fun j q hj => by
      have hjl := (List.getElem?_eq_some_iff.mp hj).1
      refine ⟨ps[j]'(by omega), List.getElem?_eq_getElem _, ?_⟩
      have := congrArg (fun l => l[j]?) hq
      simp only [List.getElem?_map, hj, List.getElem?_eq_getElem (show j < ps.length by omega), Option.map_some, Option.some.injEq, Prod.mk.injEq] at this
      exact this
    obtain ⟨vss, hv⟩ := Classical.axiomOfChoice (r := fun (j : Nat) (vs : Array Value) => ∀ p : ZP, ps[j]? = some p → Vals p.2.2 vs.toList ∧ SrcAt s.heap p.1 p.2.1 vs) (fun j => by
      cases hp : ps[j]? with
      | none => exact ⟨#[], fun p e => by cases e⟩
      | some p =>
        obtain ⟨its, rv, sr⟩ := src_of I (ho p (List.mem_of_getElem? hp))
        exact ⟨its.toArray, fun p' e => by cases e; exact ⟨by simpa using rv, sr⟩⟩)
    have hzl : z < s.heap.objs.size := Heap.lt_size hz
    refine pyNext_zipN (I.ok.hd hc) D hne hn hz hTI hTO hl hi (vss := vss) (fun j q hj => ?_) (fun us hul hg h' z' TO' i' hT hsz hk => ?_) fun he h' hk => ?_
    · obtain ⟨p, hp, e1, e2⟩ := at_ j q hj
      rw [e1, e2]; exact (hv j p hp).2
    · refine ⟨_, rfl, wpAny_letOwnedTupleGo_zip (s := { s with heap := h' }) z' fun h'' z'' sb => ?_⟩
      have hT2 : IsTup h'' s.heap.objs.size us := (sb.2 _ (Nat.ne_of_gt hzl)).trans hT
      have rel : Vals (ps.map fun p => p.2.2.getD i .non) us := vals_of (by rw [List.length_map, hul, hlen]) fun j x u hx hu => by
        rw [List.getElem?_map] at hx
        obtain ⟨p, hp, rfl⟩ := Option.map_eq_some_iff.mp hx
        have hjl := (List.getElem?_eq_some_iff.mp hp).1
        obtain ⟨u', e1, e2⟩ := hg j (by omega)
        rw [hu] at e2; cases e2
        have rv := (hv j p hp).1
        have hi := hlt p (List.mem_of_getElem? hp)
        obtain ⟨u2, e3, r2⟩ := rv.get (List.getElem?_eq_getElem hi)
        rw [← Array.getElem?_toList] at e1
        rw [e1] at e3; cases e3
        rw [List.getD_eq_getElem?_getD, List.getElem?_eq_getElem hi]
        exact r2
      have new : ObjOk X.prog X.w (upd H s.heap.objs.size (.tup (ps.map fun p => p.2.2.getD i .non))) h'' s.heap.objs.size (.tup (ps.map fun p => p.2.2.getD i .non)) :=
        ⟨by show (ps.map _).length ≤ sizeLine; rw [List.length_map, hlen]; exact Nat.le_trans hn (by decide), us, rel, ⟨_, hT2, rfl, _, rfl⟩⟩
      have I1 : Inv X pins σ (upd H s.heap.objs.size (.tup (ps.map fun p => p.2.2.getD i .non))) { s with heap := h'' } :=
        I.turnedNew (t' := s.toks) (ch := z :: TI :: TO :: qs.map (·.2.1)) (fun c o hb q => (sb.2 c (fun q' => hb (by simp [q']))).trans (hk c o (fun q' => hb (by simp [q'])) (fun q' => hb (by simp [q'])) (fun r hr q' => hb (by rw [q']; simp only [List.mem_cons]; exact .inr (.inr (.inr (List.mem_map.mpr ⟨r, hr, rfl⟩))))) q)) hf (Nat.le_refl _) new
      refine ⟨.ref s.heap.objs.size, _, I1, rfl, ⟨_, rfl, I.hok.fresh (Nat.le_refl _), rfl⟩, ⟨z'', ?_, ⟨us, hul, ?_⟩, fun j q hj => ?_⟩, fun c hcm => ?_⟩
      · exact (sb.2 _ D.TIz).trans (hk _ _ D.TIz D.TITO (fun r hr => (D.it r hr).2.2.symm) hTI)
      · exact (sb.2 _ D.TOz).trans TO'
      · exact (i' j q hj).at fun o e => (sb.2 _ (D.it q (List.mem_of_getElem? hj)).1).trans e
      · have hlt : c < s.heap.objs.size := by
          rcases List.mem_cons.mp hcm with rfl | hcm
          · exact hzl
          rcases List.mem_cons.mp hcm with rfl | hcm
          · exact Heap.lt_size hTI
          rcases List.mem_cons.mp hcm with rfl | hcm
          · exact Heap.lt_size hTO
          obtain ⟨q, hm, rfl⟩ := List.mem_map.mp hcm
          obtain ⟨j, hj⟩ := List.mem_iff_getElem?.mp hm
          exact (hi j q hj).lt
        rw [upd_ne (Nat.ne_of_lt hlt)]
        exact (hf c hcm).1
    · obtain ⟨j, hj, hnone⟩ := he
      have hp : ps[j]? = some (ps[j]'(by omega)) := List.getElem?_eq_getElem _
      have rv := (hv j _ hp).1
      have hi := hlt _ (List.mem_of_getElem? hp)
      obtain ⟨u2, e3, _⟩ := rv.get (List.getElem?_eq_getElem hi)
      rw [← Array.getElem?_toList, e3] at hnone
      cases hnone
  done := by
    intro X hP hw hK hc i pins s σ H E I hf st hg
    subst hP hw hK
    obtain ⟨hz, hTI, ⟨ws, hl, hTO⟩, hi⟩ := st
    obtain ⟨ho, pe, hpe, hle⟩ := hg
    have hlen : ps.length = qs.length := by have := congrArg List.length hq; simpa using this.symm
    have at_ : ∀ (j : Nat) (q : ZQ), qs[j]? = some q → ∃ p : ZP, ps[j]? = some p ∧ q.1 = p.1 ∧ q.2.2 = p.2.1 := fun j q hj => by
      have hjl := (List.getElem?_eq_some_iff.mp hj).1
      refine ⟨ps[j]'(by omega), List.getElem?_eq_getElem _, ?_⟩
      have := congrArg (fun l => l[j]?) hq
      simp only [List.getElem?_map, hj, List.getElem?_eq_getElem (show j < ps.length by omega), Option.map_some, Option.some.injEq, Prod.mk.injEq] at this
      exact this
    obtain ⟨vss, hv⟩ := Classical.axiomOfChoice (r := fun (j : Nat) (vs : Array Value) => ∀ p : ZP, ps[j]? = some p → Vals p.2.2 vs.toList ∧ SrcAt s.heap p.1 p.2.1 vs) (fun j => by
      cases hp : ps[j]? with
      | none => exact ⟨#[], fun p e => by cases e⟩
      | some p =>
        obtain ⟨its, rv, sr⟩ := src_of I (ho p (List.mem_of_getElem? hp))
        exact ⟨its.toArray, fun p' e => by cases e; exact ⟨by simpa using rv, sr⟩⟩)
    refine pyNext_zipN (I.ok.hd hc) D hne hn hz hTI hTO hl hi (vss := vss) (fun j q hj => ?_) (fun us hul hg h' z' TO' i' hT hsz hk => ?_) fun he h' hk => ?_
    · obtain ⟨p, hp, e1, e2⟩ := at_ j q hj
      rw [e1, e2]; exact (hv j p hp).2
    · obtain ⟨j, hj⟩ := List.mem_iff_getElem?.mp hpe
      have hjl := (List.getElem?_eq_some_iff.mp hj).1
      obtain ⟨u, e1, _⟩ := hg j (by omega)
      have rv := (hv j pe hj).1
      rw [← Array.getElem?_toList] at e1
      have := (List.getElem?_eq_some_iff.mp e1).1
      have hl2 := rv.length
      omega
    · exact ⟨rfl, I.turnedL (t' := s.toks) (ch := z :: TI :: TO :: qs.map (·.2.1)) (fun c o hb q => hk c o (fun q' => hb (by simp [q'])) (fun q' => hb (by simp [q'])) (fun r hr q' => hb (by rw [q']; simp only [List.mem_cons]; exact .inr (.inr (.inr (List.mem_map.mpr ⟨r, hr, rfl⟩))))) q) hf⟩
  self := fun A i s Q E st h => wpAny_pyIter_zip st.1 h

/-! ### the rows -/
def tupN : List (List D) → List (List D)
  | [] => []
  | [xs] => xs.map fun d => [d]
  | xs :: r => (xs.zip (tupN r)).map fun p => p.1 :: p.2
def prsN (cols : List (List D)) : List D := (tupN cols).map .tuple
theorem tupN_get : ∀ {cols : List (List D)} {i : Nat} {row : List D}, (tupN cols)[i]? = some row → row = cols.map (fun c => c.getD i .none) ∧ ∀ c ∈ cols, i < c.length
  | [], i, row, h => by simp [tupN] at h
  | [xs], i, row, h => by
    unfold tupN at h
    rw [List.getElem?_map] at h
    obtain ⟨d, hd, rfl⟩ := Option.map_eq_some_iff.mp h
    have hl := (List.getElem?_eq_some_iff.mp hd).1
    have e : xs[i] = d := (List.getElem?_eq_some_iff.mp hd).2
    simp [List.getD_eq_getElem?_getD, hl, e]
  | xs :: y :: r, i, row, h => by
    unfold tupN at h
    rw [List.getElem?_map] at h
    obtain ⟨p, hp, rfl⟩ := Option.map_eq_some_iff.mp h
    obtain ⟨h1, h2⟩ := List.getElem?_zip_eq_some.mp hp
    obtain ⟨e, hl⟩ := tupN_get h2
    refine ⟨?_, fun c hc => ?_⟩
    · rw [List.map_cons, ← e, List.getD_eq_getElem?_getD, h1]; rfl
    · rcases List.mem_cons.mp hc with rfl | hc
      · exact (List.getElem?_eq_some_iff.mp h1).1
      · exact hl c hc
theorem tupN_end : ∀ {cols : List (List D)}, cols ≠ [] → ∃ c ∈ cols, c.length ≤ (tupN cols).length
  | [], h => absurd rfl h
  | [xs], _ => ⟨xs, by simp, by simp [tupN]⟩
  | xs :: y :: r, _ => by
    obtain ⟨c, hc, hl⟩ := tupN_end (cols := y :: r) (by simp)
    have e : (tupN (xs :: y :: r)).length = min xs.length (tupN (y :: r)).length := by
      show ((xs.zip (tupN (y :: r))).map _).length = _
      rw [List.length_map, List.length_zip]
    rw [e]
    by_cases h : xs.length ≤ (tupN (y :: r)).length
    · exact ⟨xs, by simp, by omega⟩
    · exact ⟨c, List.mem_cons_of_mem _ hc, by omega⟩
theorem rpA_of {K : PySem.W.Frag} {H : Hp} : ∀ {vs : List V} {ds : List D}, vs.length = ds.length → (∀ (j : Nat) (v : V) (d : D), vs[j]? = some v → ds[j]? = some d → Rp K H v d) → RpA K H vs ds
  | [], [], _, _ => .nil
  | v :: vs, d :: ds, hl, h => .cons (h 0 v d rfl rfl) (rpA_of (by simpa using hl) fun j v' d' h1 h2 => h (j + 1) v' d' h1 h2)
theorem itd_zipN {K : PySem.W.Frag} {H : Hp} {ps : List ZP} {cols : List (List D)} (hne : cols ≠ []) (hl : ps.length = cols.length) (hf : ∀ p ∈ ps, fzh K H p) (hr : ∀ (j : Nat) (p : ZP) (c : List D), ps[j]? = some p → cols[j]? = some c → RpA K H p.2.2 c) : ItD K (ItzN K ps) (prsN cols) H := by
  have lens : ∀ (j : Nat) (p : ZP) (c : List D), ps[j]? = some p → cols[j]? = some c → p.2.2.length = c.length := fun j p c h1 h2 => (hr j p c h1 h2).length
  refine ⟨fun H' m i hi => ⟨fun p hp => ((hf p hp).mono m).sq, fun p hp => ?_⟩, fun H' m => ⟨fun p hp => ((hf p hp).mono m).sq, ?_⟩, fun H' m i d x H2 hd y => ?_⟩
  · obtain ⟨j, hj⟩ := List.mem_iff_getElem?.mp hp
    have hjl := (List.getElem?_eq_some_iff.mp hj).1
    have hc : cols[j]? = some (cols[j]'(by omega)) := List.getElem?_eq_getElem _
    have hi' : i < (tupN cols).length := by unfold prsN at hi; rw [List.length_map] at hi; exact hi
    have := (tupN_get (List.getElem?_eq_getElem hi')).2 _ (List.mem_of_getElem? hc)
    rw [lens j p _ hj hc]; exact this
  · obtain ⟨c, hc, hle⟩ := tupN_end hne
    obtain ⟨j, hj⟩ := List.mem_iff_getElem?.mp hc
    have hjl := (List.getElem?_eq_some_iff.mp hj).1
    have hp : ps[j]? = some (ps[j]'(by omega)) := List.getElem?_eq_getElem _
    refine ⟨_, List.mem_of_getElem? hp, ?_⟩
    rw [lens j _ c hp hj]
    unfold prsN; rw [List.length_map]; exact hle
  · obtain ⟨T, rfl, hT, rfl⟩ := y
    unfold prsN at hd
    rw [List.getElem?_map] at hd
    obtain ⟨row, hrow, rfl⟩ := Option.map_eq_some_iff.mp hd
    obtain ⟨e, hlt⟩ := tupN_get hrow
    have s := same_upd (o := HO.tup (ps.map fun p => p.2.2.getD i .non)) hT
    refine ⟨s, .tup (SqT.of upd_same) (rpA_of (by rw [e, List.length_map, List.length_map, hl]) fun j v d h1 h2 => ?_)⟩
    rw [List.getElem?_map] at h1
    obtain ⟨p, hp, rfl⟩ := Option.map_eq_some_iff.mp h1
    rw [e, List.getElem?_map] at h2
    obtain ⟨c, hc, rfl⟩ := Option.map_eq_some_iff.mp h2
    have r := ((hr j p c hp hc).mono m)
    have hi := hlt c (List.mem_of_getElem? hc)
    have hi2 : i < p.2.2.length := by rw [lens j p c hp hc]; exact hi
    have e1 : p.2.2.getD i .non = p.2.2[i] := by rw [List.getD_eq_getElem?_getD, List.getElem?_eq_getElem hi2]; rfl
    have e2 : c.getD i .none = c[i] := by rw [List.getD_eq_getElem?_getD, List.getElem?_eq_getElem hi]; rfl
    rw [e1, e2]
    exact (r.getV (List.getElem?_eq_getElem hi2) (List.getElem?_eq_getElem hi)).same s
def colsD : List D → Option (List (List D))
  | [] => some []
  | d :: ds => match itemsD d, colsD ds with
    | some c, some cs => some (c :: cs)
    | _, _ => none
def zpA (n : Nat) (ds : List D) : Option (List D) := match colsD ds with
  | some (c :: cs) => if ds.length = n then some (prsN (c :: cs)) else none
  | _ => none
def zipA (n : Nat) (ms : List (M D)) : M (List D) := bnd (seqM ms) fun d => lft (zpA n d)
theorem parts_of {K : PySem.W.Frag} {H : Hp} : ∀ {vs : List V} {ds : List D} {cols : List (List D)}, RpA K H vs ds → colsD ds = some cols → ∃ ps : List ZP, vs = ps.map (fun p => V.ref p.2.1) ∧ ps.length = cols.length ∧ (∀ p ∈ ps, fzh K H p) ∧ ∀ (j : Nat) (p : ZP) (c : List D), ps[j]? = some p → cols[j]? = some c → RpA K H p.2.2 c
  | [], [], cols, .nil, h => by cases h; exact ⟨[], rfl, rfl, fun p hp => absurd hp (by simp), fun j p c h1 => by simp at h1⟩
  | v :: vs, d :: ds, cols, .cons r rr, h => by
    unfold colsD at h
    split at h
    · rename_i c cs hc hcs
      cases h
      obtain ⟨ps, e, hl, hf, hr⟩ := parts_of rr hcs
      have one : ∃ p : ZP, v = V.ref p.2.1 ∧ fzh K H p ∧ RpA K H p.2.2 c := by
        cases d with
        | list es => cases hc; cases r with | lst hl ra => exact ⟨(false, _, _), rfl, hl, ra⟩
        | tuple es => cases hc; cases r with | tup hl ra => exact ⟨(true, _, _), rfl, hl, ra⟩
        | _ => cases hc
      obtain ⟨p, rfl, h1, h2⟩ := one
      refine ⟨p :: ps, by rw [e]; rfl, by simp [hl], fun p' hp => ?_, fun j p' c' hp hc => ?_⟩
      · rcases List.mem_cons.mp hp with rfl | hp
        · exact h1
        · exact hf p' hp
      · cases j with
        | zero => cases hp; cases hc; exact h2
        | succ j => exact hr j p' c' hp hc
    · cases h
theorem ne2 {a b : Nat} (h : a ≠ b) : a ≠ b := h
theorem made_apart {s : Shared} {ps : List (Bool × Addr)} (hlt : ∀ p ∈ ps, (p : Bool × Addr).2 < s.heap.objs.size) : ZA (s.heap.objs.size + ps.length + 2) (s.heap.objs.size + ps.length) (s.heap.objs.size + ps.length + 1) (ps.zipIdx.map fun p => (p.1.1, s.heap.objs.size + p.2, p.1.2)) := by
  generalize s.heap.objs.size = S at hlt ⊢
  have mem : ∀ q ∈ (ps.zipIdx.map fun p => ((p.1.1, S + p.2, p.1.2) : ZQ)), ∃ i, i < ps.length ∧ q.2.1 = S + i ∧ q.2.2 < S := fun q hq => by
    obtain ⟨p, hp, rfl⟩ := List.mem_map.mp hq
    obtain ⟨x, i⟩ := p
    obtain ⟨h0, h1, e⟩ := List.mem_zipIdx hp
    refine ⟨i, by omega, rfl, ?_⟩
    show x.2 < S
    rw [e]
    exact hlt _ (List.getElem_mem _)
  refine ⟨Nat.ne_of_lt (by omega), Nat.ne_of_lt (by omega), Nat.ne_of_lt (by omega), fun q hq => ?_, fun q hq => ?_, ?_⟩
  · obtain ⟨i, hi, e, _⟩ := mem q hq
    rw [e]
    exact ⟨Nat.ne_of_lt (by omega), Nat.ne_of_lt (by omega), Nat.ne_of_lt (by omega)⟩
  · obtain ⟨i, hi, e, hl⟩ := mem q hq
    refine ⟨Nat.ne_of_lt (Nat.lt_of_lt_of_le hl (Nat.le_trans (Nat.le_add_right _ _) (Nat.le_add_right _ _))), Nat.ne_of_lt (Nat.lt_of_lt_of_le hl (Nat.le_trans (Nat.le_add_right _ _) (Nat.le_add_right _ _))), fun r hr => ?_⟩
    obtain ⟨i', hi', e', _⟩ := mem r hr
    rw [e']
    exact Nat.ne_of_lt (Nat.lt_of_lt_of_le hl (Nat.le_add_right _ _))
  · rw [List.map_map]
    have : (ps.zipIdx.map ((fun q : ZQ => q.2.1) ∘ fun p => (p.1.1, S + p.2, p.1.2))) = (List.range ps.length).map fun i => S + i := by
      apply List.ext_getElem?
      intro i
      simp only [List.getElem?_map, List.getElem?_zipIdx, Nat.zero_add]
      by_cases hi : i < ps.length
      · rw [List.getElem?_eq_getElem hi, List.getElem?_range hi]; rfl
      · rw [List.getElem?_eq_none (by omega), List.getElem?_eq_none (by simpa using hi)]; rfl
    rw [this]
    exact List.Pairwise.map _ (R := fun a b : Nat => a ≠ b) (fun a b h e => h (Nat.add_left_cancel e)) List.nodup_range
/-- from the making on -/
theorem made_pi {X : Cx} {pins : List (Addr × Obj)} {σ : SS} {H : Hp} {s : Shared} {elts : List Expr} {kk : Nat} {tpos : Pos} {R : It → Hp → Prop} {ps : List ZP} {h' : Heap} (I : Inv X pins σ H s) (hne : ps ≠ []) (hn : ps.length ≤ 4000) (ho : ∀ p ∈ ps, hold X.K H p) (m : Made s (ps.map fun p => (p.1, p.2.1)) h') (q : R (ItzN X.K ps) H) :
    wpAny (model X.prog X.w) X.A (pyIter (.ref (s.heap.objs.size + ps.length + 2))) (PIE X pins σ (.Tuple elts kk tpos) R) X.xe { s with heap := h' } := by
  obtain ⟨n, rfl, hz, hTI, hTO, hi, hk⟩ := m
  rw [List.length_map] at hz hTI hTO
  have I2 : Inv X pins σ H { s with heap := h' } := I.kept (t' := s.toks) hk
  have hlt : ∀ p ∈ (ps.map fun p => (p.1, p.2.1)), p.2 < s.heap.objs.size := fun p hp => by
    obtain ⟨p', hp', rfl⟩ := List.mem_map.mp hp
    obtain ⟨its, _, sr⟩ := src_of I (ho p' hp')
    exact sr.lt
  have D := made_apart (s := s) hlt
  rw [List.length_map] at D
  have hpos : 0 < ps.length := List.length_pos_iff.mpr hne
  have qlen : ((ps.map fun p => (p.1, p.2.1)).zipIdx.map fun p => ((p.1.1, s.heap.objs.size + p.2, p.1.2) : ZQ)).length = ps.length := by simp
  refine wpAny_pyIter_zip hz ⟨_, _, _, _, H, rfl, I2, turn_zipN D ?_ (fun e => ?_) (by rw [qlen]; exact hn), ⟨hz, ?_, ⟨_, ?_, hTO⟩, fun j r hj => ?_⟩, fun b hb => ?_, q⟩
  · rw [List.map_map]
    apply List.ext_getElem?
    intro i
    simp only [List.getElem?_map, List.getElem?_zipIdx, Nat.zero_add, Option.map_map, Function.comp_def]
  · exact absurd (qlen.symm.trans (congrArg List.length e)) (Nat.ne_of_gt hpos)
  · have e : its ((ps.map fun p => (p.1, p.2.1)).zipIdx.map fun p => ((p.1.1, s.heap.objs.size + p.2, p.1.2) : ZQ)) = (List.range ps.length).map fun i => Value.ref (s.heap.objs.size + i) := by
      unfold its
      rw [List.map_map]
      apply List.ext_getElem?
      intro i
      simp only [List.getElem?_map, List.getElem?_zipIdx, Nat.zero_add]
      by_cases hi : i < ps.length
      · rw [List.getElem?_eq_getElem hi, List.getElem?_range hi]; rfl
      · rw [List.getElem?_eq_none (by omega), List.getElem?_eq_none (by simpa using hi)]; rfl
    rw [e]; exact hTI
  · rw [List.length_replicate, qlen]
  · rw [List.getElem?_map, List.getElem?_zipIdx] at hj
    obtain ⟨p, hp, rfl⟩ := Option.map_eq_some_iff.mp hj
    obtain ⟨p', hp', rfl⟩ := Option.map_eq_some_iff.mp hp
    rw [Nat.zero_add]
    exact hi j p' hp'
  · have hle : s.heap.objs.size ≤ b := by
      rcases List.mem_cons.mp hb with rfl | hb
      · exact Nat.le_trans (Nat.le_add_right _ _) (Nat.le_add_right _ _)
      rcases List.mem_cons.mp hb with rfl | hb
      · exact Nat.le_add_right _ _
      rcases List.mem_cons.mp hb with rfl | hb
      · exact Nat.le_trans (Nat.le_add_right _ _) (Nat.le_add_right _ _)
      obtain ⟨q, hm, rfl⟩ := List.mem_map.mp hb
      obtain ⟨p, _, rfl⟩ := List.mem_map.mp hm
      exact Nat.le_add_right _ _
    exact I.fpOk hle (I.hok.fresh hle)
section
variable {X : Cx} {Z : ZC} {pos p : Pos}
theorem zip_post {σ : SS} {H : Hp} {R : It → Hp → Prop} {n : Nat} {ms : List (M D)} (h : tI X.K Z (zipA n ms) σ H R) : tMs X.K Z (seqM ms) σ H fun vs H1 => ∃ ps : List ZP, vs = ps.map (fun p => V.ref p.2.1) ∧ ps.length = n ∧ (∀ p ∈ ps, hold X.K H1 p) ∧ R (ItzN X.K ps) H1 := by
  obtain ⟨en, Rl, q⟩ := h
  refine ⟨en, Rl, tI_bnd q fun vs H1 d e1 ds m1 R1 r1 hd k => ?_⟩
  unfold zpA at hd
  split at hd
  · rename_i c cs hc
    split at hd
    · rename_i hn
      cases hd
      obtain ⟨ps, e, hl, hf, hr⟩ := parts_of r1 hc
      have hl2 := r1.length
      rw [e, List.length_map] at hl2
      exact ⟨ps, e, hl2.trans hn, fun p hp => (hf p hp).sq, k _ H1 .refl R1 (itd_zipN (by simp) hl hf hr)⟩
    · cases hd
  · cases hd
theorem i_zip2 {elts : List Expr} {kk : Nat} {tpos : Pos} {a b : Expr} {ms : List (M D)} (hg : Gl X "zip") (hm : X.mg "zip" = none) (h : PA X [a, b] (tMs X.K Z (seqM ms)))
    (hs : starEach [a, b] X.env = (false, eval a X.env) :: starEach [b] X.env := by rfl) (hpl : (backTo pos (starEach [b] X.env)).any (·.1) = false := by rfl) :
    PI X (.Tuple elts kk tpos) (.Call (.Name "zip" p) [a, b] [] pos) (tI X.K Z (zipA 2 ms)) := by
  refine ⟨fun pins s σ H R I q => ?_⟩
  refine Call_ (ld_blt I hg hm PyProof.Rows.boot_zip (PyProof.Rows.callWith_type1 (thn (h.run pos pins s σ H _ I (zip_post q)) fun us s1 ⟨vs, H1, I1, r1, q1⟩ => ?_) hs hpl))
  obtain ⟨ps, ex, hl, ho, q1⟩ := q1
  subst ex
  match ps, hl, r1, ho, q1 with
  | [p1, p2], _, r1, ho, q1 =>
    cases r1 with
    | cons r rr =>
      cases rr with
      | cons r' rr =>
        cases rr
        cases r
        cases r'
        obtain ⟨i1, _, s1'⟩ := src_of I1 (ho p1 (by simp))
        obtain ⟨i2, _, s2'⟩ := src_of I1 (ho p2 (by simp))
        exact call_zm2 s1' s2' fun h' m => made_pi I1 (by simp) (by simp) ho m q1
theorem i_zip3 {elts : List Expr} {kk : Nat} {tpos : Pos} {a b c : Expr} {ms : List (M D)} (hg : Gl X "zip") (hm : X.mg "zip" = none) (h : PA X [a, b, c] (tMs X.K Z (seqM ms)))
    (hs : starEach [a, b, c] X.env = (false, eval a X.env) :: starEach [b, c] X.env := by rfl) (hpl : (backTo pos (starEach [b, c] X.env)).any (·.1) = false := by rfl) :
    PI X (.Tuple elts kk tpos) (.Call (.Name "zip" p) [a, b, c] [] pos) (tI X.K Z (zipA 3 ms)) := by
  refine ⟨fun pins s σ H R I q => ?_⟩
  refine Call_ (ld_blt I hg hm PyProof.Rows.boot_zip (PyProof.Rows.callWith_type1 (thn (h.run pos pins s σ H _ I (zip_post q)) fun us s1 ⟨vs, H1, I1, r1, q1⟩ => ?_) hs hpl))
  obtain ⟨ps, ex, hl, ho, q1⟩ := q1
  subst ex
  match ps, hl, r1, ho, q1 with
  | [p1, p2, p3], _, r1, ho, q1 =>
    cases r1 with
    | cons r rr =>
      cases rr with
      | cons r' rr =>
        cases rr with
        | cons r'' rr =>
          cases rr
          cases r
          cases r'
          cases r''
          obtain ⟨i1, _, s1'⟩ := src_of I1 (ho p1 (by simp))
          obtain ⟨i2, _, s2'⟩ := src_of I1 (ho p2 (by simp))
          obtain ⟨i3, _, s3'⟩ := src_of I1 (ho p3 (by simp))
          exact call_zm3 s1' s2' s3' fun h' m => made_pi I1 (by simp) (by simp) ho m q1
end
end ZZ

namespace ZZ
open PySem PySem.Spec PyProof.Rows L2
variable [TabC]
/-! ### targets in targets -/
def nilT : List D → En → Option En
  | [], e => some e
  | _, _ => none
def consT (f : D → En → Option En) (fs : List D → En → Option En) : List D → En → Option En
  | d :: ds, e => (f d e).bind (fs ds)
  | [], _ => none
def seqT (n : Nat) (fs : List D → En → Option En) : D → En → Option En
  | .tuple ds, e => if ds.length = n then fs ds e else none
  | .list ds, e => if ds.length = n then fs ds e else none
  | _, _ => none
def TsW (K : PySem.W.Frag) (Z : ZC) (is : List Nat) (g : TGs) (f : List D → En → Option En) : Prop := ∀ (σ : SS) (H : Hp) (e e' : En) (vs : List V) (ds : List D) (Q : SS → Hp → Prop), Rel K Z σ H e → RpA K H vs ds → f ds e = some e' → (∀ σ', Rel K Z σ' H e' → (∀ vs, (∀ i ∈ is, i ∈ vs) → wipe σ' vs = wipe σ vs) → Q σ' H) → g vs σ H Q
theorem ts_nil {K : PySem.W.Frag} {Z : ZC} : TsW K Z [] gNil nilT := fun σ H e e' vs ds Q R r h q => by
  cases ds with
  | nil => cases r; cases h; exact ⟨rfl, q σ R fun _ _ => rfl⟩
  | cons d ds => cases h
theorem ts_cons {K : PySem.W.Frag} {Z : ZC} {is js : List Nat} {g : TG} {f : D → En → Option En} {gs : TGs} {fs : List D → En → Option En} (h1 : TgW K Z is g f) (h2 : TsW K Z js gs fs) : TsW K Z (is ++ js) (gCons g gs) (consT f fs) := fun σ H e e' vs ds Q R r h q => by
  cases ds with
  | nil => cases h
  | cons d ds =>
    cases r with
    | cons r1 r2 =>
      simp only [consT] at h
      obtain ⟨e1, a1, a2⟩ := Option.bind_eq_some_iff.mp h
      exact ⟨_, _, rfl, h1 σ H e e1 _ d _ R r1 a1 fun σ1 R1 w1 => h2 σ1 H e1 e' _ ds _ R1 r2 a2 fun σ2 R2 w2 => q σ2 R2 fun vs hv => (w2 vs fun j hj => hv j (List.mem_append_right _ hj)).trans (w1 vs fun j hj => hv j (List.mem_append_left _ hj))⟩
def gSq (K : PySem.W.Frag) (n : Nat) (gs : TGs) : TG := fun v σ H Q => gTup K n gs v σ H Q ∨ gUnl K n gs v σ H Q
theorem tw_x {K : PySem.W.Frag} {Z : ZC} {is : List Nat} {n : Nat} {gs : TGs} {fs : List D → En → Option En} (h : TsW K Z is gs fs) : TgW K Z is (gSq K n gs) (seqT n fs) := fun σ H e e' v d Q R r hf q => by
  cases d with
  | tuple ds =>
    obtain ⟨a, xs, rfl, ha, ra⟩ := rp_tup r
    simp only [seqT] at hf
    split at hf
    · rename_i hn
      exact .inl ⟨a, xs, rfl, ha, ra.length.trans hn, h σ H e e' xs ds Q R ra hf q⟩
    · cases hf
  | list ds =>
    obtain ⟨a, xs, rfl, ha, ra⟩ := rp_lst r
    simp only [seqT] at hf
    split at hf
    · rename_i hn
      exact .inr ⟨a, xs, rfl, ha, ra.length.trans hn, h σ H e e' xs ds Q R ra hf q⟩
    · cases hf
  | _ => cases hf
theorem tg_w {K : PySem.W.Frag} {Z : ZC} {is : List Nat} {g : TG} {f : D → En → Option En} (h : TgW K Z is g f) : TgOk K Z g f := fun σ H e e' v d Q R r hf q => h σ H e e' v d Q R r hf fun σ' R' _ => q σ' R'
section
variable {X : Cx} {pos : Pos}
theorem pg_sq {es : List Expr} {k : Nat} {n : Nat} {gs : TGs} (hc : X.calm = true) (h : PGs X es gs) (hn : (assignEach es X.env).length = n := by rfl) (hst : (assignEach es X.env).findIdx? (·.1) = none := by rfl) : PG X (.Tuple es k pos) (gSq X.K n gs) :=
  pg_or (pg_tup hc h hn hst) (pg_unl hc h hn hst)
end

/-! ### enumerate of a list or a tuple -/
section
variable {prog : Program} {w : World} {A : Around} {E : Value → Shared → Prop} {s : Shared}
theorem enumB_next {b : Bool} {e it l : Addr} {i : Nat} {items : Array Value} {x old : Value} {Q : Value → Shared → Prop}
    (he : IsEnum s.heap e it i old) (hit : ItrAt s.heap b it l i) (hl : SrcAt s.heap b l items) (hx : items[i]? = some x) (hne : e ≠ it)
    (hQ : ∀ h', IsEnumOut h' e it ((i : Int) + 1) x s.heap.objs.size → ItrAt h' b it l (i + 1) →
      h'.get? s.heap.objs.size = some { cls := .type "tuple", data := .seq #[.int i s.toks, x] } → h'.objs.size = s.heap.objs.size + 1 →
      (∀ b o, b ≠ e → b ≠ it → s.heap.get? b = some o → h'.get? b = some o) → Q (.ref s.heap.objs.size) { s with heap := h', toks := s.toks + 1 }) :
    wpAny (model prog w) A (Builtin.«enumerate.__next__» ⟨[.ref e], []⟩) (fun fin s' => ∃ v, fin = .done (.ret v) ∧ Q v s') E s := by
  obtain ⟨hp, g, d, tk, os⟩ := s
  show wpAny _ _ (field (.ref e) 2 >>= _) _ _ _
  refine wpAny_bind (wpAny_field he rfl (x := .ref it) rfl ?_)
  refine wpAny_bind (nx_item hit hl hx fun h₁ hit₁ hs₁ => ?_)
  replace hs₁ : Heap.SameBut it hp h₁ := hs₁
  have he₁ : IsEnum h₁ e it i old := (hs₁.2 e hne).trans he
  show wpAny _ _ (field (.ref e) 3 >>= _) _ _ ⟨h₁, g, d, tk, os⟩
  refine wpAny_bind (wpAny_field he₁ rfl (x := rawInt i) rfl ?_)
  show wpAny _ _ (field (.ref e) 4 >>= _) _ _ ⟨h₁, g, d, tk, os⟩
  refine wpAny_bind (wpAny_field he₁ rfl (x := .none) rfl ?_)
  show wpAny _ _ (mkInt i >>= _) _ _ ⟨h₁, g, d, tk, os⟩
  refine wpAny_bind (wpAny_mkInt ?_)
  show wpAny _ _ (setField (.ref e) 3 (rawInt ((i : Int) + 1)) >>= _) _ _ ⟨h₁, g, d, tk + 1, os⟩
  refine wpAny_bind (wpAny_setField_rec he₁ (by simp) fun h₂ he₂ hs₂ => ?_)
  replace hs₂ : Heap.SameBut e h₁ h₂ := hs₂
  replace he₂ : IsEnum h₂ e it ((i : Int) + 1) old := he₂
  show wpAny _ _ (setField (.ref e) 4 .none >>= _) _ _ ⟨h₂, g, d, tk + 1, os⟩
  refine wpAny_bind (wpAny_setField_rec he₂ (by simp) fun h₃ he₃ hs₃ => ?_)
  replace hs₃ : Heap.SameBut e h₂ h₃ := hs₃
  replace he₃ : IsEnum h₃ e it ((i : Int) + 1) old := he₃
  show wpAny _ _ (newTuple [.int i tk, x] >>= _) _ _ ⟨h₃, g, d, tk + 1, os⟩
  refine wpAny_bind (wpAny_newTuple ?_)
  have he₄ : IsEnum (h₃.push { cls := .type "tuple", data := .seq #[.int i tk, x] }) e it ((i : Int) + 1) old := Heap.get?_push_of_some _ he₃
  generalize hh₄ : h₃.push { cls := .type "tuple", data := .seq #[.int i tk, x] } = h₄ at he₄
  have hsz : h₃.objs.size = hp.objs.size := by rw [hs₃.1, hs₂.1, hs₁.1]
  have hel : e < hp.objs.size := Heap.lt_size he
  have ht₄ : h₄.get? hp.objs.size = some { cls := .type "tuple", data := .seq #[.int i tk, x] } := by rw [← hh₄, ← hsz]; exact Heap.get?_push_size _ rfl
  have hz₄ : h₄.objs.size = hp.objs.size + 1 := by rw [← hh₄, Heap.size_push, hsz]
  have hk₄ : ∀ b o, b ≠ e → b ≠ it → hp.get? b = some o → h₄.get? b = some o := fun b o hbe hbi hb => by
    rw [← hh₄]; exact Heap.get?_push_of_some _ (hs₃.extBut b o hbe (hs₂.extBut b o hbe (hs₁.extBut b o hbi hb)))
  have hit₄ : ItrAt h₄ b it l (i + 1) := by
    rw [← hh₄]; exact hit₁.at fun o ho => Heap.get?_push_of_some _ (hs₃.extBut _ _ (Ne.symm hne) (hs₂.extBut _ _ (Ne.symm hne) ho))
  show wpAny _ _ (Builtin.SmallTypes.ownedTupleIsFree (.ref e) >>= _) _ _ ⟨h₄, g, d, tk + 1, os⟩
  rw [hsz]
  clear hh₄ he₃ hs₃ he₂ hs₂ he₁ hs₁ hit₁ hsz h₃ h₂ h₁
  refine wpAny_bind ?_
  · unfold Builtin.SmallTypes.ownedTupleIsFree
    refine wpAny_bind (wpAny_field he₄ rfl (x := .none) rfl (wpAny_pure ?_))
    simp only [if_true]
    refine wpAny_bind (wpAny_rule ?_)
    refine wpAny_bind (wpAny_field he₄ rfl (x := old) rfl ?_)
    refine wpAny_bind (wpAny_setField_rec he₄ (by simp) fun h₅ he₅ hs₅ => ?_)
    replace hs₅ : Heap.SameBut e h₄ h₅ := hs₅
    replace he₅ : IsEnum h₅ e it ((i : Int) + 1) x := he₅
    show wpAny _ _ (Builtin.SmallTypes.ownedTupleHandOut (.ref e) (.ref hp.objs.size) >>= _) _ _ ⟨h₅, g, d, tk + 1, os⟩
    refine wpAny_bind ?_
    · unfold Builtin.SmallTypes.ownedTupleHandOut
      refine wpAny_bind (wpAny_setField_rec he₅ (by simp) fun h₆ he₆ hs₆ => ?_)
      replace hs₆ : Heap.SameBut e h₅ h₆ := hs₆
      replace he₆ : IsEnumOut h₆ e it ((i : Int) + 1) x hp.objs.size := he₆
      refine wpAny_setField_rec he₆ (by simp) fun h₇ he₇ hs₇ => ?_
      replace hs₇ : Heap.SameBut e h₆ h₇ := hs₇
      replace he₇ : IsEnumOut h₇ e it ((i : Int) + 1) x hp.objs.size := he₇
      refine wpAny_bind (wpAny_letGo (wpAny_pure ⟨_, rfl, hQ h₇ he₇ ?_ ?_ ?_ ?_⟩))
      · exact hit₄.at fun o ho => hs₇.extBut _ _ (Ne.symm hne) (hs₆.extBut _ _ (Ne.symm hne) (hs₅.extBut _ _ (Ne.symm hne) ho))
      · exact hs₇.extBut _ _ (Nat.ne_of_gt hel) (hs₆.extBut _ _ (Nat.ne_of_gt hel) (hs₅.extBut _ _ (Nat.ne_of_gt hel) ht₄))
      · rw [hs₇.1, hs₆.1, hs₅.1, hz₄]
      · exact fun b o hbe hbi hb => hs₇.extBut b o hbe (hs₆.extBut b o hbe (hs₅.extBut b o hbe (hk₄ b o hbe hbi hb)))
theorem pyNext_enumB {b : Bool} {e it l : Addr} {i : Nat} {items : Array Value} {x old : Value} {Q : Option Value → Shared → Prop}
    (he : IsEnum s.heap e it i old) (hit : ItrAt s.heap b it l i) (hl : SrcAt s.heap b l items) (hx : items[i]? = some x) (hne : e ≠ it)
    (hQ : ∀ h', IsEnumOut h' e it ((i : Int) + 1) x s.heap.objs.size → ItrAt h' b it l (i + 1) →
      h'.get? s.heap.objs.size = some { cls := .type "tuple", data := .seq #[.int i s.toks, x] } → h'.objs.size = s.heap.objs.size + 1 →
      (∀ b o, b ≠ e → b ≠ it → s.heap.get? b = some o → h'.get? b = some o) → Q (some (.ref s.heap.objs.size)) { s with heap := h', toks := s.toks + 1 }) :
    wpAny (model prog w) A (pyNext (.ref e)) Q E s := by
  have hT : s.TypeIs (.ref e) "enumerate" := ⟨_, he, rfl⟩
  unfold pyNext
  exact wpAny_bind (wpAny_attempt (wpAny_callSpecial?_slot (name := Str.ofString "__next__") hT F.slot_enumerate_next
    (wpAny_call_entry F.slot_enumerate_next hT F.entry_enumerate_next
      (enumB_next he hit hl hx hne fun h' a b c d k => wpAny_pure (hQ h' a b c d k)) (F.args_enumerate_next_1 _))))
theorem pyNext_enumB_end {b : Bool} {e it l : Addr} {i : Nat} {items : Array Value} {old : Value} {Q : Option Value → Shared → Prop} (hh : A.handled = none)
    (he : IsEnum s.heap e it i old) (hit : ItrAt s.heap b it l i) (hl : SrcAt s.heap b l items) (hx : items[i]? = none)
    (hQ : ∀ h', Heap.ExtBut it s.heap h' → Q none { s with heap := h' }) : wpAny (model prog w) A (pyNext (.ref e)) Q E s := by
  have hT : s.TypeIs (.ref e) "enumerate" := ⟨_, he, rfl⟩
  unfold pyNext
  refine wpAny_bind (wpAny_attempt (wpAny_callSpecial?_slot (name := Str.ofString "__next__") hT F.slot_enumerate_next
    (wpAny_call_entry F.slot_enumerate_next hT F.entry_enumerate_next ?_ (F.args_enumerate_next_1 _))))
  show wpAny _ _ (field (.ref e) 2 >>= _) _ _ _
  refine wpAny_bind (wpAny_field he rfl (x := .ref it) rfl ?_)
  refine wpAny_bind (nx_end hh hit hl hx fun h' x he' hx' => ?_)
  obtain ⟨o, ho, hc⟩ := hx'
  refine wpAny_bind (wpAny_isInstance (T := "StopIteration") (b := true) ⟨o, ho, hc⟩ isSubtype_stop ?_)
  exact wpAny_pure (hQ _ he')
end
theorem meets_enumT (l : Addr) (items : Array Value) (o : Obj) (ho : o.cls = .type "tuple") :
    Meets (Builtin.«enumerate.__new__» ⟨[.type "enumerate", .ref l], []⟩) (fun _ R s => (s.heap.get? l = some o ∧ s.heap.IsTuple l items) ∧
      R (.ok (.ret (.ref (s.heap.push (itO true l)).objs.size)))
        { s with heap := (s.heap.push (itO true l)).push { cls := .type "enumerate", data := .fields #[.none, .bool false, .ref s.heap.objs.size, rawInt 0, .none, .none] } }) :=
  .of_wp fun prog w A R s h => by
    obtain ⟨hp, g, d, tk, os⟩ := s; obtain ⟨⟨hl, hL⟩, h⟩ := h
    have hsub := sub_enumerate
    have hL : SrcAt (Shared.heap ⟨hp, g, d, tk, os⟩) true l items := hL
    wp_walk using AutoSeq1.wpAny_loadPart' hl
    refine wpAny_stack_any fun st => wpAny_pure ?_
    split
    · rename_i c _ _ _ _ _
      cases (c == Value.type "enumerate")
      · wp_walk using AutoSeq1.wpAny_loadPart' hl, pyIter_src hL
        exact ⟨_, rfl, h⟩
      · wp_walk using AutoSeq1.wpAny_loadPart' hl, pyIter_src hL
        exact ⟨_, rfl, h⟩
    · wp_walk using AutoSeq1.wpAny_loadPart' hl, pyIter_src hL
      exact ⟨_, rfl, h⟩
section
variable {prog : Program} {w : World} {A : Around} {E : Value → Shared → Prop} {s : Shared}
theorem call_enumB {b : Bool} {l : Addr} {items : Array Value} {Q : Value → Shared → Prop} (hL : SrcAt s.heap b l items)
    (h : ∀ h', IsEnum h' (s.heap.objs.size + 1) s.heap.objs.size 0 .none → ItrAt h' b s.heap.objs.size l 0 → h'.objs.size = s.heap.objs.size + 2 →
      (∀ b o, s.heap.get? b = some o → h'.get? b = some o) → Q (.ref (s.heap.objs.size + 1)) { s with heap := h' }) :
    wpAny (model prog w) A (call (.type "enumerate") [.ref l]) Q E s := by
  cases b with
  | false => exact call_enumerate_list hL fun h' a1 a2 a3 a4 => h h' a1 a2 a3 a4
  | true =>
    obtain ⟨o, hl, hc, n, hd⟩ := id hL
    refine callType_new F.called_enumerate (by decide) (F.typeCall_enumerate_1 _) (F.newCall_enumerate_1 _) (fun obj => F.args_object_init_2 obj _) F.entry_enumerate_new
      (meets_enumT l items o hc) ⟨⟨hl, hL⟩, ?_⟩
    have hz : (s.heap.push (itO true l)).objs.size = s.heap.objs.size + 1 := Heap.size_push ..
    show _ ∧ _
    rw [hz]
    have he : IsEnum ((s.heap.push (itO true l)).push
        { cls := .type "enumerate", data := .fields #[.none, .bool false, .ref s.heap.objs.size, rawInt 0, .none, .none] }) (s.heap.objs.size + 1) s.heap.objs.size 0 .none := by
      have := Heap.get?_push_size (s.heap.push (itO true l))
        (o := { cls := .type "enumerate", data := .fields #[.none, .bool false, .ref s.heap.objs.size, rawInt 0, .none, .none] }) rfl
      rw [hz] at this; exact this
    exact ⟨⟨_, he, rfl⟩, h _ he ⟨_, Heap.get?_push_of_some _ (Heap.get?_push_size _ rfl), rfl, rfl⟩ (by rw [Heap.size_push, hz]) fun b o x => Heap.get?_push_of_some _ (Heap.get?_push_of_some _ x)⟩
end
def IteB (K : PySem.W.Frag) (p : ZP) : It :=
  ⟨fun i H => hold K H p ∧ i < p.2.2.length, fun i H v H' => ∃ T, v = .ref T ∧ H T = none ∧ H' = upd H T (.tup [.int (i : Nat), p.2.2.getD i .non]), fun i H => hold K H p ∧ p.2.2.length ≤ i⟩
theorem turn_enumB {P : Program} {w : World} {K : PySem.W.Frag} {elts : List Expr} {kk : Nat} {tpos : Pos} (q : ZP) (e it : Addr) :
    Turn P w K (.Tuple elts kk tpos) (IteB K q) [e, it] e (fun i h => (∃ old, IsEnum h e it ((i : Nat) : Int) old) ∧ ItrAt h q.1 it q.2.1 i ∧ e ≠ it) where
  mem := by simp
  obj := fun i h st b hb => by
    obtain ⟨⟨old, he⟩, hi, _⟩ := st
    have e' : b = e ∨ b = it := by simpa using hb
    rcases e' with z | z
    · rw [z]; exact ⟨_, he, fun v q => nomatch q⟩
    · rw [z]; exact hi.obj
  keep := fun i h h' st k => let ⟨⟨old, he⟩, hi, hne⟩ := st; ⟨⟨old, k e (by simp) _ he⟩, hi.at fun o q => k it (by simp) o q, hne⟩
  item := by
    intro X hP hw hK hc i pins s σ H E I hf st hg
    subst hP hw hK
    obtain ⟨⟨old, he⟩, hit, hne⟩ := st
    obtain ⟨ho, hlt⟩ := hg
    obtain ⟨its, rv, sr⟩ := src_of I ho
    obtain ⟨u, hu, ru⟩ := rv.get (List.getElem?_eq_getElem hlt)
    have hel : e < s.heap.objs.size := Heap.lt_size he
    have hil : it < s.heap.objs.size := hit.lt
    refine pyNext_enumB he hit sr (x := u) (by simpa using hu) hne fun h' ho' hit' hT hsz hk => ?_
    refine ⟨_, rfl, wpAny_letOwnedTupleGo_enum (s := { s with heap := h', toks := s.toks + 1 }) ho' fun h'' he' sb => ?_⟩
    have hT2 : h''.get? s.heap.objs.size = some { cls := .type "tuple", data := .seq #[.int i s.toks, u] } := (sb.2 _ (Nat.ne_of_gt hel)).trans hT
    have eg : q.2.2.getD i .non = q.2.2[i] := by rw [List.getD_eq_getElem?_getD, List.getElem?_eq_getElem hlt]; rfl
    have new : ObjOk X.prog X.w (upd H s.heap.objs.size (.tup [.int (i : Nat), q.2.2.getD i .non])) h'' s.heap.objs.size (.tup [.int (i : Nat), q.2.2.getD i .non]) :=
      ⟨by show 2 ≤ sizeLine; decide, [.int i s.toks, u], .cons ⟨_, rfl⟩ (.cons (by rw [eg]; exact ru) .nil), ⟨_, hT2, rfl, _, rfl⟩⟩
    have I1 : Inv X pins σ (upd H s.heap.objs.size (.tup [.int (i : Nat), q.2.2.getD i .non])) { s with heap := h'', toks := s.toks + 1 } :=
      I.turnedNew (ch := [e, it]) (fun b ob hb q => (sb.2 b (fun z => hb (by simp [z]))).trans (hk b ob (fun z => hb (by simp [z])) (fun z => hb (by simp [z])) q)) hf (Nat.le_refl _) new
    refine ⟨.ref s.heap.objs.size, _, I1, rfl, ⟨_, rfl, I.hok.fresh (Nat.le_refl _), rfl⟩, ⟨⟨u, ?_⟩, hit'.at fun o q => (sb.2 it (Ne.symm hne)).trans q, hne⟩, fun b hb => ?_⟩
    · have e1 : ((i + 1 : Nat) : Int) = (i : Int) + 1 := by omega
      rw [e1]; exact he'
    · have hb' : b < s.heap.objs.size := by
        have e' : b = e ∨ b = it := by simpa using hb
        rcases e' with z | z
        · rw [z]; exact hel
        · rw [z]; exact hil
      rw [upd_ne (Nat.ne_of_lt hb')]
      exact (hf b hb).1
  done := by
    intro X hP hw hK hc i pins s σ H E I hf st hg
    subst hP hw hK
    obtain ⟨⟨old, he⟩, hit, hne⟩ := st
    obtain ⟨ho, hle⟩ := hg
    obtain ⟨its, rv, sr⟩ := src_of I ho
    obtain ⟨f0, f1, f2, f3, f4, f5⟩ := hf it (by simp)
    have hl := rv.length
    exact pyNext_enumB_end (I.ok.hd hc) he hit sr (by simp; omega) fun h' eb => ⟨rfl, I.turned (t' := s.toks) (fun b o hb q => eb b o hb q) f0 f1 f3 f4 f5⟩
  self := fun A i s Q E st h => let ⟨⟨_, he⟩, _⟩ := st; wpAny_pyIter_enum he h
theorem itd_enumB {K : PySem.W.Frag} {H : Hp} {p : ZP} {ds : List D} (h : fzh K H p) (r : RpA K H p.2.2 ds) : ItD K (IteB K p) (enm ds) H := by
  have len : (enm ds).length = p.2.2.length := by unfold enm prs; rw [List.length_map, List.length_zip, List.length_map, List.length_range, r.length]; omega
  refine ⟨fun H' m i hi => ⟨(h.mono m).sq, by omega⟩, fun H' m => ⟨(h.mono m).sq, by omega⟩, fun H' m i d x H2 hd y => ?_⟩
  obtain ⟨T, rfl, hT, rfl⟩ := y
  obtain ⟨u, w, e1, e2, rfl⟩ := prs_get hd
  rw [List.getElem?_map] at e1
  obtain ⟨j, hj, rfl⟩ := Option.map_eq_some_iff.mp e1
  obtain ⟨_, e⟩ := List.getElem?_eq_some_iff.mp hj
  rw [List.getElem_range] at e
  subst e
  have s := same_upd (o := HO.tup [.int (i : Nat), p.2.2.getD i .non]) hT
  have hi2 : i < p.2.2.length := by rw [r.length]; exact lt_of_get e2
  refine ⟨s, .tup (SqT.of upd_same) (.cons (.int _) (.cons ?_ .nil))⟩
  have e1 : p.2.2.getD i .non = p.2.2[i] := by rw [List.getD_eq_getElem?_getD, List.getElem?_eq_getElem hi2]; rfl
  have q := ((r.mono m).getV (List.getElem?_eq_getElem hi2) e2).same s
  rw [← e1] at q
  exact q
def enDB : List D → Option (List D)
  | [d] => (itemsD d).map enm
  | _ => none
def enumB (ms : List (M D)) : M (List D) := bnd (seqM ms) fun d => lft (enDB d)
section
variable {X : Cx} {Z : ZC} {pos p : Pos}
theorem i_enumB {elts : List Expr} {kk : Nat} {tpos : Pos} {a : Expr} {ms : List (M D)} (hg : Gl X "enumerate") (hm : X.mg "enumerate" = none) (h : PA X [a] (tMs X.K Z (seqM ms))) (hs : starEach [a] X.env = [(false, eval a X.env)] := by rfl) :
    PI X (.Tuple elts kk tpos) (.Call (.Name "enumerate" p) [a] [] pos) (tI X.K Z (enumB ms)) := by
  refine ⟨fun pins s σ H R I ⟨en, Rl, q⟩ => ?_⟩
  refine Call_ (ld_blt I hg hm boot_enumerate (PyProof.Rows.callWith_type1 (thn (h.run pos pins s σ H (fun vs H1 => ∃ p : ZP, vs = [V.ref p.2.1] ∧ hold X.K H1 p ∧ R (IteB X.K p) H1) I ⟨en, Rl, tI_bnd q fun vs H1 d e1 ds m1 R1 r1 hd k => ?_⟩) fun us s1 ⟨vs, H1, I1, r1, q1⟩ => ?_) hs rfl))
  · cases r1 with
    | nil => cases hd
    | cons r rr =>
      cases rr with
      | cons => cases hd
      | nil =>
        simp only [enDB] at hd
        obtain ⟨c, hc, rfl⟩ := Option.map_eq_some_iff.mp hd
        rename_i v d
        cases d with
        | list es => cases hc; cases r with | lst hl ra => exact ⟨(false, _, _), rfl, hl.sq, k _ H1 .refl R1 (itd_enumB (p := (false, _, _)) hl ra)⟩
        | tuple es => cases hc; cases r with | tup hl ra => exact ⟨(true, _, _), rfl, hl, k _ H1 .refl R1 (itd_enumB (p := (true, _, _)) hl ra)⟩
        | _ => cases hc
  · obtain ⟨p, ex, ho, q⟩ := q1
    subst ex
    cases r1 with
    | cons r rr =>
      cases rr
      cases r
      obtain ⟨its, rv, sr⟩ := src_of I1 ho
      refine call_enumB sr fun h' he hit hsz hk => wpAny_pyIter_enum he ?_
      have I2 : Inv X pins σ H1 { s1 with heap := h' } := I1.kept (t' := s1.toks) hk
      refine ⟨s1.heap.objs.size + 1, [s1.heap.objs.size + 1, s1.heap.objs.size], _, _, H1, rfl, I2, turn_enumB p (s1.heap.objs.size + 1) s1.heap.objs.size, ⟨⟨.none, he⟩, hit, Nat.succ_ne_self _⟩, fun b hb => ?_, q⟩
      have e' : b = s1.heap.objs.size + 1 ∨ b = s1.heap.objs.size := by simpa using hb
      have hle : s1.heap.objs.size ≤ b := by
        rcases e' with z | z
        · rw [z]; exact Nat.le_add_right _ _
        · rw [z]; exact Nat.le_refl _
      exact I1.fpOk hle (I1.hok.fresh hle)
end
end ZZ

namespace ZZ
variable [TabC]
/-- how often a while loop may turn -/
@[irreducible] def FUEL : Nat := 4294967296
theorem fuel_big : 4294967295 < FUEL := by unfold FUEL; decide
end ZZ

namespace ZZ
open PySem PySem.Spec PyProof.Rows L2 PySem.W
variable [TabC]
/-! ### data that the heap shows -/
mutual
theorem Rp.shows {X : Cx} {pins : List (Addr × Obj)} {σ : SS} {H : Hp} {s : Shared} (I : Inv X pins σ H s) : ∀ {v : V} {d : D}, Rp X.K H v d → PyData.canLay0 d = true → ∀ u : Value, RelV v u → ∃ as, Reads s.heap u d as
  | _, _, .non, _, u, r => by cases r; exact ⟨_, .none⟩
  | _, _, .bl b, _, u, r => by cases r; exact ⟨_, .bool b⟩
  | _, _, .int i, _, u, r => by obtain ⟨t, rfl⟩ := r; exact ⟨_, .int i t⟩
  | _, _, .str x, _, u, r => by obtain ⟨t, rfl⟩ := r; exact ⟨_, .str x t⟩
  | _, _, .lst h ra, c, u, r => by
    cases r
    obtain ⟨its, rv, pl, _⟩ := I.list h.sq
    obtain ⟨o, ho, hc, n, hd⟩ := pl.isList
    obtain ⟨as, hr⟩ := RpA.shows I ra (by simpa only [PyData.canLay0] using c) its rv
    exact ⟨_, .list ho hc hd (by simpa using hr)⟩
  | _, _, .tup h ra, c, u, r => by
    cases r
    obtain ⟨its, rv, pl, _⟩ := I.tuple h
    obtain ⟨o, ho, hc, n, hd⟩ := pl
    obtain ⟨as, hr⟩ := RpA.shows I ra (by simpa only [PyData.canLay0] using c) its rv
    exact ⟨_, .tuple ho hc hd (by simpa using hr)⟩
  | _, _, .dic h r, c, u, _ => by simp only [PyData.canLay0] at c; cases c
theorem RpA.shows {X : Cx} {pins : List (Addr × Obj)} {σ : SS} {H : Hp} {s : Shared} (I : Inv X pins σ H s) : ∀ {v : List V} {d : List D}, RpA X.K H v d → PyData.canLayAll0 d = true → ∀ us : List Value, Vals v us → ∃ as, ReadsAll s.heap us d as
  | _, _, .nil, _, us, r => by cases r; exact ⟨_, .nil⟩
  | _, _, .cons a t, c, us, r => by
    simp only [PyData.canLayAll0, Bool.and_eq_true] at c
    cases r with
    | cons r1 r2 =>
      obtain ⟨as, h1⟩ := Rp.shows I a c.1 _ r1
      obtain ⟨bs, h2⟩ := RpA.shows I t c.2 _ r2
      exact ⟨_, .cons h1 h2⟩
end
/-! ### sorted -/
section
variable {prog : Program} {w : World} {A : Around} {E : Value → Shared → Prop} {s : Shared}
theorem collect_src {b : Bool} {l : Addr} {vs : List Value} {Q : List Value → Shared → Prop} (hl : SrcAt s.heap b l vs.toArray) (hsz : vs.length ≤ sizeLine) (h : Q vs { s with heap := (s.heap.push (seqObj "list" #[] 0)).update s.heap.objs.size (Obj.mapSeq (· ++ vs.toArray)) }) :
    wpAny (model prog w) A (collect (.ref l)) Q E s := by
  cases b with
  | false => exact collect_list hl h hsz
  | true =>
    obtain ⟨o, ho, hc, n, hd⟩ := id hl
    unfold collect
    refine wpAny_bind (wpAny_runValue (codeAny_builtin entry_proto_collect' ?_))
    show wpAny _ _ (do again (.builtin "list.__iadd__" ⟨[← newList [], .ref l], []⟩)) _ _ s
    refine wpAny_bind (wpAny_newList (wpAny_pure ⟨Code.quiet_builtin _ (by decide +kernel), codeAny_builtin entry_list_iadd' ?_⟩))
    show wpAny _ _ (Builtin.List.listExtendWith (.ref s.heap.objs.size) (.ref l) (.ref s.heap.objs.size)) _ _ { s with heap := s.heap.push (seqObj "list" #[] 0) }
    unfold Builtin.List.listExtendWith
    have up : (s.heap.push (seqObj "list" #[] 0)).get? l = some o := Heap.get?_push_of_some _ ho
    refine wpAny_bind (wpAny_typeOf (T := "tuple") ⟨o, up, hc⟩ ?_)
    have isT : (Value.type "tuple" == Value.type "tuple") = true := by rfl
    rw [if_pos (by rw [isT]; simp)]
    refine wpAny_bind (listItems_at up hd ?_); refine wpAny_bind (listItems_at (xs := #[]) (n := 0) (Heap.get?_push_size _ rfl) rfl ?_); rw [if_neg (by simp)]
    refine wpAny_bind (listUpdate_at (xs := #[]) (n := 0) (Heap.get?_push_size _ rfl) rfl ?_ (Nat.zero_le _) (by show (#[] ++ vs.toArray).size ≤ sizeLine + 1; simp only [Array.size_append, List.size_toArray, List.length_nil]; omega)); refine wpAny_pure ?_
    refine wpAny_bind (wpAny_load (get?_update_seq (Heap.get?_push_size _ rfl) _) ?_)
    show wpAny _ _ (pure ((#[] : Array Value) ++ vs.toArray).toList) Q E _
    have e : ((#[] : Array Value) ++ vs.toArray).toList = vs := by simp
    rw [e]; exact wpAny_pure h
theorem sorted_src {β : Type} {b : Bool} {l : Addr} {vs : List Value} {bs : List β} {R : Value → β → Prop} {enc : β → PyData} {Q : Value → Shared → Prop} (hl : SrcAt s.heap b l vs.toArray) (e : EachIs R vs bs) (er : EachIs (fun v b => ∃ as, Reads s.heap v (enc b) as) vs bs) (hal : AllAlike (bs.map enc)) (hk : Sortable (bs.map enc)) (hL : bs.length ≤ sizeLine)
    (hu : ∀ b, b ∈ bs → A.units + 2 + (enc b).depth < cLine) (h : ∀ out, out.length = bs.length → EachIs R out (bs.mergeSort (dataLe false enc)) → Q (.ref (s.heap.objs.size + 1)) { s with heap := sortedAll s.heap vs (List.toArray out) }) :
    wpAny (model prog w) A (call (.builtin "sorted") [.ref l]) Q E s := by
  have er' : EachIs (fun v b => ∃ as, Reads (sortingHeap (copyHeap s.heap vs) (s.heap.objs.size + 1) vs) v (enc b) as) vs bs := er.mono fun _ _ ⟨as, r⟩ => ⟨as, PyProof.Rows.Reads.keeps (fun _ _ => sorting_copy_old) r⟩
  have hL' : vs.length ≤ sizeLine := by rw [e.length]; exact hL
  have S := SortsAt.data (prog := prog) (w := w) (A := A.in1.in1) (s := { s with heap := sortingHeap (copyHeap s.heap vs) (s.heap.objs.size + 1) vs }) (each_map (R := fun v d => ∃ as, Reads (sortingHeap (copyHeap s.heap vs) (s.heap.objs.size + 1) vs) v d as) enc er') hal hk (bound_map (A := A.in1.in1) hu)
  have q := h _ (by rw [sortVals_length false rfl]; exact e.length) (sortVals_data false e er' hal)
  refine call_function_entry_kw kind_sorted plain_sorted entry_sorted (args_sorted1 _) ?_
  unfold Builtin.«sorted»
  refine wpAny_bind (m := checkCount "sorted" 1 1 _) (wpAny_pure (wpAny_bind (collect_src hl hL' (wpAny_bind (wpAny_newList ?_ hL')))))
  have sz : ((s.heap.push (seqObj "list" #[] 0)).update s.heap.objs.size (Obj.mapSeq (· ++ vs.toArray))).objs.size = s.heap.objs.size + 1 := by rw [Heap.size_update, size_push']
  show wpAny _ _ _ _ _ { s with heap := copyHeap s.heap vs }
  rw [sz]
  refine wpAny_bind (wpAny_holding (wpAny_call_entry_kw slot_list_sort ⟨_, copyHeap_at s.heap vs, rfl⟩ entry_list_sort ?body (args_list_sort _)))
  case body =>
    show wpAny (model prog w) A.in1.in1 (Builtin.«list.sort» ⟨[.ref (s.heap.objs.size + 1)], []⟩) _ _ _
    exact list_sort_vals (s := { s with heap := copyHeap s.heap vs }) (copyHeap_at s.heap vs) S hL' ⟨_, rfl, wpAny_pure ⟨_, rfl, q⟩⟩
end
def alikeB (ds : List D) : Bool := ds.all fun d => ds.all fun e => alike d e
def isTup1 : D → Bool
  | .tuple (_ :: _) => true
  | _ => false
def noNT : D → Bool
  | .none => false
  | .tuple _ => false
  | _ => true
def sortOk (ds : List D) : Bool := alikeB ds && (ds.all isTup1 || ds.all noNT) && PyData.canLayAll0 ds && ds.all fun d => decide (d.depth ≤ 60)
def sortL (ds : List D) : List D := ds.mergeSort (dataLe false id)
def sortD : D → Option D
  | .list ds => if sortOk ds = true then some (.list (sortL ds)) else none
  | .tuple ds => if sortOk ds = true then some (.list (sortL ds)) else none
  | _ => none
theorem sortOk_of {ds : List D} (h : sortOk ds = true) : AllAlike (ds.map id) ∧ Sortable (ds.map id) ∧ PyData.canLayAll0 ds = true ∧ ∀ d ∈ ds, d.depth ≤ 60 := by
  unfold sortOk at h
  simp only [Bool.and_eq_true, Bool.or_eq_true] at h
  obtain ⟨⟨⟨h1, h2⟩, h3⟩, h4⟩ := h
  rw [List.map_id]
  refine ⟨fun d hd e he => ?_, ?_, h3, fun d hd => ?_⟩
  · unfold alikeB at h1
    exact List.all_eq_true.mp (List.all_eq_true.mp h1 d hd) e he
  · rcases h2 with h2 | h2
    · refine .inl fun d hd => ?_
      have := List.all_eq_true.mp h2 d hd
      unfold isTup1 at this
      split at this
      · exact ⟨_, _, rfl⟩
      · cases this
    · refine .inr fun d hd => ?_
      have := List.all_eq_true.mp h2 d hd
      refine ⟨fun e => ?_, fun xs e => ?_⟩
      · rw [e] at this; cases this
      · rw [e] at this; cases this
  · have := List.all_eq_true.mp h4 d hd
    exact of_decide_eq_true this
def rSortD (K : PySem.W.Frag) : List V → Hp → VK → Prop := fun vs H Q => ∃ (q : ZP) (ds : List D), vs = [.ref q.2.1] ∧ hold K H q ∧ RpA K H q.2.2 ds ∧ sortOk ds = true ∧ ∀ (zs : List V) (l : Addr), RpA K H zs (sortL ds) → H l = none → Q (.ref l) (upd H l (.lst zs))
theorem each_rel {X : Cx} {H : Hp} : ∀ {vs : List V} {us : List Value} {ds : List D}, Vals vs us → RpA X.K H vs ds → EachIs (fun (u : Value) (d : D) => ∃ v, RelV v u ∧ Rp X.K H v d) us ds
  | _, _, _, .nil, .nil => .nil
  | _, _, _, .cons r t, .cons a b => .cons ⟨_, r, a⟩ (each_rel t b)
theorem rel_each {X : Cx} {H : Hp} : ∀ {us : List Value} {ds : List D}, EachIs (fun (u : Value) (d : D) => ∃ v, RelV v u ∧ Rp X.K H v d) us ds → ∃ vs, Vals vs us ∧ RpA X.K H vs ds
  | _, _, .nil => ⟨[], .nil, .nil⟩
  | _, _, .cons ⟨v, r, a⟩ t => by
    obtain ⟨vs, h1, h2⟩ := rel_each t
    exact ⟨v :: vs, .cons r h1, .cons a h2⟩
theorem each_reads {h : Heap} : ∀ {us : List Value} {ds : List D} {as : List Addr}, ReadsAll h us ds as → EachIs (fun v b => ∃ as, Reads h v (id b) as) us ds
  | _, _, _, .nil => .nil
  | _, _, _, .cons r t => .cons ⟨_, r⟩ (each_reads t)
theorem sortL_len (ds : List D) : (sortL ds).length = ds.length := by unfold sortL; rw [List.length_mergeSort]
section
variable {X : Cx}
theorem cr_sortD (hu : X.A.units + 66 < cLine) : CallR X (.builtin "sorted") (rSortD X.K) := by
  intro pins s σ H vs us Q I r h
  obtain ⟨p, ds, rfl, ho, ra, ok, q⟩ := h
  obtain ⟨h1, h2, h3, h4⟩ := sortOk_of ok
  obtain ⟨its, rv, sr⟩ := src_of I ho
  rw [Vals.ref1 r]
  have hl : its.length = ds.length := by rw [← rv.length, ra.length]
  obtain ⟨as, hr⟩ := RpA.shows I ra h3 its rv
  have hz : ds.length ≤ sizeLine := by
    obtain ⟨b, a, xs⟩ := p
    rw [← ra.length]
    cases b with
    | true => obtain ⟨_, _, _, z⟩ := I.tuple ho; exact z
    | false => obtain ⟨_, _, _, z⟩ := I.list ho; exact z
  refine sorted_src sr (each_rel rv ra) (each_reads hr) h1 h2 hz (fun d hd => ?_) fun out hlen he => ?_
  · have := h4 d hd
    show X.A.units + 2 + d.depth < cLine
    omega
  · obtain ⟨zs, v1, v2⟩ := rel_each he
    obtain ⟨ep, he'⟩ := PyProof.Rows.sortedAll_at s.heap its out.toArray
    have hzl : zs.length ≤ sizeLine := by rw [v1.length, hlen]; exact hz
    exact ⟨.ref _, upd H (s.heap.objs.size + 1) (.lst zs), I.laid (t' := s.toks) (fun _ _ => PyProof.Rows.sortedAll_old) (Nat.le_succ _) ⟨hzl, out, ep, v1, he'⟩, rfl, q zs _ v2 (I.hok.fresh (Nat.le_succ _))⟩
theorem b_sortD {K : PySem.W.Frag} : Cal1O K (rSortD K) sortD := fun v x d H Q hx h q => by
  have go : ∀ (p : ZP) (ds : List D), v = .ref p.2.1 → hold K H p → RpA K H p.2.2 ds → sortOk ds = true → d = .list (sortL ds) → rSortD K [v] H Q := fun p ds e1 e2 e3 e4 e5 => by
    refine ⟨p, ds, by rw [e1], e2, e3, e4, fun zs l rz hl => ?_⟩
    subst e5
    exact q l _ (same_upd hl) ⟨zs, upd_same, rz.mono (.same (same_upd hl))⟩ hl
  unfold sortD at h
  split at h
  · split at h
    · rename_i ok
      cases h
      obtain ⟨a, xs, rfl, hs, r⟩ := rq_lst hx
      exact go (false, a, xs) _ rfl hs r ok rfl
    · cases h
  · split at h
    · rename_i ok
      cases h
      obtain ⟨a, xs, rfl, hs, r⟩ := rq_tup hx
      exact go (true, a, xs) _ rfl hs r ok rfl
    · cases h
  · cases h
variable {Z : ZC} {p pos : Pos} {a b c : Expr} {m : M D}
theorem e_f1O {id : String} {x : Str} {r : List V → Hp → VK → Prop} {op : D → Option D} (hc : CallR X (.builtin id) r) (h : Cal1O X.K r op) (hv : bootBuiltins x = some (.builtin id)) (hg : Gl X x) (hm : X.mg x = none) (ha : PE X a (tQ X.K Z m)) (hn : x ≠ "__name__" := by decide) (hdb : (x == ("__debug__" : Str)) = false := by decide)
    (he : starEach [a] X.env = (false, eval a X.env) :: starEach [] X.env := by rfl) : PE X (.Call (.Name x p) [a] [] pos) (tO X.K Z (una op m)) :=
  PE_weak (pe_callB hc hg hm hv (pa_cons ha pa_nil he) hn hdb he) (t_c1O h)
theorem e_sorted (hu : X.A.units + 66 < cLine) (hg : Gl X "sorted") (hm : X.mg "sorted" = none) (ha : PE X a (tQ X.K Z m)) (he : starEach [a] X.env = (false, eval a X.env) :: starEach [] X.env := by rfl) : PE X (.Call (.Name "sorted" p) [a] [] pos) (tO X.K Z (una sortD m)) :=
  e_f1O (cr_sortD hu) b_sortD PyProof.Rows.boot_sorted hg hm ha (he := he)
end
end ZZ

namespace ZZ
open PySem PySem.Spec PyProof.Rows L2 PySem.W
variable [TabC]
/-! ### tuple(range(a, b, c)), a for over it -/
def rsz (a b c : Int) : Nat := (Builtin.Range.rangeSize a b c).toNat
def rg3Ok (a b c : Int) : Bool := decide (c ≠ 0) && decide (c.natAbs < 1073741824) && Builtin.Range.small a b c && decide (0 ≤ Builtin.Range.rangeSize a b c) && decide (Builtin.Range.rangeSize a b c ≤ 16777216)
theorem rg3Ok_of {a b c : Int} (h : rg3Ok a b c = true) : RgC a b c (rsz a b c) ∧ rsz a b c ≤ 2 ^ 24 := by
  unfold rg3Ok at h
  simp only [Bool.and_eq_true, decide_eq_true_eq] at h
  obtain ⟨⟨⟨⟨h1, h2⟩, h3⟩, h4⟩, h5⟩ := h
  refine ⟨⟨h1, h2, h3, ?_⟩, ?_⟩
  · unfold rsz; omega
  · unfold rsz; omega
def trg3 : List D → Option D
  | [.int a, .int b, .int c] => if rg3Ok a b c = true then some (.tuple (rngC a c (rsz a b c))) else none
  | _ => none
def irg3 : List D → Option (List D)
  | [.int a, .int b, .int c] => if rg3Ok a b c = true then some (rngC a c (rsz a b c)) else none
  | _ => none
def seqOp (f : List D → Option D) (ms : List (M D)) : M D := bnd (seqM ms) fun d => lft (f d)
def range3p (ms : List (M D)) : M (List D) := bnd (seqM ms) fun d => lft (irg3 d)
def rgVC (a c : Int) (n : Nat) : List V := (List.range n).map fun i => V.int (a + (i : Nat) * c)
theorem vals_rgC {a c : Int} {n : Nat} {acc : Array Value} (h : ItemsOf (fun i v => ∃ t, v = .int (a + i * c) t) acc n) : Vals (rgVC a c n) acc.toList := by
  have e : acc.toList.length = n := by rw [Array.length_toList]; exact h.1
  refine vals_of ?_ fun j x u hx hu => ?_
  · unfold rgVC; rw [List.length_map, List.length_range, e]
  · unfold rgVC at hx
    rw [List.getElem?_map] at hx
    obtain ⟨k, hk, rfl⟩ := Option.map_eq_some_iff.mp hx
    obtain ⟨_, hk'⟩ := List.getElem?_eq_some_iff.mp hk
    rw [List.getElem_range] at hk'
    subst hk'
    rw [Array.getElem?_toList] at hu
    obtain ⟨t, rfl⟩ := h.2 j u hu
    exact ⟨t, rfl⟩
theorem rgVC_rp {K : PySem.W.Frag} {H : Hp} {a c : Int} {n : Nat} : RpA K H (rgVC a c n) (rngC a c n) := by
  unfold rgVC rngC
  have : ∀ l : List Nat, RpA K H (l.map fun i => V.int (a + (i : Nat) * c)) (l.map fun i => PyData.int (a + (i : Nat) * c)) := fun l => by
    induction l with
    | nil => exact .nil
    | cons i l ih => exact .cons (.int _) ih
  exact this _
section
variable {X : Cx} {Z : ZC} {pos p p' pos2 : Pos} {a b c : Expr} {ms : List (M D)}
theorem seq3 {K : PySem.W.Frag} {H : Hp} {vs : List V} {x y z : Int} (r : RpA K H vs [.int x, .int y, .int z]) : vs = [.int x, .int y, .int z] := by
  cases r with
  | cons r1 r2 =>
    cases r2 with
    | cons r2 r3 =>
      cases r3 with
      | cons r3 r4 =>
        cases r4
        cases rp_int r1
        cases rp_int r2
        cases rp_int r3
        rfl
theorem i_rg3p {tg : Expr} (hg : Gl X "range") (hm : X.mg "range" = none) (h : PA X [a, b, c] (tMs X.K Z (seqM ms))) (hs : starEach [a, b, c] X.env = (false, eval a X.env) :: starEach [b, c] X.env := by rfl) (hpl : (backTo pos (starEach [b, c] X.env)).any (·.1) = false := by rfl) : PI X tg (.Call (.Name "range" p) [a, b, c] [] pos) (tI X.K Z (range3p ms)) :=
  PI_weak (pi_range3 hg hm h hs hpl) fun σ H R ⟨en, Rl, q⟩ => ⟨en, Rl, tI_bnd q fun vs H1 d e1 ds m1 R1 r1 hd k => by
    unfold irg3 at hd
    split at hd
    · split at hd
      · rename_i i j k' ok
        cases hd
        exact ⟨i, j, k', _, seq3 r1, (rg3Ok_of ok).1, k _ H1 .refl R1 itd_rngC⟩
      · cases hd
    · cases hd⟩
theorem e_trg3 (hc : X.calm = true) (hg : Gl X "tuple") (hm : X.mg "tuple" = none) (hg' : Gl X "range") (hm' : X.mg "range" = none) (h : PA X [a, b, c] (tMs X.K Z (seqM ms)))
    (hs : starEach [a, b, c] X.env = (false, eval a X.env) :: starEach [b, c] X.env := by rfl) (hpl : (backTo pos2 (starEach [b, c] X.env)).any (·.1) = false := by rfl)
    (nb : starEach [.Call (.Name "range" p') [a, b, c] [] pos2] X.env = (false, eval (.Call (.Name "range" p') [a, b, c] [] pos2) X.env) :: starEach [] X.env := by rfl) :
    PE X (.Call (.Name "tuple" p) [.Call (.Name "range" p') [a, b, c] [] pos2] [] pos) (tM X.K Z (seqOp trg3 ms)) := by
  refine ⟨fun pins s σ H Q I ⟨en, Rl, q⟩ => ?_⟩
  have inner : wpAny (model X.prog X.w) X.A (eval (.Call (.Name "range" p') [a, b, c] [] pos2) X.env) (fun x s' => ∃ (r : Addr) (i j k : Int) (t u v : Tok) (H1 : Hp), x = .ref r ∧ IsRange s'.heap r i j k t u v ∧ Inv X pins σ H1 s' ∧ rg3Ok i j k = true ∧ ∀ l, H1 l = none → Q (.ref l) (upd H1 l (.tup (rgVC i k (rsz i j k))))) X.xe s := by
    refine Call_ (ld_blt I hg' hm' boot_range (PyProof.Rows.callWith_type1 (thn (h.run pos2 pins s σ H (fun vs H1 => ∃ i j k, vs = [.int i, .int j, .int k] ∧ rg3Ok i j k = true ∧ ∀ l, H1 l = none → Q (.ref l) (upd H1 l (.tup (rgVC i k (rsz i j k))))) I ⟨en, Rl, pst_bnd q fun vs H1 ds e1 m1 R1 r1 p1 => ?_⟩) fun us s1 ⟨vs, H1, I1, r1, q1⟩ => ?_) hs hpl))
    · obtain ⟨d, hd, k⟩ := pst_lft p1
      unfold trg3 at hd
      split at hd
      · split at hd
        · rename_i i j k' ok
          cases hd
          refine ⟨i, j, k', seq3 r1, ok, fun l hl => k _ _ (.same (same_upd hl)) (R1.same (same_upd hl)) (.tup (SqT.of upd_same) rgVC_rp)⟩
        · cases hd
      · cases hd
    · obtain ⟨i, j, k, rfl, ok, q1⟩ := q1
      obtain ⟨⟨c0, c1, _, _⟩, _⟩ := rg3Ok_of ok
      cases r1 with
      | cons r rr =>
        cases rr with
        | cons r' rr =>
          cases rr with
          | cons r'' rr =>
            cases rr
            obtain ⟨t, rfl⟩ := r
            obtain ⟨t', rfl⟩ := r'
            obtain ⟨t'', rfl⟩ := r''
            exact call_range_3 c0 ⟨_, i, j, k, t, t', t'', H1, rfl, IsRange.new _ _ _ _ _ _ _, I1.kept (t' := s1.toks) fun b o e => Heap.get?_push_of_some _ e, ok, q1⟩ (.inl (PyProof.noPylong_small c1))
  refine Call_ (ld_blt I hg hm boot_tuple (PyProof.Rows.callWith_type1 (PyProof.Rows.args_cons (thn inner fun x s1 ⟨r, i, j, k, t, u, v, H1, ex, hr, I1, ok, q⟩ => PyProof.Rows.args_nil ?_) nb) nb))
  subst ex
  obtain ⟨⟨_, _, c2, c3⟩, c4⟩ := rg3Ok_of ok
  refine call_tuple_range (n := rsz i j k) (I1.ok.hd hc) hr c2 c3 c4 fun h' tk acc hk hi => ?_
  have I2 : Inv X pins σ H1 { s1 with heap := h', toks := tk } := I1.kept hk
  have hl : (rgVC i k (rsz i j k)).length ≤ sizeLine := by
    unfold rgVC
    rw [List.length_map, List.length_range, sizeLine_eq]; exact c4
  refine ⟨.ref h'.objs.size, upd H1 h'.objs.size (.tup (rgVC i k (rsz i j k))), I2.laid (t' := tk) (fun c o e => Heap.get?_push_of_some _ e) (Nat.le_refl _) ⟨hl, acc.toList, vals_rgC hi, ?_⟩, rfl, q _ (I2.hok.fresh (Nat.le_refl _))⟩
  rw [Array.toArray_toList]; exact IsTup.new _ _
/-! ### i in range(n) -/
def inRg : D → D → Option D
  | .int i, .int n => some (.bool (decide (0 ≤ i ∧ i < n)))
  | _, _ => none
def tRgV (ta : TE) : TE := fun σ H Q => ta σ H fun x H1 => ∃ n, x = .int n ∧ ∀ q, H1 q = none → Q (.ref q) (upd H1 q (.rng 0 n))
theorem pe_rgV {ta : TE} (hg : Gl X "range") (hm : X.mg "range" = none) (ha : PE X a ta) (na : starEach [a] X.env = (false, eval a X.env) :: starEach [] X.env := by rfl) : PE X (.Call (.Name "range" p) [a] [] pos) (tRgV ta) := by
  refine ⟨fun pins s σ H Q I h => ?_⟩
  refine Call_ (ld_blt I hg hm boot_range (PyProof.Rows.callWith_type1 (one_arg ha I h (fun v s2 x H2 I2 r q => ?_) na) na))
  obtain ⟨n, rfl, q⟩ := q
  obtain ⟨t, rfl⟩ := r
  refine call_range_1 ⟨.ref s2.heap.objs.size, upd H2 s2.heap.objs.size (.rng 0 n), I2.laid (t' := _) (fun b o e => Heap.get?_push_of_some _ e) (Nat.le_refl _) ?_, rfl, q _ (I2.hok.fresh (Nat.le_refl _))⟩
  exact ⟨_, _, _, Heap.get?_push_size _ rfl⟩
theorem t_inRg {ma mb : M D} (σ : SS) (H : Hp) (Q : VK) (q0 : tM X.K Z (bin inRg ma mb) σ H Q) : tOp (fun x y H Q => ∃ i a lo hi, x = V.int i ∧ y = V.ref a ∧ H a = some (.rng lo hi) ∧ Q (.bl (decide (lo ≤ i ∧ i < hi))) H) (tM X.K Z ma) (tRgV (tM X.K Z mb)) σ H Q := by
  obtain ⟨e, R, q⟩ := q0
  refine ⟨e, R, pst_bnd q fun v H1 x e1 m1 R1 r1 p1 => ⟨e1, R1, pst_bnd p1 fun w H2 y e2 m2 R2 r2 p2 => ?_⟩⟩
  obtain ⟨d, hd, k⟩ := pst_lft p2
  unfold inRg at hd
  split at hd
  · rename_i i n
    cases hd
    cases rp_int (r1.mono m2)
    cases rp_int r2
    exact ⟨n, rfl, fun q hq => ⟨i, q, 0, n, rfl, rfl, upd_same, k _ _ (.same (same_upd hq)) (R2.same (same_upd hq)) (.bl _)⟩⟩
  · cases hd
theorem e_inRg {ma mb : M D} (hg : Gl X "range") (hm : X.mg "range" = none) (ha : PE X a (tM X.K Z ma)) (hb : PE X b (tM X.K Z mb)) (na : starEach [b] X.env = (false, eval b X.env) :: starEach [] X.env := by rfl) (hbm : behindInMarks .In (.Call (.Name "range" p) [b] [] pos2) = false := by rfl) :
    PE X (.Compare a [.In] [.Call (.Name "range" p) [b] [] pos2] pos) (tM X.K Z (bin inRg ma mb)) := by
  exact PE_weak (pe_cmpR op_in_rng ha (pe_rgV hg hm hb na) hbm) t_inRg
theorem c_inRg {ma mb : M D} (hg : Gl X "range") (hm : X.mg "range" = none) (ha : PE X a (tM X.K Z ma)) (hb : PE X b (tM X.K Z mb)) (na : starEach [b] X.env = (false, eval b X.env) :: starEach [] X.env := by rfl) (hbm : behindInMarks .In (.Call (.Name "range" p) [b] [] pos2) = false := by rfl) :
    PT X (.Compare a [.In] [.Call (.Name "range" p) [b] [] pos2] pos) (tT X.K Z (boolOf (bin inRg ma mb))) := by
  exact PT_weak (pt_cmpR op_in_rng ha (pe_rgV hg hm hb na) hbm) (t_test t_inRg)
/-! ### sorted(set(a tuple of ints)) -/
def insU (x : Int) : List Int → List Int
  | [] => [x]
  | y :: t => if x < y then x :: y :: t else if x = y then y :: t else y :: insU x t
def sortU (ns : List Int) : List Int := ns.foldr insU []
theorem mem_insU {x z : Int} : ∀ {l : List Int}, z ∈ insU x l ↔ z = x ∨ z ∈ l
  | [] => by simp [insU]
  | y :: t => by
    unfold insU
    split
    · simp
    · split
      · rename_i h; subst h; simp
      · rw [List.mem_cons, mem_insU, List.mem_cons]
        constructor
        · intro h; rcases h with h | h | h <;> simp [h]
        · intro h; rcases h with h | h | h <;> simp [h]
theorem asc_insU {x : Int} : ∀ {l : List Int}, l.Pairwise (· < ·) → (insU x l).Pairwise (· < ·)
  | [], _ => List.pairwise_singleton _ _
  | y :: t, h => by
    have h' := List.pairwise_cons.mp h
    unfold insU
    split
    · rename_i c
      refine List.pairwise_cons.mpr ⟨fun z hz => ?_, h⟩
      rcases List.mem_cons.mp hz with rfl | hz
      · exact c
      · have := h'.1 z hz; omega
    · split
      · exact h
      · refine List.pairwise_cons.mpr ⟨fun z hz => ?_, asc_insU h'.2⟩
        rcases mem_insU.mp hz with rfl | hz
        · omega
        · exact h'.1 z hz
theorem mem_sortU {z : Int} : ∀ {ns : List Int}, z ∈ sortU ns ↔ z ∈ ns
  | [] => by simp [sortU]
  | x :: t => by
    show z ∈ insU x (sortU t) ↔ _
    rw [mem_insU, mem_sortU, List.mem_cons]
theorem asc_sortU : ∀ ns : List Int, (sortU ns).Pairwise (· < ·)
  | [] => .nil
  | x :: t => asc_insU (asc_sortU t)
theorem asc_one : ∀ {xs ys : List Int}, xs.Pairwise (· < ·) → ys.Pairwise (· < ·) → (∀ z, z ∈ xs ↔ z ∈ ys) → xs = ys
  | [], [], _, _, _ => rfl
  | [], y :: ys, _, _, h => absurd ((h y).mpr List.mem_cons_self) (by simp)
  | x :: xs, [], _, _, h => absurd ((h x).mp List.mem_cons_self) (by simp)
  | x :: xs, y :: ys, h1, h2, h => by
    rw [List.pairwise_cons] at h1 h2
    have e : x = y := by
      have a := (h x).mp List.mem_cons_self
      have b := (h y).mpr List.mem_cons_self
      rcases List.mem_cons.mp a with a | a
      · exact a
      · rcases List.mem_cons.mp b with b | b
        · exact b.symm
        · have := h1.1 y b; have := h2.1 x a; omega
    subst e
    rw [asc_one h1.2 h2.2 fun z => ?_]
    constructor
    · intro hz
      rcases List.mem_cons.mp ((h z).mp (List.mem_cons_of_mem _ hz)) with e | e
      · have := h1.1 z hz; omega
      · exact e
    · intro hz
      rcases List.mem_cons.mp ((h z).mpr (List.mem_cons_of_mem _ hz)) with e | e
      · have := h2.1 z hz; omega
      · exact e
def ssD : D → Option D
  | .tuple ds => match intsD ds with
    | some ns => if ns.length < 63 then some (.list ((sortU ns).map .int)) else none
    | none => none
  | _ => none
def rSetT (K : PySem.W.Frag) (w : World) : List V → Hp → VK → Prop := fun vs H Q => ∃ (a : Addr) (ns : List Int), vs = [.ref a] ∧ SqT K H a (ns.map V.int) ∧ ns.length < 63 ∧ ∀ (p : Addr) (c : Nat), H p = none → c ≤ ns.length → Q (.ref p) (upd H p (SetO w p (fun j => decide (j ∈ ns)) c))
theorem cr_setT (hc : X.calm = true) : CallR X (.type "set") (rSetT X.K X.w) := by
  intro pins s σ H vs us Q I r h
  obtain ⟨a, ns, rfl, hs, hl, q⟩ := h
  obtain ⟨its, rv, pl, _⟩ := I.tuple hs
  rw [Vals.ref1 r]
  refine call_set_tupI ns (I.ok.hd hc) pl (by simpa using rv.ints) (by unfold scanBound; omega) fun h' tk c hS hcl hk => ?_
  exact ⟨.ref _, upd H s.heap.objs.size (SetO X.w s.heap.objs.size (fun j => decide (j ∈ ns)) c), I.laid hk (Nat.le_refl _) (setO_new hS), rfl, q _ c (I.hok.fresh (Nat.le_refl _)) hcl⟩
theorem boot_set' : bootBuiltins "set" = some (.type "set") := boot_set
theorem e_ss {m : M D} (hc : X.calm = true) (hg : Gl X "sorted") (hm : X.mg "sorted" = none) (hg' : Gl X "set") (hm' : X.mg "set" = none) (ha : PE X a (tM X.K Z m)) (he : starEach [a] X.env = (false, eval a X.env) :: starEach [] X.env := by rfl) (he2 : starEach [.Call (.Name "set" p') [a] [] pos2] X.env = (false, eval (.Call (.Name "set" p') [a] [] pos2) X.env) :: starEach [] X.env := by rfl) :
    PE X (.Call (.Name "sorted" p) [.Call (.Name "set" p') [a] [] pos2] [] pos) (tO X.K Z (una ssD m)) := by
  refine PE_weak (pe_callB (cr_sortedSet hc) hg hm PyProof.Rows.boot_sorted (pa_cons (pe_callTy (cr_setT hc) hg' hm' boot_set' (pa_cons ha pa_nil he) (by decide) (by decide) he) pa_nil he2) (by decide) (by decide) he2) fun σ H Q ⟨e, R, q⟩ => ⟨e, R, pst_bnd q fun v H1 x e1 m1 R1 r1 p1 => ?_⟩
  obtain ⟨d, hd, k⟩ := pst_lft p1
  unfold ssD at hd
  split at hd
  · split at hd
    · rename_i ns hns
      split at hd
      · rename_i hl
        cases hd
        obtain ⟨a, xs, rfl, hs, ra⟩ := rp_tup r1
        have ex := ints_rp ra hns
        subst ex
        refine ⟨a, ns, rfl, hs, hl, fun p c hp hcl => ⟨p, _, c, rfl, upd_same, by omega, fun ms q hasc hmem hlen hq => ?_⟩⟩
        have em : ms = sortU ns := asc_one hasc (asc_sortU ns) fun z => by rw [hmem, decide_eq_true_eq, mem_sortU]
        subst em
        have sm := (same_upd (o := SetO X.w p (fun j => decide (j ∈ ns)) c) hp).trans (same_upd (o := HO.lst ((sortU ns).map V.int)) hq)
        have R2 := R1.same sm
        refine k (.ref q) _ (.same sm) R2 ?_
        have hq1 : H1 q = none := by
          have : upd H1 p (SetO X.w p (fun j => decide (j ∈ ns)) c) q = none := hq
          by_cases e : q = p
          · rw [e, upd_same] at this; cases this
          · rw [upd_ne e] at this; exact this
        obtain ⟨hb, hs2⟩ := R1.fresh hq1
        have rints : ∀ l : List Int, RpA X.K (upd (upd H1 p (SetO X.w p (fun j => decide (j ∈ ns)) c)) q (.lst ((sortU ns).map V.int))) (l.map V.int) (l.map PyData.int) := fun l => by
          induction l with
          | nil => exact .nil
          | cons i l ih => exact .cons (.int _) ih
        exact ⟨q, rfl, ⟨_, upd_same, rints _⟩, hb, hs2⟩
      · cases hd
    · cases hd
  · cases hd
end
end ZZ

namespace ZZ
open PySem PySem.Spec PyProof.Rows L2 PySem.W
variable [TabC]
/-! ### max and min of data that are alike -/
def notNone : D → Bool
  | .none => false
  | _ => true
def topOk (ds : List D) : Bool := alikeB ds && ds.all notNone && PyData.canLayAll0 ds && decide (PyData.depthAll ds ≤ 60)
theorem topOk_of {ds : List D} (h : topOk ds = true) : AlikeAll ds ∧ PyData.canLayAll0 ds = true ∧ PyData.depthAll ds ≤ 60 := by
  unfold topOk alikeB at h
  simp only [Bool.and_eq_true, decide_eq_true_eq, List.all_eq_true] at h
  obtain ⟨⟨⟨h1, h2⟩, h3⟩, h4⟩ := h
  exact ⟨⟨h1, fun x hx e => by have := h2 x hx; rw [e] at this; cases this⟩, h3, h4⟩
def maxPD : D → Option D
  | .list (x :: xs) => if topOk (x :: xs) = true then some (PySem.W.maxD x xs) else none
  | .tuple (x :: xs) => if topOk (x :: xs) = true then some (PySem.W.maxD x xs) else none
  | _ => none
def minPD : D → Option D
  | .list (x :: xs) => if topOk (x :: xs) = true then some (PySem.W.minD x xs) else none
  | .tuple (x :: xs) => if topOk (x :: xs) = true then some (PySem.W.minD x xs) else none
  | _ => none
def rTop (K : PySem.W.Frag) (f : D → List D → D) : List V → Hp → VK → Prop := fun vs H Q => ∃ (q : ZP) (x : D) (xs : List D), vs = [.ref q.2.1] ∧ hold K H q ∧ RpA K H q.2.2 (x :: xs) ∧ topOk (x :: xs) = true ∧ ∀ v, Rp K H v (f x xs) → Q v H
theorem readsAll_get {h : Heap} : ∀ {us : List Value} {ds : List D} {as : List Addr}, ReadsAll h us ds as → ∀ (i : Nat) (u : Value), us[i]? = some u → ∃ d bs, ds[i]? = some d ∧ Reads h u d bs
  | _, _, _, .nil, i, u, e => by simp at e
  | _, _, _, .cons r t, 0, u, e => by simp at e; subst e; exact ⟨_, _, rfl, r⟩
  | _, _, _, .cons r t, i + 1, u, e => by
    simp at e
    obtain ⟨d, bs, h1, h2⟩ := readsAll_get t i u e
    exact ⟨d, bs, by simpa using h1, h2⟩
section
variable {X : Cx}
theorem top_end {pins : List (Addr × Obj)} {σ : SS} {H : Hp} {s : Shared} (I : Inv X pins σ H s) {vs : List V} {ds : List D} {its : List Value} {as : List Addr} (rv : Vals vs its) (ra : RpA X.K H vs ds) (hr : ReadsAll s.heap its ds as) (hl : PyData.canLayAll0 ds = true) {t : D} {Q : VK} (q : ∀ v, Rp X.K H v t → Q v H)
    {i : Nat} {u : Value} {h' : Heap} {tk : Tok} {bs : List Addr} (hu : its[i]? = some u) (hr' : Reads h' u t bs) (hk : ∀ b o, s.heap.get? b = some o → h'.get? b = some o) : ∃ w H', Inv X pins σ H' { s with heap := h', toks := tk } ∧ RelV w u ∧ Q w H' := by
  obtain ⟨d, cs, h1, h2⟩ := readsAll_get hr i u hu
  have hd : d.canLay0 = true := by
    clear hr rv ra hu h2
    induction ds generalizing i with
    | nil => simp at h1
    | cons x xs ih =>
      simp only [PyData.canLayAll0, Bool.and_eq_true] at hl
      cases i with
      | zero => simp at h1; subst h1; exact hl.1
      | succ i => exact ih hl.2 (by simpa using h1)
  have e := SeqAt.Reads.unique d t u _ _ hd (Reads.keeps hk h2) hr'
  subst e
  obtain ⟨w, hw, rw_⟩ := ra.get i d h1
  obtain ⟨u', hu', ru⟩ := rv.get hw
  rw [hu] at hu'; cases hu'
  exact ⟨w, H, I.kept hk, ru, q w rw_⟩
theorem cr_maxP (hc : X.calm = true) (hu : X.A.units + 66 < cLine) : CallR X (.builtin "max") (rTop X.K PySem.W.maxD) := by
  intro pins s σ H vs us Q I r h
  obtain ⟨p, x, xs, rfl, ho, ra, ok, q⟩ := h
  obtain ⟨h1, h2, h3⟩ := topOk_of ok
  obtain ⟨its, rv, sr⟩ := src_of I ho
  rw [Vals.ref1 r]
  obtain ⟨as, hr⟩ := RpA.shows I ra h2 its rv
  obtain ⟨b, a, vs⟩ := p
  have hd : X.A.units + 1 + PyData.depthAll (x :: xs) < cLine := by omega
  cases b with
  | true =>
    exact max_tuple_data (I.ok.hd hc) sr hr h1 hd fun i v h' tk bs hv hr' hk => by
      obtain ⟨w, H', I', e, q'⟩ := top_end (tk := tk) I rv ra hr h2 q (i := i) (u := v) (by simpa using hv) hr' hk
      exact ⟨w, H', I', e, q'⟩
  | false =>
    exact max_list_data (I.ok.hd hc) sr hr h1 hd fun i v h' tk bs hv hr' hk => by
      obtain ⟨w, H', I', e, q'⟩ := top_end (tk := tk) I rv ra hr h2 q (i := i) (u := v) (by simpa using hv) hr' hk
      exact ⟨w, H', I', e, q'⟩
theorem cr_minP (hc : X.calm = true) (hu : X.A.units + 66 < cLine) : CallR X (.builtin "min") (rTop X.K PySem.W.minD) := by
  intro pins s σ H vs us Q I r h
  obtain ⟨p, x, xs, rfl, ho, ra, ok, q⟩ := h
  obtain ⟨h1, h2, h3⟩ := topOk_of ok
  obtain ⟨its, rv, sr⟩ := src_of I ho
  rw [Vals.ref1 r]
  obtain ⟨as, hr⟩ := RpA.shows I ra h2 its rv
  obtain ⟨b, a, vs⟩ := p
  have hd : X.A.units + 1 + PyData.depthAll (x :: xs) < cLine := by omega
  cases b with
  | true =>
    exact min_tuple_data (I.ok.hd hc) sr hr h1 hd fun i v h' tk bs hv hr' hk => by
      obtain ⟨w, H', I', e, q'⟩ := top_end (tk := tk) I rv ra hr h2 q (i := i) (u := v) (by simpa using hv) hr' hk
      exact ⟨w, H', I', e, q'⟩
  | false =>
    exact min_list_data (I.ok.hd hc) sr hr h1 hd fun i v h' tk bs hv hr' hk => by
      obtain ⟨w, H', I', e, q'⟩ := top_end (tk := tk) I rv ra hr h2 q (i := i) (u := v) (by simpa using hv) hr' hk
      exact ⟨w, H', I', e, q'⟩
theorem b_top {K : PySem.W.Frag} {f : D → List D → D} {op : D → Option D} (hop : ∀ d t, op d = some t → ∃ x xs, (d = .list (x :: xs) ∨ d = .tuple (x :: xs)) ∧ topOk (x :: xs) = true ∧ t = f x xs) : Cal1 K (rTop K f) op := fun v x d H Q hx h q => by
  obtain ⟨y, ys, e, ok, rfl⟩ := hop _ _ h
  rcases e with rfl | rfl
  · obtain ⟨a, xs, rfl, hs, r⟩ := rq_lst hx
    exact ⟨(false, a, xs), y, ys, rfl, hs, r, ok, fun v hv => q v H (Same.refl H) hv⟩
  · obtain ⟨a, xs, rfl, hs, r⟩ := rq_tup hx
    exact ⟨(true, a, xs), y, ys, rfl, hs, r, ok, fun v hv => q v H (Same.refl H) hv⟩
theorem b_maxP {K : PySem.W.Frag} : Cal1 K (rTop K PySem.W.maxD) maxPD := b_top fun d t h => by
  unfold maxPD at h
  split at h
  · split at h
    · rename_i ok; cases h; exact ⟨_, _, .inl rfl, ok, rfl⟩
    · cases h
  · split at h
    · rename_i ok; cases h; exact ⟨_, _, .inr rfl, ok, rfl⟩
    · cases h
  · cases h
theorem b_minP {K : PySem.W.Frag} : Cal1 K (rTop K PySem.W.minD) minPD := b_top fun d t h => by
  unfold minPD at h
  split at h
  · split at h
    · rename_i ok; cases h; exact ⟨_, _, .inl rfl, ok, rfl⟩
    · cases h
  · split at h
    · rename_i ok; cases h; exact ⟨_, _, .inr rfl, ok, rfl⟩
    · cases h
  · cases h
variable {Z : ZC} {p pos : Pos} {a b c : Expr} {m : M D}
theorem e_maxP (hc : X.calm = true) (hu : X.A.units + 66 < cLine) (hg : Gl X "max") (hm : X.mg "max" = none) (ha : PE X a (tQ X.K Z m)) (he : starEach [a] X.env = (false, eval a X.env) :: starEach [] X.env := by rfl) : PE X (.Call (.Name "max" p) [a] [] pos) (tM X.K Z (una maxPD m)) :=
  e_f1 (cr_maxP hc hu) b_maxP boot_max hg hm ha (he := he)
theorem e_minP (hc : X.calm = true) (hu : X.A.units + 66 < cLine) (hg : Gl X "min") (hm : X.mg "min" = none) (ha : PE X a (tQ X.K Z m)) (he : starEach [a] X.env = (false, eval a X.env) :: starEach [] X.env := by rfl) : PE X (.Call (.Name "min" p) [a] [] pos) (tM X.K Z (una minPD m)) :=
  e_f1 (cr_minP hc hu) b_minP boot_min hg hm ha (he := he)
end
end ZZ

namespace ZZ
open PySem PySem.Spec PyProof.Rows L2 PySem.W
variable [TabC]
/-! ### isinstance(x, (T1, T2)) -/
def isi2D (T1 T2 : String) (d : D) : Option D := some (.bool (isiT T1 (tyD d) || isiT T2 (tyD d)))
theorem rq_same {K : PySem.W.Frag} {H H' : Hp} {v : V} {d : D} (h : Rq K H v d) (s : Same H H') : Rq K H' v d := by
  rcases h with h | ⟨a, rfl, o⟩
  · exact .inl (h.mono (.same s))
  · obtain ⟨u, hu, _⟩ := o.there
    exact .inr ⟨a, rfl, o.mono (.same s) ((s a u hu).trans hu.symm)⟩
section
variable {X : Cx} {Z : ZC} {a b o : Expr} {p pos p2 apos : Pos}
theorem e_isi2 {m : M D} {T1 T2 : String} {p1 p3 pt : Pos} {n1 n2 : Str} {k : Nat} (hT1 : T1 ∈ ["int", "bool", "str", "list", "tuple", "dict"]) (hT2 : T2 ∈ ["int", "bool", "str", "list", "tuple", "dict"]) (hv1 : bootBuiltins n1 = some (.type T1)) (hv2 : bootBuiltins n2 = some (.type T2)) (hg1 : Gl X n1) (hm1 : X.mg n1 = none) (hg2 : Gl X n2) (hm2 : X.mg n2 = none) (hg : Gl X "isinstance") (hm : X.mg "isinstance" = none) (ha : PE X a (tQ X.K Z m))
    (hn1 : n1 ≠ "__name__" := by decide) (hd1 : (n1 == ("__debug__" : Str)) = false := by decide) (hn2 : n2 ≠ "__name__" := by decide) (hd2 : (n2 == ("__debug__" : Str)) = false := by decide)
    (he : starEach [a, .Tuple [.Name n1 p1, .Name n2 p3] k pt] X.env = (false, eval a X.env) :: starEach [.Tuple [.Name n1 p1, .Name n2 p3] k pt] X.env := by rfl) : PE X (.Call (.Name "isinstance" p) [a, .Tuple [.Name n1 p1, .Name n2 p3] k pt] [] pos) (tM X.K Z (una (isi2D T1 T2) m)) := by
  refine PE_weak (pe_callB call_isiT hg hm boot_isi (pa_cons ha (pa_cons (pe_tup (pa_cons (pe_bltn (pos := p1) hg1 hm1 hv1 (v := .ty T1) rfl hn1 hd1) (pa_cons (pe_bltn (pos := p3) hg2 hm2 hv2 (v := .ty T2) rfl hn2 hd2) pa_nil))) pa_nil) he) (he := he)) fun σ H Q ⟨e, R, p⟩ => ⟨e, R, pst_bnd p fun v H1 x e1 m1 R1 r1 p1 => ?_⟩
  refine ⟨by rw [sizeLine_eq]; exact (by decide : (2 : Nat) ≤ 16777216), fun q hq => ⟨v, q, [.ty T1, .ty T2], .type (tyD x), [.type T1, .type T2], isiT T1 (tyD x) || isiT T2 (tyD x), rfl, upd_same, .cons (.ty T1) (.cons (.ty T2) .nil), ty_rq (rq_same r1 (same_upd hq)), ?_, ?_⟩⟩
  · refine kitAny_cons (kit_ty (kit_ok x hT1)) (fun h => ?_) (fun h => by rw [h]; rfl)
    rw [h, Bool.false_or]
    refine kitAny_cons (kit_ty (kit_ok x hT2)) (fun h => ?_) (fun h => h)
    rw [h]; rfl
  · exact p1 (.bl _) _ (.same (same_upd hq)) (R1.same (same_upd hq)) (.bl _)
/-! ### x.upper() -/
def upD : D → Option D
  | .str x => if x.length ≤ 5592405 then some (.str (Txt.upper x)) else none
  | _ => none
theorem e_upper {m : M D} (ha : PE X a (tM X.K Z m)) (hbase : attributeBase a "upper" X.env (eval a X.env) = eval a X.env := by rfl) (hline : (apos.endLine == pos.line) = true := by rfl) : PE X (.Call (.Attribute a "upper" apos) [] [] pos) (tM X.K Z (una upD m)) := by
  refine PE_weak (pe_upper ha hbase hline) fun σ H Q ⟨e, R, p⟩ => ⟨e, R, pst_bnd p fun v H1 x e1 m1 R1 r1 p1 => ?_⟩
  obtain ⟨d, hd, q⟩ := pst_lft p1
  unfold upD at hd
  split at hd
  · split at hd
    · rename_i z hz
      cases hd
      rw [rp_str r1]
      exact ⟨⟨_, rfl⟩, _, rfl, rfl, hz, q _ H1 .refl R1 (.str _)⟩
    · cases hd
  · cases hd
/-! ### a tuple once, or not at all -/
theorem tuple_mul1 (l : Addr) (items : Array Value) (n : Nat) (dd : Option Addr) (sl : Array (Option Value)) (u : Tok) (hi : items.isEmpty = false) :
    Meets (Builtin.«tuple.__mul__» ⟨[.ref l, .int 1 u], []⟩) (fun _ R s => s.heap.get? l = some { cls := .type "tuple", dict := dd, data := .seq items n, slots := sl } ∧ R (.ok (.ret (Value.ref l))) s) :=
  .of_wp fun prog w A R s h => by
    obtain ⟨hp, g, d, tk, os⟩ := s
    obtain ⟨hl, h⟩ := h
    have f1 := AutoSeq1.idx_int
    wp_walk using wpAny_loadPart' hl
    exact ⟨_, rfl, h⟩
theorem tuple_mul0 (l : Addr) (items : Array Value) (n : Nat) (dd : Option Addr) (sl : Array (Option Value)) (u : Tok) (hi : items.isEmpty = false) :
    Meets (Builtin.«tuple.__mul__» ⟨[.ref l, .int 0 u], []⟩) (fun _ R s => s.heap.get? l = some { cls := .type "tuple", dict := dd, data := .seq items n, slots := sl } ∧
      R (.ok (.ret (Value.ref s.heap.objs.size))) { s with heap := s.heap.push { cls := Value.type "tuple", data := Data.seq #[] }, toks := s.toks }) :=
  .of_wp fun prog w A R s h => by
    obtain ⟨hp, g, d, tk, os⟩ := s
    obtain ⟨hl, h⟩ := h
    have f1 := AutoSeq1.idx_int
    wp_walk using wpAny_loadPart' hl
    exact ⟨_, rfl, h⟩
def rRep01 (K : PySem.W.Frag) : R2 := fun x y H Q => ∃ l k xs, x = .ref l ∧ y = .int k ∧ SqT K H l xs ∧ xs ≠ [] ∧ ((k = 1 ∧ Q (.ref l) H) ∨ (k = 0 ∧ ∀ p, H p = none → Q (.ref p) (upd H p (.tup []))))
theorem op_rep01 : OpR X (binaryOp .Mult) (rRep01 X.K) := by
  intro pins s σ H x y v u Q I rx ry h
  obtain ⟨l, k, xs, rfl, rfl, hT, hne, h⟩ := h
  cases rx
  obtain ⟨t, rfl⟩ := ry
  obtain ⟨its, r, ⟨⟨cls, dd, data, sl⟩, ho, hc, n, hd⟩, hs⟩ := I.tuple hT
  simp only at hc hd
  subst hc hd
  have hle : its.length = xs.length := r.length.symm
  have hn : its ≠ [] := fun e => hne (by
    rw [e] at hle
    exact List.eq_nil_of_length_eq_zero hle.symm)
  have hi : its.toArray.isEmpty = false := by
    cases its with
    | nil => exact absurd rfl hn
    | cons a b => rfl
  rcases h with ⟨rfl, q⟩ | ⟨rfl, q⟩
  · refine wpAny_binaryOp_repeat_ref (T := "tuple") (U := "int") (by decide) ⟨_, ho, rfl⟩ (fun s' => typeIs_int s' 1 t) noFill_tuple_mul F.fills_int_mul F.slot_int_rmul repeat_tuple F.slot_int_index.lookup
      (call_meets F.slot_int_rmul (typeIs_int s 1 t) F.entry_int_rmul (F.args_int_rmul_2 _ _) (int_rmul_tuple 1 t l its.toArray n dd sl)
        ⟨ho, rfl, ⟨_, ho, rfl⟩, call_meets F.slot_tuple_mul ⟨_, ho, rfl⟩ F.entry_tuple_mul (F.args_tuple_mul_2 _ _) (tuple_mul1 l its.toArray n dd sl t hi) ⟨ho, ?_⟩⟩)
    exact ⟨.ref l, H, I.tok s.toks, rfl, q⟩
  · refine wpAny_binaryOp_repeat_ref (T := "tuple") (U := "int") (by decide) ⟨_, ho, rfl⟩ (fun s' => typeIs_int s' 0 t) noFill_tuple_mul F.fills_int_mul F.slot_int_rmul repeat_tuple F.slot_int_index.lookup
      (call_meets F.slot_int_rmul (typeIs_int s 0 t) F.entry_int_rmul (F.args_int_rmul_2 _ _) (int_rmul_tuple 0 t l its.toArray n dd sl)
        ⟨ho, rfl, ⟨_, ho, rfl⟩, call_meets F.slot_tuple_mul ⟨_, ho, rfl⟩ F.entry_tuple_mul (F.args_tuple_mul_2 _ _) (tuple_mul0 l its.toArray n dd sl t hi) ⟨ho, ?_⟩⟩)
    refine ⟨.ref s.heap.objs.size, _, I.laid (t' := s.toks) (o := .tup []) (fun b ob q => Heap.get?_push_of_some _ q) (Nat.le_refl _) ?_, rfl, q _ (I.hok.fresh (Nat.le_refl _))⟩
    exact ⟨by rw [sizeLine_eq]; exact Nat.zero_le _, [], .nil, IsTup.new _ _⟩
def mulXD : D → D → Option D
  | .tuple xs, .int k => if xs ≠ [] then (if k = 1 then some (.tuple xs) else if k = 0 then some (.tuple []) else mulD (.tuple xs) (.int k)) else none
  | _, _ => none
abbrev rMulX (K : PySem.W.Frag) : R2 := fun x y H Q => rRep01 K x y H Q ∨ rMul K x y H Q
theorem o_mulX : OpR X (binaryOp .Mult) (rMulX X.K) := op_rep01.or o_mul
theorem b_mulX {K : PySem.W.Frag} : BinR K (rMulX K) mulXD := fun v w x y d H Q hx hy h q => by
  unfold mulXD at h
  split at h
  · split at h
    · rename_i hne
      split at h
      · rename_i hk
        cases h
        cases rq_int hy
        obtain ⟨a, xs, rfl, ha, ra⟩ := rp_tup hx
        exact .inl ⟨a, _, xs, rfl, rfl, ha, fun e => hne ((nil_iff ra).mp e), .inl ⟨hk, q _ H (Same.refl H) hx⟩⟩
      · split at h
        · rename_i hk
          cases h
          cases rq_int hy
          obtain ⟨a, xs, rfl, ha, ra⟩ := rp_tup hx
          exact .inl ⟨a, _, xs, rfl, rfl, ha, fun e => hne ((nil_iff ra).mp e), .inr ⟨hk, fun p hp => q _ _ (same_upd hp) (.tup (SqT.of upd_same) .nil)⟩⟩
        · exact .inr (b_mul v w _ _ d H Q hx hy h q)
    · cases h
  · cases h
theorem e_mulX {ma mb : M D} (ha : PE X a (tM X.K Z ma)) (hb : PE X b (tM X.K Z mb)) : PE X (.BinOp a .Mult b pos) (tM X.K Z (bin mulXD ma mb)) := PE_weak (pe_op o_mulX ha (e_q hb)) (t_bin b_mulX)
end
section
variable {prog : Program} {w : World} {A : Around} {E : Value → Shared → Prop} {s : Shared} {l : Addr} {xs : Array (Int × Tok)}
theorem sum_intTupleG {Q : Value → Shared → Prop} (hh : A.handled = none) (hl : s.heap.IsTuple l (intItems xs))
    (h : ∀ h' tk t', (∀ b o, s.heap.get? b = some o → h'.get? b = some o) → Q (.int (preSum (numAt xs) xs.size) t') { s with heap := h', toks := tk }) :
    wpAny (model prog w) A (call (.builtin "sum") [.ref l]) Q E s := by
  have hlt : l < s.heap.objs.size := by obtain ⟨_, e, _⟩ := hl; exact Heap.lt_size e
  refine call_sum_walkG (wpAny_pyIter_tuple hl ?_)
  refine ⟨_, _, _, _, _, _, numAt xs, rfl, Walks.tuple (A := A.in1) hh _ l (Nat.ne_of_lt hlt) (intItems xs), ⟨⟨_, Heap.get?_push_size _ rfl, rfl, rfl⟩, hl.push _⟩, fun b hb => ?_, (fun _ _ => intItems_at), fun h' tk t' hk => ?_⟩
  · show b < (s.heap.push _).objs.size
    rw [Heap.size_push]
    rcases List.mem_cons.mp hb with rfl | hb
    · exact Nat.lt_succ_self _
    · rcases List.mem_cons.mp hb with rfl | hb
      · exact Nat.lt_succ_of_lt hlt
      · cases hb
  · have := h h' tk t' (fun b o e => by
      refine hk b o (fun hm => ?_) (Heap.get?_push_of_some _ e)
      rcases List.mem_cons.mp hm with e1 | hm
      · exact absurd (e1 ▸ Heap.lt_size e) (Nat.lt_irrefl _)
      · cases hm)
    simpa [intItems] using this
theorem sum_rawT {its : List Value} {ns : List Int} {Q : Value → Shared → Prop} (hh : A.handled = none) (hl : s.heap.IsTuple l its.toArray) (hi : IntsAre its ns)
    (h : ∀ h' tk t', (∀ b o, s.heap.get? b = some o → h'.get? b = some o) → Q (.int ns.sum t') { s with heap := h', toks := tk }) : wpAny (model prog w) A (call (.builtin "sum") [.ref l]) Q E s := by
  obtain ⟨xs, e⟩ := hi.allInts.items
  have hn : numsOf (intItems xs).toList = ns := by rw [← e]; exact hi.numsOf
  rw [nums_intItems] at hn
  rw [e] at hl
  refine sum_intTupleG hh hl fun h' tk t' hk => ?_
  have := h h' tk t' hk
  rw [preSum_eq, List.take_of_length_le (by simp), hn]; exact this
end
section
variable {X : Cx} {Z : ZC} {a : Expr} {p pos : Pos}
def sumXD : D → Option D
  | .list ds => (intsD ds).map fun bs => .int bs.sum
  | .tuple ds => (intsD ds).map fun bs => .int bs.sum
  | _ => none
def rSumX (K : PySem.W.Frag) : List V → Hp → VK → Prop := fun vs H Q => rSum K vs H Q ∨ ∃ (a : Addr) (ns : List Int), vs = [V.ref a] ∧ SqT K H a (ns.map V.int) ∧ Q (.int ns.sum) H
theorem cr_sumX (hc : X.calm = true) : CallR X (.builtin "sum") (rSumX X.K) := by
  intro pins s σ H vs us Q I r h
  rcases h with h | ⟨a, ns, rfl, hs, q⟩
  · exact cr_sum hc pins s σ H vs us Q I r h
  · obtain ⟨its, rv, hl, _⟩ := I.tuple hs
    rw [Vals.ref1 r]
    exact sum_rawT (I.ok.hd hc) hl rv.ints fun h' tk t' hk => ⟨.int _, H, I.kept hk, ⟨_, rfl⟩, q⟩
theorem b_sumX {K : PySem.W.Frag} : Cal1 K (rSumX K) sumXD := fun v x d H Q hx h q => by
  unfold sumXD at h
  split at h
  · exact .inl (b_sum v _ d H Q hx h q)
  · obtain ⟨bs, h1, rfl⟩ := Option.map_eq_some_iff.mp h
    obtain ⟨a, xs, rfl, hs, r⟩ := rq_tup hx
    rw [ints_rp r h1] at hs
    exact .inr ⟨a, bs, rfl, hs, q _ H (Same.refl H) (.int _)⟩
  · cases h
theorem e_sumX {m : M D} (hc : X.calm = true) (hg : Gl X "sum") (hm : X.mg "sum" = none) (ha : PE X a (tQ X.K Z m)) (he : starEach [a] X.env = (false, eval a X.env) :: starEach [] X.env := by rfl) : PE X (.Call (.Name "sum" p) [a] [] pos) (tM X.K Z (una sumXD m)) :=
  e_f1 (cr_sumX hc) b_sumX boot_sum hg hm ha (he := he)
/-! ### a body that nobody comes to -/
theorem pss_no {sts : List Stmt} : PSs X sts (tS X.K Z sNo) := ⟨fun _ _ _ _ _ _ ⟨_, _, p⟩ => p.elim⟩
end
end ZZ

namespace HT
open PySem PySem.Spec PyProof.Rows L2
section
variable {prog : Program} {w : World} {A : Around} {E : Value → Shared → Prop} {s : Shared}
theorem adjust_rev (n : Nat) : Builtin.Slice.sliceAdjust none none (-1) (n : Int) = ((n : Int) - 1, -1) := by
  unfold Builtin.Slice.sliceAdjust
  rfl
theorem places_rev (n : Nat) : Builtin.Slice.slicePlaces ((n : Int) - 1) (-1) (-1) = n := by
  unfold Builtin.Slice.slicePlaces
  have h1 : ¬ ((-1 : Int) > 0) := by omega
  simp only [h1, if_false, Int.neg_neg, Int.ediv_one]
  split <;> omega
theorem fm_congr {α β : Type} {f g : α → Option β} : ∀ {l : List α}, (∀ x ∈ l, f x = g x) → l.filterMap f = l.filterMap g
  | [], _ => rfl
  | x :: l, h => by
    rw [List.filterMap_cons, List.filterMap_cons, h x List.mem_cons_self, fm_congr fun y hy => h y (List.mem_cons_of_mem _ hy)]
theorem fm_all : ∀ zs : List Value, (List.range zs.length).filterMap (fun m => zs[m]?) = zs
  | [] => rfl
  | z :: t => by
    rw [List.length_cons, List.range_succ_eq_map, List.filterMap_cons, List.filterMap_map]
    show z :: (List.range t.length).filterMap (fun m => t[m]?) = z :: t
    rw [fm_all t]
theorem pick_rev (xs : Array Value) : ((List.range xs.size).filterMap fun (m : Nat) => xs[((xs.size : Int) - 1 + (m : Int) * (-1)).toNat]?).toArray = xs.toList.reverse.toArray := by
  congr 1
  have e : ∀ ys : List Value, (List.range ys.length).filterMap (fun (m : Nat) => ys[((ys.length : Int) - 1 + (m : Int) * (-1)).toNat]?) = ys.reverse := by
    intro ys
    have h1 : (List.range ys.length).filterMap (fun (m : Nat) => ys[((ys.length : Int) - 1 + (m : Int) * (-1)).toNat]?) = (List.range ys.length).filterMap (fun (m : Nat) => ys.reverse[m]?) := by
      refine fm_congr fun m hm => ?_
      rw [List.mem_range] at hm
      rw [List.getElem?_reverse hm]
      congr 1
      omega
    rw [h1]
    have := fm_all ys.reverse
    rw [List.length_reverse] at this
    exact this
  have h := e xs.toList
  rw [Array.length_toList] at h
  simp only [Array.getElem?_toList] at h
  exact h
theorem getItem_tuple_rev {t sl : Addr} {items : Array Value} {vl vu vs : Value} {Q : Value → Shared → Prop} (ht : IsTup s.heap t items) (hs : s.heap.IsSliceOf sl vl vu vs) (pl : IsPart vl none) (pu : IsPart vu none) (ps : IsPart vs (some (-1)))
    (h : Q (.ref s.heap.objs.size) { s with heap := s.heap.push { cls := .type "tuple", data := .seq items.toList.reverse.toArray } })
    (hsz : items.size ≤ sizeLine) : wpAny (model prog w) A (getItem (.ref t) (.ref sl)) Q E s := by
  have htake : sizeOk (.seq items.toList.reverse.toArray) := by
    show items.toList.reverse.toArray.size ≤ sizeLine
    rw [List.size_toArray, List.length_reverse, Array.length_toList]
    exact hsz
  obtain ⟨os, hos, hcs, hds⟩ := id hs
  have hTs : s.TypeIs (.ref sl) "slice" := ⟨os, hos, hcs⟩
  unfold getItem
  try with_reducible refine wpAny_holding ?_
  first | refine wpAny_bind (wpAny_pure ?_) | skip
  refine wpAny_bind (wpAny_sequenceKey ht.typeIs (by decide) ?_)
  refine wpAny_bind (wpAny_callSpecial?_slot (name := Str.ofString "__getitem__") ht.typeIs PyProof.Rows.slot_tuple_getitem
    (wpAny_call_entry PyProof.Rows.slot_tuple_getitem ht.typeIs entry_tuple_getitem ?_ (args_tuple_getitem _ _)))
  show wpAny _ _ (Builtin.Tuple.tupleItemsOf (.ref t) >>= _) _ _ s
  refine wpAny_bind (tupleItemsOf_ ht ?_)
  refine wpAny_bind (wpAny_typeOf hTs ?_)
  rw [if_pos (by decide)]
  refine wpAny_bind ?_
  unfold Builtin.Slice.sliceApplied Builtin.Slice.sliceFields
  refine wpAny_bind (wpAny_bind (wpAny_field hos hds (x := vl) rfl (wpAny_bind (wpAny_field hos hds (x := vu) rfl (wpAny_bind (wpAny_field hos hds (x := vs) rfl (wpAny_pure ?_)))))))
  refine wpAny_bind (slicePart_ ps ?_)
  show wpAny _ _ (if ((-1 : Int) == 0) = true then _ else _) _ _ s
  rw [if_neg (by decide)]
  refine wpAny_bind (slicePart_ pl (wpAny_bind (slicePart_ pu (wpAny_bind (wpAny_pure ?_)))))
  show wpAny _ _ (match Builtin.Slice.sliceAdjust none none (-1) (items.size : Int) with | (lo, hi) => pure (lo, (-1 : Int), Builtin.Slice.slicePlaces lo hi (-1))) _ _ s
  rw [adjust_rev]
  show wpAny _ _ (pure ((items.size : Int) - 1, (-1 : Int), Builtin.Slice.slicePlaces ((items.size : Int) - 1) (-1) (-1))) _ _ s
  rw [places_rev]
  refine wpAny_pure ?_
  show wpAny _ _ (if (((items.size : Int) - 1) == 0 && (-1 : Int) == 1 && items.size == items.size) = true then _ else _) _ _ s
  rw [if_neg (by
    intro q
    rw [Bool.and_eq_true, Bool.and_eq_true] at q
    exact absurd q.1.2 (by decide)), pick_rev]
  first
    | exact wpAny_bind (m := Builtin.Tuple.tupleExact _) (wpAny_newObj_type (wpAny_pure ⟨_, rfl, wpAny_pure h⟩) htake)
    | exact wpAny_bind (m := Builtin.Tuple.tupleExact _) (wpAny_newObj_type (wpAny_bind (wpAny_pure (wpAny_pure ⟨_, rfl, wpAny_pure h⟩))) htake)
    | exact wpAny_bind (wpAny_bind (m := Builtin.Tuple.tupleExact _) (wpAny_newObj_type (wpAny_pure (wpAny_pure ⟨_, rfl, wpAny_pure h⟩)) htake))
    | exact wpAny_bind (wpAny_bind (m := Builtin.Tuple.tupleExact _) (wpAny_newObj_type (wpAny_pure ⟨_, rfl, wpAny_pure h⟩) htake))
end
end HT
namespace ZZ
open PySem PySem.Spec PyProof.Rows L2 PySem.W
variable [TabC]
section
variable {X : Cx} {Z : ZC} {a : Expr} {ma : M D}
def tRevT (K : PySem.W.Frag) (te : TE) : TE := fun σ H Q => te σ H fun x H1 => ∃ a xs, x = .ref a ∧ SqT K H1 a xs ∧ ∀ p, H1 p = none → Q (.ref p) (upd H1 p (.tup xs.reverse))
theorem pe_revT {e : Expr} {te : TE} {k : Nat} {p1 p2 p3 pos : Pos} (he : PE X e te) : PE X (.Subscript e (.Slice none none (some (.UnaryOp .USub (.Constant (.int 1) k p1) p2)) p3) pos) (tRevT X.K te) := by
  refine ⟨fun pins s σ H Q I h => ?_⟩
  refine Subscript_ (thn (he.run pins s σ H _ I h) fun v s1 ⟨x, H1, I1, r1, q1⟩ => ?_)
  obtain ⟨a, xs, ex, hx, q⟩ := q1
  subst ex
  cases r1
  have hst : PO X (some (.UnaryOp .USub (.Constant (.int 1) k p1) p2)) (tPart (tUn (rU fun i => .int (-i)) (tC (.int 1)))) := L2.po_some (pe_un un_neg pe_int)
  refine wpAny_Slice (thn (L2.po_none.run pins s1 σ H1 (fun o H2 => o = none ∧ H2 = H1) I1 ⟨rfl, rfl⟩) fun vl s2 ⟨l, H2, I2, pl, el, e2⟩ => ?_)
  subst el e2
  refine thn (L2.po_none.run pins s2 σ H2 (fun o H3 => o = none ∧ H3 = H2) I2 ⟨rfl, rfl⟩) fun vu s3 ⟨u, H3, I3, pu, eu, e3⟩ => ?_
  subst eu e3
  refine thn (hst.run pins s3 σ H3 (fun o H4 => o = some (-1) ∧ H4 = H3) I3 ⟨1, rfl, -1, rfl, rfl, rfl⟩) fun vs s4 ⟨o, H4, I4, ps, eo, e4⟩ => ?_
  subst eo e4
  have I5 : Inv X pins σ H4 { s4 with heap := s4.heap.push { cls := .type "slice", data := .fields #[vl, vu, vs] } } := I4.kept (t' := s4.toks) fun b ob q => Heap.get?_push_of_some _ q
  obtain ⟨its, r, ht, hz⟩ := I5.tuple hx
  have hlen := r.length
  show wpAny (model X.prog X.w) X.A (subscriptTail e (.Slice none none (some (.UnaryOp .USub (.Constant (.int 1) k p1) p2)) p3) (.ref a) (.ref s4.heap.objs.size)) (EP X pins σ Q) X.xe { s4 with heap := s4.heap.push { cls := .type "slice", data := .fields #[vl, vu, vs] } }
  refine tail_any (ops := [.ref a, .ref s4.heap.objs.size]) (IsTup.typeIs ht) (PyProof.Rows.slot_tuple_getitem.lookup) ?_ (by with_unfolding_all rfl)
  refine HT.getItem_tuple_rev ht (Heap.IsSliceOf.new _ vl vu vs) pl pu ps ?_ (by rw [List.size_toArray]; omega)
  refine ⟨.ref _, _, I5.laid (t' := s4.toks) (o := .tup xs.reverse) (fun b ob q => Heap.get?_push_of_some _ q) (Nat.le_refl _) ?_, rfl, q _ (I5.hok.fresh (Nat.le_refl _))⟩
  exact ⟨by rw [List.length_reverse]; exact hz, its.reverse, r.reverse, IsTup.new _ _⟩
/-- xs[::-1] of a tuple -/
def revTD : D → Option D
  | .tuple ds => some (.tuple ds.reverse)
  | _ => none
theorem e_revT {k : Nat} {p1 p2 p3 pos : Pos} (ha : PE X a (tQ X.K Z ma)) : PE X (.Subscript a (.Slice none none (some (.UnaryOp .USub (.Constant (.int 1) k p1) p2)) p3) pos) (tM X.K Z (una revTD ma)) :=
  PE_weak (pe_revT ha) fun σ H Q ⟨e, R, p⟩ => ⟨e, R, pst_bnd p fun v H1 x e1 m1 R1 r1 p1 => by
    obtain ⟨d, hd, q⟩ := pst_lft p1
    unfold revTD at hd
    split at hd
    · cases hd
      obtain ⟨a, xs, rfl, hs, r⟩ := rq_tup r1
      exact ⟨a, xs, rfl, hs, fun p hp => q _ _ (.same (same_upd hp)) (R1.same (same_upd hp)) (.tup (SqT.of upd_same) (RpA.mono (.same (same_upd hp)) r.reverse))⟩
    · cases hd⟩
end
end ZZ

namespace ZZ
open PySem PySem.Spec PyProof.Rows L2
variable [TabC]
/-! ### [.. for x in xs ..] over a list that is still changed, but not meanwhile -/
open Classical in
noncomputable def chkT (i : Nat) (ds : List D) (tg : D → En → Option En) : D → En → Option En := fun d e => if e[i]? = some (.op (.list ds)) then tg d e else none
open Classical in
noncomputable def lcO (i : Nat) (vs : List Nat) (tg : D → En → Option En) (cond : M Bool) (elt : M D) : M D := fun e => match e[i]? with
  | some (.op (.list ds)) => (match cmpL (chkT i ds tg) cond elt vs ds (wipeE e vs) with
    | .ok ys e1 => if ys.length ≤ sizeLine ∧ (restE e e1 vs)[i]? = some (.op (.list ds)) then .ok (.list ys) (restE e e1 vs) else .no
    | _ => .no)
  | _ => .no
def tIO (K : PySem.W.Frag) (i : Nat) : TI := fun σ H R => ∃ a xs, σ[i]? = some (some (.ref a)) ∧ SqL K H a xs ∧ R (Itl K a) H
open Classical in
theorem t_lcO {K : PySem.W.Frag} {Z : ZC} {g : TG} {f : D → En → Option En} {i0 : Nat} {is vs : List Nat} {mc : M Bool} {me : M D} (hg : ∀ D acc, TgW K (ZT Z D acc) is g f) (hi : ∀ i ∈ is, i ∈ vs) (hv : ∀ i ∈ Z.ios, i ∉ vs) (σ : SS) (H : Hp) (Q : VK) (p : tO K Z (lcO i0 vs f mc me) σ H Q) :
    tLc (tIO K i0) g (tZ K Z (fun _ => rB) mc) (tZ K Z (fun _ => rV K) me) vs σ H Q := by
  obtain ⟨e, R, p⟩ := p
  unfold lcO at p
  split at p
  case h_2 => exact p.elim
  rename_i ds hop
  obtain ⟨la, hla, ⟨ws0, hws0, rws0⟩, _⟩ := R.op i0 _ hop
  refine ⟨la, ws0, hla, SqL.of hws0, ?_⟩
  intro D hD
  have m1 : Mono H H := .refl
  cases qc : cmpL (chkT i0 ds f) mc me vs ds (wipeE e vs) with
  | exc x e2 => rw [qc] at p; exact p.elim
  | no => rw [qc] at p; exact p.elim
  | ok tot ef =>
    rw [qc] at p
    have p : pst K Z (rO K Z) σ H Q (if tot.length ≤ sizeLine ∧ (restE e ef vs)[i0]? = some (.op (.list ds)) then .ok (.list tot) (restE e ef vs) else .no) := p
    by_cases hsz2 : tot.length ≤ sizeLine ∧ (restE e ef vs)[i0]? = some (.op (.list ds))
    · rw [if_pos hsz2] at p
      obtain ⟨hsz, hend⟩ := hsz2
      obtain ⟨hivs, hef⟩ := restE_op hend
      have at0 : ∀ {acc : List V} {H' : Hp} {e' : En}, Rel K (ZT Z D acc) (wipe σ vs) H' e' → e'[i0]? = some (.op (.list ds)) → ∃ ws, H' la = some (.lst ws) ∧ RpA K H' ws ds := fun R' h' => by
        obtain ⟨a', ha', ⟨ws, hw, rw_⟩, _⟩ := R'.op i0 _ h'
        rw [wipe_out' hivs, hla] at ha'
        injection ha' with ha'
        injection ha' with ha'
        injection ha' with ha'
        subst ha'
        exact ⟨ws, hw, rw_⟩
      obtain ⟨b1, b2, b3⟩ := R.fresh hD
      have RW := rel_wipe R hv
      obtain ⟨_, w2, _⟩ := RW.fresh hD
      have s0 : Same H (upd H D (.lst [])) := same_upd hD
      refine ⟨fun i n H' => ∃ acc done ys e', n = ds.length - i ∧ i ≤ ds.length ∧ Mono H H' ∧ Rel K (ZT Z D acc) (wipe σ vs) H' e' ∧ RpA K H' acc done ∧ cmpL (chkT i0 ds f) mc me vs (ds.drop i) e' = .ok ys ef ∧ done ++ ys = tot,
        ⟨_, [], [], tot, _, rfl, Nat.zero_le _, .same s0, rel_in (RW.same s0) upd_same b1 w2, .nil, qc, rfl⟩, ?_⟩
      rintro i n H' ⟨acc, done, ys, e', rfl, hil, mo, R', ra, hc, ht⟩
      by_cases hlt : i < ds.length
      · have hin : e'[i0]? = some (.op (.list ds)) := by
          rw [drop_get hlt] at hc
          unfold cmpL at hc
          by_cases c : e'[i0]? = some (.op (.list ds))
          · exact c
          · unfold chkT at hc
            rw [if_neg c] at hc
            cases hc
        obtain ⟨ws, hwl, rws⟩ := at0 R' hin
        have hwlen := rws.length
        refine .inr ⟨⟨ws, ws[i]'(by omega), SqL.of hwl, List.getElem?_eq_getElem (by omega)⟩, fun H'' => ∃ acc done ys e', i + 1 ≤ ds.length ∧ Mono H H'' ∧ Rel K (ZT Z D acc) (wipe σ vs) H'' e' ∧ RpA K H'' acc done ∧ cmpL (chkT i0 ds f) mc me vs (ds.drop (i + 1)) e' = .ok ys ef ∧ done ++ ys = tot, fun H'' ⟨acc, done, ys, e', h⟩ => ⟨ds.length - (i + 1), by omega, acc, done, ys, e', rfl, h⟩, fun x H2 y => ?_⟩
        obtain ⟨e2, hx⟩ := y
        subst e2
        have s : Same H2 H2 := Same.refl _
        have rx : Rp K H2 x ds[i] := rws.getV (hx ws (SqL.of hwl)) (List.getElem?_eq_getElem hlt)
        rw [drop_get hlt] at hc
        unfold cmpL at hc
        unfold chkT at hc
        rw [if_pos hin] at hc
        cases hf : f ds[i] e' with
        | none => rw [hf] at hc; cases hc
        | some e2 =>
          rw [hf] at hc
          refine hg D acc (wipe σ vs) H2 e' e2 x ds[i] _ (R'.same s) rx hf fun σ2 R2 hw => ?_
          have w2 : wipe σ2 vs = wipe σ vs := (hw vs hi).trans (wipe_wipe σ vs)
          refine ⟨w2, D, acc, e2, R2, ?_⟩
          have hc : (match mc e2 with
            | .ok true e2 => (match me e2 with
              | .ok y e3 => (match cmpL (chkT i0 ds f) mc me vs (ds.drop (i + 1)) (wipeE e3 vs) with
                | .ok ys e4 => .ok (y :: ys) e4
                | _ => .no)
              | _ => .no)
            | .ok false e2 => (match cmpL (chkT i0 ds f) mc me vs (ds.drop (i + 1)) (wipeE e2 vs) with
              | .ok ys e4 => .ok ys e4
              | _ => .no)
            | _ => .no : Out (List ZZ.D)) = .ok ys ef := hc
          have m2 : Mono H H2 := mo.trans (.same s)
          cases hb : mc e2 with
          | no => rw [hb] at hc; cases hc
          | exc x e3 => rw [hb] at hc; cases hc
          | ok b e3 =>
            rw [hb] at hc
            intro b' H3 m3 R3 r3
            cases r3
            have out : ∀ {σ2 : SS} {H4 : Hp} {e4 : En}, wipe σ2 vs = wipe σ vs → Rel K (ZT Z D acc) σ2 H4 e4 → Rel K (ZT Z D acc) (wipe σ vs) H4 (wipeE e4 vs) := fun {σ2 H4 e4} w R4 => by
              rw [← w]
              exact rel_wipe R4 hv
            cases b with
            | false =>
              rw [if_neg Bool.false_ne_true]
              have hc : (match cmpL (chkT i0 ds f) mc me vs (ds.drop (i + 1)) (wipeE e3 vs) with
                | .ok ys e4 => .ok ys e4
                | _ => .no : Out (List ZZ.D)) = .ok ys ef := hc
              cases hr : cmpL (chkT i0 ds f) mc me vs (ds.drop (i + 1)) (wipeE e3 vs) with
              | no => rw [hr] at hc; cases hc
              | exc x e4 => rw [hr] at hc; cases hc
              | ok zs e4 =>
                rw [hr] at hc
                cases hc
                exact ⟨acc, done, ys, wipeE e3 vs, hlt, m2.trans m3, out w2 R3, ra.mono ((Mono.same s).trans m3), hr, ht⟩
            | true =>
              rw [if_pos rfl]
              have hc : (match me e3 with
                | .ok y e3 => (match cmpL (chkT i0 ds f) mc me vs (ds.drop (i + 1)) (wipeE e3 vs) with
                  | .ok ys e4 => .ok (y :: ys) e4
                  | _ => .no)
                | _ => .no : Out (List ZZ.D)) = .ok ys ef := hc
              refine ⟨D, acc, e3, R3, ?_⟩
              cases he : me e3 with
              | no => rw [he] at hc; cases hc
              | exc x e4 => rw [he] at hc; cases hc
              | ok y e4 =>
                rw [he] at hc
                have hc : (match cmpL (chkT i0 ds f) mc me vs (ds.drop (i + 1)) (wipeE e4 vs) with
                  | .ok ys e4 => .ok (y :: ys) e4
                  | _ => .no : Out (List ZZ.D)) = .ok ys ef := hc
                cases hr : cmpL (chkT i0 ds f) mc me vs (ds.drop (i + 1)) (wipeE e4 vs) with
                | no => rw [hr] at hc; cases hc
                | exc x e5 => rw [hr] at hc; cases hc
                | ok zs e5 =>
                  rw [hr] at hc
                  cases hc
                  intro v H4 m4 R4 rv
                  obtain ⟨Ro, hDacc, _, _⟩ := rel_out R4
                  have l1 := (ra.length : acc.length = done.length)
                  have l2 : (done ++ y :: zs).length = tot.length := congrArg List.length ht
                  rw [List.length_append, List.length_cons] at l2
                  have mo4 : Mono H4 (upd H4 D (.lst (acc ++ [v]))) := mono_upd hDacc trivial
                  have ms : Mono H2 H4 := (Mono.same s).trans (m3.trans m4)
                  refine ⟨acc, hDacc, by omega, acc ++ [v], done ++ [y], zs, wipeE e4 vs, hlt, (m2.trans m3).trans (m4.trans mo4), tmp_chg (out w2 R4) b3, (ra.mono (ms.trans mo4)).append (.cons (Rp.mono mo4 rv) .nil), hr, ?_⟩
                  rw [List.append_assoc]
                  exact ht
      · have ei : i = ds.length := by omega
        subst ei
        rw [List.drop_length] at hc
        cases hc
        rw [List.append_nil] at ht
        subst ht
        obtain ⟨Ro, hDacc, hb, hs⟩ := rel_out R'
        obtain ⟨ws, hwl, rws⟩ := at0 R' hef
        refine .inl ⟨⟨ws, SqL.of hwl, by rw [rws.length]; exact Nat.le_refl _⟩, p (.ref D) H' (m1.trans mo) (rel_rest R mo Ro hv) ⟨D, rfl, ⟨acc, hDacc, ra⟩, hb, fun j d hj => ?_, b3⟩⟩
        obtain ⟨q1, q2⟩ := restE_op hj
        have := hs j d q2
        rw [wipe_out' q1] at this
        exact this
    · rw [if_neg hsz2] at p
      exact p.elim
section
variable {X : Cx} {Z : ZC} {pos p : Pos}
theorem i_open {tg e : Expr} {i : Nat} (h : PE X e (tVar i)) : PI X tg e (tIO X.K i) := by
  refine ⟨fun pins s σ H R I ⟨a, xs, ha, hl, q⟩ => ?_⟩
  refine thn (h.run pins s σ H (fun v H1 => v = .ref a ∧ H1 = H) I ⟨.ref a, ha, rfl, rfl⟩) fun v s1 ⟨x, H1, I1, r1, e1, e2⟩ => ?_
  subst e1 e2
  cases r1
  exact it_list I1 hl q
theorem e_lcO {elt tg iter : Expr} {ifs : List Expr} {scope : Scope} {own : List (Str × Nat)} {g : TG} {f : D → En → Option En} {i0 : Nat} {is vs : List Nat} {mc : M Bool} {me : M D} (hc : X.calm = true) (hN : X.N.Nodup) (hi : PI X tg iter (tIO X.K i0)) (ok : blkC X.N X.env.scope scope own = true) (hvs : own.map (·.2) = vs) (his : ∀ i ∈ is, i ∈ vs) (hv : ∀ i ∈ Z.ios, i ∉ vs)
    (hw : ∀ D acc, TgW X.K (ZT Z D acc) is g f) (hg : ∀ s H C cl fp, PG (BK X scope s H C cl fp) tg g) (ht : ∀ s H C cl fp, PTs (BK X scope s H C cl fp) ifs (tZ X.K Z (fun _ => rB) mc)) (he : ∀ D acc s H C cl fp, PE (BK X scope s H C cl fp) elt (tM X.K (ZT Z D acc) me)) (hs : ∀ x, foldedSetIterable iter X.env x = pure x := by intro _; rfl) :
    PE X (.ListComp elt [⟨tg, iter, ifs, 0⟩] scope pos) (tO X.K Z (lcO i0 vs f mc me)) := by
  subst hvs
  exact PE_weak (pe_lc hc hN hi (blkOk_by ok) hg ht (fun s H C cl fp => (⟨fun pins s' σ H' Q I ⟨D, acc, q⟩ => (he D acc s H C cl fp).run pins s' σ H' Q I q⟩ : PE (BK X scope s H C cl fp) elt (tZ X.K Z (fun _ => rV X.K) me))) hs) (t_lcO hw his hv)
end
end ZZ

namespace ZZ
open PySem PySem.Spec PyProof.Rows L2
variable [TabC]
/-! ### the key (len(x), x), told of the bare heap -/
section
variable {prog : Program} {w : World} {A : Around} {E : Value → Shared → Prop} {s : Shared} {env : Env} {x : Str} {a : Addr} {its : List Value} {m mg mb : Str → Option Value} {Q : Value → Shared → Prop} {p1 p2 p3 p4 p5 : Pos}
theorem name_low {p : Pos} {v : Value} (hk : env.scope.kind = .function) (hl : env.kindOf x = some .local) (hns : s.heap.Ns env.locals m) (hv : m x = some v) (hd : (x == ("__debug__" : Str)) = false) (q : Q v s) : wpAny (model prog w) A (eval (.Name x p) env) Q E s :=
  wpAny_Name (wpAny_loadName_local hk hl hns hv q) hd
theorem lenkey_eval {x1} (hk : env.scope.kind = .function) (hx : env.kindOf x = some .local) (hlen : env.kindOf "len" = some .globalImplicit) (hns : s.heap.Ns env.locals m) (hv : m x = some (.ref a)) (hg : s.heap.Ns env.globals mg) (hmg : mg "len" = none) (hb : s.heap.Ns env.builtins mb) (hmb : mb "len" = some (.builtin "len"))
    (ht : PyProof.Rows.IsTup s.heap a its.toArray) (hz : its.length ≤ sizeLine) (hd : (x == ("__debug__" : Str)) = false)
    (q : ∀ (t : Tok) (tk : Nat), Q (.ref s.heap.objs.size) { s with heap := s.heap.push { cls := .type "tuple", data := .seq #[.int its.length t, .ref a] }, toks := tk }) :
    wpAny (model prog w) A (eval (.Tuple [.Call (.Name "len" p1) [.Name x p2] [] p3, .Name x p4] x1 p5) env) Q E s := by
  refine wpAny_Tuple_spliced ?_
  show wpAny _ _ (spliced ((false, eval (.Call (.Name "len" p1) [.Name x p2] [] p3) env) :: (false, eval (.Name x p4) env) :: [])) _ _ s
  refine Calls.spliced_cons ?_
  refine wpAny_Call_Name_kw (Calls.Name_function_global hk hlen (Calls.loadGlobal_builtin hg hmg hb hmb ?_))
  refine PyProof.Rows.callWith_builtin1 (e := .Name x p2) (rest := []) (PyProof.Rows.args_cons (name_low hk hx hns hv hd (args_nil ?_)))
  have hz' : (its.toArray.size : Int) < 2 ^ 63 := by
    rw [List.size_toArray]
    rw [sizeLine_eq] at hz
    omega
  refine PyProof.Rows.len_tuple ht hz' ?_
  refine Calls.spliced_cons (name_low hk hx hns hv hd (Calls.spliced_nil ⟨by rw [sizeLine_eq]; simp, ?_⟩))
  have := q (s.toks + 1) (s.toks + 1 + 1)
  rw [List.size_toArray]
  exact this
end
/-! ### a lambda is made: what stays -/
def TblStay (H H' : Hp) : Prop := ∀ b ps, H b = some (.tbl ps) → ∃ ps', H' b = some (.tbl ps')
/-- the row that tells one more code object -/
abbrev row3 (pos : Pos) (new : Addr) : Array Value := #[rawInt pos.line, rawInt pos.col, .ref new]
/-- a table that tells one more, the code object new -/
abbrev putT (H : Hp) (P new : Addr) (q : Str) (old : Array Value) (pos : Pos) : Hp := upd (upd H P (.tbl (old ++ row3 pos new))) new (LamX.CodeO new q)
theorem putT_ok {T : List (Addr × Str)} {H : Hp} {P new : Addr} {q : Str} {old : Array Value} {pos : Pos} (fresh : H new = none) (atP : H P = some (.tbl old)) (one : ∀ t ∈ T, t.1 = P → t.2 = q) (all : LamX.Tabs T H) :
    LamX.ExtN H (putT H P new q old pos) ∧ TblStay H (putT H P new q old pos) ∧ LamX.Tabs T (putT H P new q old pos) := by
  have other : ∀ b, b ≠ P → b ≠ new → putT H P new q old pos b = H b := fun b m1 m2 => (upd_ne m2).trans (upd_ne m1)
  have notNew : ∀ {b u}, H b = some u → b ≠ new := fun {b u} e z => by rw [z, fresh] at e; cases e
  have here : putT H P new q old pos P = some (.tbl (old ++ row3 pos new)) := (upd_ne (notNew atP)).trans upd_same
  have there : putT H P new q old pos new = some (LamX.CodeO new q) := upd_same
  have stays : LamX.ExtN H (putT H P new q old pos) := fun b u e nt => (other b (fun z => nt old (Option.some.inj (e.symm.trans (z ▸ atP)))) (notNew e)).trans e
  refine ⟨stays, fun b w e => ?_, fun t mt => ?_⟩
  · by_cases same : b = P
    · exact ⟨old ++ row3 pos new, by rw [same]; exact here⟩
    · exact ⟨w, (other b same (notNew e)).trans e⟩
  · obtain ⟨w, atT, trip, told⟩ := all t mt
    by_cases same : t.1 = P
    · rw [same, atP] at atT
      obtain rfl : old = w := by injection atT with atT; injection atT
      refine ⟨_, by rw [same]; exact here, ?_, fun p' v among => ?_⟩
      · rw [Array.toList_append]
        exact PySem.TriplesOk_snoc _ _ _ _ trip
      · rw [Array.toList_append] at among
        rcases LamX.among_app (c := .ref new) old.toList trip among with before | now
        · obtain ⟨d, ev, ed⟩ := told p' v before
          exact ⟨d, ev, stays d _ ed LamX.codeO_ne⟩
        · exact ⟨new, now, by rw [one t mt same]; exact there⟩
    · refine ⟨w, (other _ same (notNew atT)).trans atT, trip, fun p' v among => ?_⟩
      obtain ⟨d, ev, ed⟩ := told p' v among
      exact ⟨d, ev, stays d _ ed LamX.codeO_ne⟩
section
variable {X : Cx} {pins : List (Addr × Obj)} {σ : SS} {H : Hp} {s : Shared}
/-- the function that a lambda makes -/
abbrev lamObj (X : Cx) (params : Arguments) (body : Expr) (scope : Scope) (pm : Value) (code : Addr) (ct : Value) : Obj := PySem.W.kla_obj "<lambda>" (X.env.qual ++ "<lambda>") params body scope (cloFrom X.env.cells scope.names []) pm code ct
theorem lam_makeZ {T : List (Addr × Str)} {c P : Addr} {params : Arguments} {body : Expr} {scope : Scope} {pos : Pos} {E Q : Value → Shared → Prop} (I : Inv X pins σ H s) (TB : LamX.TabB X.base X.mg c P) (hcode : X.env.code = .ref c)
    (hin : (P, X.env.qual ++ "<lambda>") ∈ T) (one : ∀ t ∈ T, t.1 = P → t.2 = X.env.qual ++ "<lambda>") (all : LamX.Tabs T H) (plain : defaultsOf params X.env = ([], [])) (caught : ∀ y ∈ scope.names, y.2 = .free → ∃ c, X.env.cells.lookup y.1 = some c)
    (go : ∀ (f code : Addr) (pm ct : Value) (H1 : Hp) (s1 : Shared), Inv X pins σ H1 s1 → LamX.ExtN H H1 → TblStay H H1 → LamX.Tabs T H1 → s1.heap.get? f = some (lamObj X params body scope pm code ct) → H1 code = some (LamX.CodeO code (X.env.qual ++ "<lambda>")) → Q (.ref f) s1) :
    wpAny (model X.prog X.w) X.A (eval (.Lambda params body scope pos) X.env) Q E s := by
  obtain ⟨old, atP, trip, told⟩ := all _ hin
  have objP : s.heap.get? P = some (PySem.W.tabObj old) := I.hok P _ atP
  have mgB := TB.bm.keeps I.bk
  have codeB := TB.code.keeps I.bk
  have globs := I.mod.glob.keeps I.bk
  apply PySem.W.kla_eval plain
  rcases seek : codeAmong pos old.toList with _ | v
  · refine PySem.W.kla_makeFunction (closure_ok caught) I.ok.glob globs hcode codeB objP trip seek TB.gP mgB fun code ct g tk grew above below isCode atP' => ?_
    obtain ⟨_, o, fields, tok, e, atC, data, name⟩ := isCode
    cases e
    obtain ⟨r1, r2, r3⟩ := putT_ok (pos := pos) (I.hok.fresh above) atP one all
    have up : ∀ {b o}, g.get? b = some o → (g.push (lamObj X params body scope ((X.mg "__name__").getD .none) code ct)).get? b = some o := fun e => Heap.get?_push_of_some _ e
    have J := LamX.inv_table (q := X.env.qual ++ "<lambda>") (t' := tk) (more := row3 pos code) I atP (fun b o m e => up (grew b o m e)) (up atP') above ⟨o, fields, tok, up atC, data, name⟩
    exact go _ code _ ct _ _ J r1 r2 r3 (Heap.get?_push_size _ rfl) upd_same
  · obtain ⟨code, e, known⟩ := told pos v seek
    cases e
    refine PySem.W.kla_makeFunctionHit (closure_ok caught) I.ok.glob globs hcode codeB objP trip seek mgB fun ct g tk grew _ => ?_
    have J : Inv X pins σ H { s with heap := g.push (lamObj X params body scope ((X.mg "__name__").getD .none) code ct), toks := tk } := I.kept fun b o m => Heap.get?_push_of_some _ (grew b o m)
    exact go _ code _ ct H _ J (LamX.ExtN.refl H) (fun b w m => ⟨w, m⟩) all (Heap.get?_push_size _ rfl) known
end
theorem mono_lam {H H1 : Hp} (eN : LamX.ExtN H H1) (T1 : LamX.Tabs TabC.T H1) : Mono H H1 :=
  ⟨fun b xs h => eN b _ h (fun ps z => by cases z), fun b o u h => eN b _ h (fun ps z => by cases z), fun p hp _ => T1 p hp⟩
theorem rel_lam {K : PySem.W.Frag} {Z : ZC} {σ : SS} {H H1 : Hp} {e : En} (R : Rel K Z σ H e) (eN : LamX.ExtN H H1) (tS : TblStay H H1) (T1 : LamX.Tabs TabC.T H1) : Rel K Z σ H1 e := by
  have m := mono_lam eN T1
  have keep : ∀ b u, MutZ (some u) → H b = some u → H1 b = some u := fun b u mu h => eN b u h fun ps z => by rw [z] at mu; exact mu
  exact {
    len := R.len
    fz := fun i d h => let ⟨v, h1, h2⟩ := R.fz i d h; ⟨v, h1, h2.mono m⟩
    op := fun i d h => by
      obtain ⟨a, h1, h2, h3⟩ := R.op i d h
      obtain ⟨u, hu, mu⟩ := h2.there
      exact ⟨a, h1, h2.mono m ((keep a u mu hu).trans hu.symm), h3⟩
    inj := R.inj
    fr := fun b o h n => (R.fr b o h n).trans fun x hx => by
      by_cases t : ∃ ps, x = .tbl ps
      · obtain ⟨ps, rfl⟩ := t
        obtain ⟨ps', h'⟩ := tS b ps hx
        exact .inr ⟨ps, ps', rfl, h'⟩
      · exact .inl (eN b x hx fun ps z => t ⟨ps, z⟩)
    io := fun i hi => by
      obtain ⟨⟨u, hu⟩, h⟩ := R.io i hi
      refine ⟨?_, h⟩
      by_cases t : ∃ ps, u = .tbl ps
      · obtain ⟨ps, rfl⟩ := t
        obtain ⟨ps', h'⟩ := tS _ ps hu
        exact ⟨_, h'⟩
      · exact ⟨u, eN _ u hu fun ps z => t ⟨ps, z⟩⟩
    tab := T1
    nd := R.nd.keep m fun b φ _ q => eN b _ q fun ps z => by cases z
    tp := fun p hp => let ⟨h1, h2, h3, h4⟩ := R.tp p hp; ⟨keep _ _ h2 h1, h2, h3, h4⟩ }
end ZZ

namespace ZZ
open PySem PySem.Spec PyProof.Rows L2 PySem.W
variable [TabC]
/-! ### sorted(x, key=lambda y: (len(y), y)), of tuples of whole numbers -/
def lenT : D → Int
  | .tuple ds => ds.length
  | _ => 0
def keyLD (d : D) : D := .tuple [.int (lenT d), d]
def isIT : D → Bool
  | .tuple ds => (intsD ds).isSome
  | _ => false
def sortLenD : D → Option D
  | .list ds => if (ds.all isIT && sortOk (ds.map keyLD)) = true then some (.list (ds.mergeSort (dataLe false keyLD))) else none
  | _ => none
theorem reads_ints {K : PySem.W.Frag} {H : Hp} {h : Heap} : ∀ {xs : List V} {ds : List D} {us : List Value} {ns : List Int}, RpA K H xs ds → intsD ds = some ns → Vals xs us → ReadsAll h us ds []
  | _, _, _, _, .nil, _, r => by cases r; exact .nil
  | _, _, _, _, .cons (d := d) a t, e, r => by
    cases d with
    | int b =>
      simp only [intsD] at e
      obtain ⟨ns', e1, _⟩ := Option.map_eq_some_iff.mp e
      cases a
      cases r with
      | cons r1 r2 =>
        obtain ⟨tk, rfl⟩ := r1
        exact ReadsAll.cons (as := []) (bs := []) (.int b tk) (reads_ints t e1 r2)
    | _ => simp only [intsD] at e; cases e
/-- an item: a tuple of whole numbers that stands in the heap -/
def ItemAt (K : PySem.W.Frag) (H : Hp) (h : Heap) (u : Value) (d : D) : Prop := ∃ (v : V) (a : Addr) (its : List Value) (ds : List D) (o : Obj) (n : Nat), RelV v u ∧ Rp K H v d ∧ u = .ref a ∧ d = .tuple ds ∧ h.get? a = some o ∧ o.cls = .type "tuple" ∧ o.data = .seq its.toArray n ∧ its.length = ds.length ∧ its.length ≤ sizeLine ∧ ∀ h', (∀ b o, h.get? b = some o → h'.get? b = some o) → Reads h' u d []
theorem item_at {X : Cx} {pins : List (Addr × Obj)} {σ : SS} {H : Hp} {s : Shared} (I : Inv X pins σ H s) {v : V} {u : Value} {d : D} (r : RelV v u) (h : Rp X.K H v d) (hi : isIT d = true) : ItemAt X.K H s.heap u d := by
  unfold isIT at hi
  split at hi
  · rename_i ds
    obtain ⟨ns, hns⟩ := Option.isSome_iff_exists.mp hi
    have h0 := h
    cases h with
    | tup hs ra =>
      cases r
      obtain ⟨its, rv, ⟨o, ho, hc, n, hd⟩, hz⟩ := I.tuple hs
      refine ⟨.ref _, _, its, ds, o, n, rfl, h0, rfl, rfl, ho, hc, hd, by rw [← rv.length, ra.length], by rw [← rv.length]; exact hz, fun h' kp => ?_⟩
      exact .tuple (kp _ _ ho) hc hd (reads_ints ra hns (by simpa using rv))
  · cases hi
theorem each_item {X : Cx} {pins : List (Addr × Obj)} {σ : SS} {H : Hp} {s : Shared} (I : Inv X pins σ H s) : ∀ {vs : List V} {us : List Value} {ds : List D}, Vals vs us → RpA X.K H vs ds → ds.all isIT = true → EachIs (ItemAt X.K H s.heap) us ds
  | _, _, _, .nil, .nil, _ => .nil
  | _, _, _, .cons r t, .cons a b, h => by
    rw [List.all_cons, Bool.and_eq_true] at h
    exact .cons (item_at I r a h.1) (each_item I t b h.2)
theorem item_each {K : PySem.W.Frag} {H : Hp} {h : Heap} : ∀ {us : List Value} {ds : List D}, EachIs (ItemAt K H h) us ds → ∃ vs, Vals vs us ∧ RpA K H vs ds
  | _, _, .nil => ⟨[], .nil, .nil⟩
  | _, _, .cons ⟨v, _, _, _, _, _, r, a, _⟩ t => by
    obtain ⟨vs, h1, h2⟩ := item_each t
    exact ⟨v :: vs, .cons r h1, .cons a h2⟩
end ZZ

namespace ZZ
open PySem PySem.Spec PyProof.Rows L2 PySem.W
variable [TabC]
section
open LamX
variable {X : Cx} {Z : ZC}
theorem kw_one {e : Expr} {env : Env} {nm : Option Str} {kpos pos : Pos} {A : Around} {prog : Program} {w : World} {E : Value → Shared → Prop} {s : Shared} {Q : List Value → Shared → Prop} (h : wpAny (model prog w) A (eval e env) (fun v s1 => Q [v] s1) E s) : wpAny (model prog w) A (evalAll ((backToKw pos (keywordEach [⟨nm, e, kpos⟩] env)).map (·.2))) Q E s := by
  show wpAny _ _ (evalAll ((do let v ← eval e env; standAt pos; pure v) :: [])) _ _ s
  exact wpAny_evalAll_cons (wpAny_bind (thn h fun u s1 q1 => wpAny_bind (wpAny_standAt (wpAny_pure (wpAny_evalAll_nil q1)))))
theorem e_sortK {ma : M D} {a : Expr} {p lpos pos kpos p1 p2 p3 p4 p5 : Pos} {x1} {params : Arguments} {scope : Scope} {c P : Addr} {x : Str} {k : Nat}
    (TB : TabB X.base X.mg c P) (hcode : X.env.code = .ref c) (hmT : (P, X.env.qual ++ "<lambda>") ∈ TabC.T) (huT : ∀ p ∈ TabC.T, p.1 = P → p.2 = X.env.qual ++ "<lambda>")
    (hr : Room (k + 1) X.A) (hg : Gl X "sorted") (hm : X.mg "sorted" = none) (hml : X.mg "len" = none) (ha : PE X a (tQ X.K Z ma))
    (hnm : ∀ y ∈ scope.names, y.2 ≠ .cell ∧ y.2 ≠ .free) (hco : scope.isCoroutine = false) (hgen : scope.isGenerator = false) (hkind : scope.kind = .function) (hxl : scope.names.lookup x = some .local) (hln : scope.names.lookup ("len" : Str) = some NameKind.globalImplicit) (hdef : defaultsOf params X.env = ([], []))
    (hbind : ∀ (q : Str) (cl : List (Str × Addr)) (pm cv ctv v : Value), bindArgs (PySem.W.kla_fn "<lambda>" q params (.Tuple [.Call (.Name "len" p1) [.Name x p2] [] p3, .Name x p4] x1 p5) scope cl pm cv ctv) ⟨[v], []⟩ = pure [(x, v)]) (hd : (x == ("__debug__" : Str)) = false)
    (he : starEach [a] X.env = (false, eval a X.env) :: starEach [] X.env := by rfl) :
    PE X (.Call (.Name "sorted" p) [a] [⟨some "key", .Lambda params (.Tuple [.Call (.Name "len" p1) [.Name x p2] [] p3, .Name x p4] x1 p5) scope lpos, kpos⟩] pos) (tO X.K Z (una sortLenD ma)) := by
  refine ⟨fun pins s σ H Q I ⟨en, R, q⟩ => ?_⟩
  refine wpAny_Call_Name_kw (ld_blt I hg hm PyProof.Rows.boot_sorted ?_)
  have hpa := pa_cons ha pa_nil he
  refine PyProof.Rows.callWith_kw (thn (hpa.run pos pins s σ H (fun vs H1 => ∃ v d e1, vs = [v] ∧ Mono H H1 ∧ Rel X.K Z σ H1 e1 ∧ Rq X.K H1 v d ∧ pst X.K Z (rO X.K Z) σ H1 Q (lft (sortLenD d) e1)) I ⟨en, R, ?_⟩) fun us s1 ⟨vs, H1, I1, r1, q1⟩ => ?_) (by rw [he]; rfl) (by rw [he]; rfl) rfl rfl
  · exact pst_bnd q fun v H1 d e1 m1 R1 r1 p1 => ⟨v, d, e1, rfl, m1, R1, r1, p1⟩
  obtain ⟨v, d, e1, rfl, m1, R1, rv, pe⟩ := q1
  obtain ⟨d', hd', pe⟩ := pst_lft pe
  unfold sortLenD at hd'
  split at hd'
  case h_2 => cases hd'
  rename_i ds
  split at hd'
  case isFalse => cases hd'
  rename_i hok
  rw [Bool.and_eq_true] at hok
  obtain ⟨hit, hso⟩ := hok
  cases hd'
  obtain ⟨la, xs, rfl, hs, ra⟩ := rq_lst rv
  rw [Vals.ref1 r1]
  refine kw_one (lam_makeZ (T := TabC.T) I1 TB hcode hmT huT R1.tab hdef (fun y hy hf => absurd hf (hnm y hy).2) fun f c' pm ctv H2 s2 I2 eN tS T2 hf hc' => ?_)
  show wpAny _ _ (call (.builtin "sorted") [.ref la] [(Str.ofString "key", .ref f)]) _ _ s2
  have m2 := mono_lam eN T2
  have R2 := rel_lam R1 eN tS T2
  have ra2 := ra.mono m2
  have hs2 : SqL X.K H2 la xs := by
    rcases hs with (h | ⟨o, h⟩) | h
    · exact .inl (.inl (eN _ _ h fun ps z => by cases z))
    · exact .inl (.inr ⟨o, eN _ _ h fun ps z => by cases z⟩)
    · exact .inr h
  obtain ⟨its, rvs, hlist, hz⟩ := I2.list hs2
  have hei := each_item I2 rvs ra2 hit
  obtain ⟨k1, k2, k3, k4⟩ := sortOk_of hso
  rw [List.map_id] at k1 k2
  have hdl : ds.length ≤ sizeLine := by rw [← ra.length]; exact hz
  obtain ⟨mb, hb1, hb2⟩ := I2.mod.blt
  refine PySem.W.sorted_key_data (b := false) keyLD hlist.isList hei k1 k2 hdl (fun d hd => ?_) (ksk_s1 _ _) (fun _ => ksk_l1 _ _) (fun _ => ksk_t1 _ _) (fun u d hI hmem h tk kp => ?_) fun out cc h' tk kp hfr hD hlen eo => ?_
  · have := k4 (keyLD d) (List.mem_map.mpr ⟨d, hd, rfl⟩)
    have := hr.un
    omega
  · obtain ⟨v, aa, its', ds', o, n, _, _, rfl, rfl, ho, hcl, hda, hll, hzz, hrd⟩ := hI
    obtain ⟨⟨oc, vs, t, hoc, hdc, hvc⟩, _, _⟩ := I2.hok c' _ hc'
    refine wpAny_call ?_
    have rc : codeAny (model X.prog X.w) X.A.in1.in1 (.call (.ref f) ⟨[.ref aa], []⟩) (fun r s' => ∃ u, r = .ok (.ret u) ∧ PySem.W.KeyPure (keyLD (.tuple ds')) { s2 with heap := h, toks := tk } u s') { s2 with heap := h, toks := tk } := by
      refine PySem.W.kla_callFunE hr.depth (kp _ _ hf) rfl hco hgen rfl ⟨c', oc, vs, t, rfl, kp _ _ hoc, hdc, hvc⟩ ?_
      rw [hbind]
      refine wpAny_pure (wpAny_newFunctionEnv (fun y hy => (hnm y hy).1) (fun y hy => by rw [List.mem_singleton.mp hy]; exact hxl) (fun h₁ hns hsb => ⟨(I2.nolimit.keeps kp).fresh _ hsb, ?_⟩) hkind)
      have hk₁ : ∀ b o, h.get? b = some o → h₁.get? b = some o := fun b o e => hsb.extBut b o (Nat.ne_of_lt (Heap.lt_size e)) (Heap.get?_push_of_some _ e)
      show codeAny _ _ (.expr (.Tuple [.Call (.Name "len" p1) [.Name x p2] [] p3, .Name x p4] x1 p5) (PySem.W.envX (X.env.qual ++ "<lambda>") scope h.objs.size f (.ref c') (cloFrom X.env.cells scope.names []))) _ _
      refine PySem.W.kla_codeExpr (lenkey_eval (mg := X.mg) (mb := mb) (its := its') hkind hxl hln hns (by simp [List.lookup]) (I2.mod.glob.keeps fun b o e => hk₁ b o (kp b o (I2.bk b o e))) hml (hb1.keeps fun b o e => hk₁ b o (kp b o (I2.bk b o e))) ((hb2 _ (by decide)).trans boot_len) ⟨o, hk₁ _ _ (kp _ _ ho), hcl, n, hda⟩ hzz hd fun tt tk' => ⟨_, rfl, _, _, rfl, fun b o e => ?_, ?_⟩)
      · exact Heap.get?_push_of_some _ (hk₁ b o e)
      · refine .tuple (Heap.get?_push_size _ rfl) rfl rfl ?_
        refine ReadsAll.cons (as := []) (bs := []) ?_ (ReadsAll.cons (as := []) (bs := []) ?_ .nil)
        · have e : lenT (.tuple ds') = (its'.length : Int) := by show (ds'.length : Int) = _; rw [hll]
          rw [e]; exact .int _ _
        · exact hrd _ fun b o e => Heap.get?_push_of_some _ (hk₁ b o (kp b o e))
    refine codeAny_mono rc fun r s' hq => ?_
    obtain ⟨u, rfl, hq⟩ := hq
    exact hq
  · obtain ⟨zs, v1, v2⟩ := item_each eo
    have hzl : zs.length ≤ sizeLine := by rw [v1.length, hlen]; exact hdl
    have hn : H2 (s2.heap.objs.size + 1) = none := I2.hok.fresh (Nat.le_succ _)
    refine ⟨.ref _, upd H2 (s2.heap.objs.size + 1) (.lst zs), I2.laid (t' := tk) kp (Nat.le_succ _) ⟨hzl, out, cc, v1, hD⟩, rfl, ?_⟩
    have sm := same_upd (o := HO.lst zs) hn
    exact pe _ _ (m2.trans (.same sm)) (R2.same sm) ⟨_, rfl, ⟨zs, upd_same, v2.mono (.same sm)⟩, R2.fresh hn⟩
end
end ZZ

namespace ZZ
open PySem PySem.Spec PyProof.Rows L2
/-! ### defs that make lambdas, and the end of a law with their tables -/
theorem code_of_tab {K : PySem.W.Frag} {x : Str} {f c P : Addr} {cdv : Value} (a : PySem.W.nsIn K mainGlobals x = some (some (.ref f))) (h : PySem.W.tabIn K x = some (c, P)) (hc : CodeAt K f cdv) : cdv = .ref c := by
  obtain ⟨oc, od, fd, osl, lk, e⟩ := hc
  unfold PySem.W.tabIn at h
  rw [a] at h
  simp only [lk, e] at h
  split at h
  · split at h
    · split at h
      · cases h; rfl
      · cases h
    · cases h
  · cases h
theorem tab_mk {K : PySem.W.Frag} {x : Str} {f c P : Addr} {oc oc2 : Value} {od od2 : Option Addr} {fd : FuncData} {osl osl2 : Array (Option Value)} {vs : Array Value} (a : PySem.W.nsIn K mainGlobals x = some (some (.ref f))) (l : K.lookup f = some ⟨oc, od, .func fd, osl⟩) (e : fd.code = .ref c) (m : K.lookup c = some ⟨oc2, od2, .fields vs, osl2⟩) (v : vs[11]? = some (.ref P)) : PySem.W.tabIn K x = some (c, P) := by
  unfold PySem.W.tabIn
  rw [a]
  simp only [l, e, m, v]
/-- a code object, its table, the name of what it holds -/
abbrev Tab3 := Addr × Addr × Str
@[reducible] def tabsOf (ts : List Tab3) : TabC := ⟨ts.map fun t => (t.2.1, t.2.2)⟩
theorem lawT {ts : List Tab3} {P : Program} {w : World} {K : PySem.W.Frag} {mg mb : Str → Option Value} {k : Nat} {fa a : Addr} {x y : Str} {st : Stmt} {FL : List D → FO} {t : Shared} {vs : List Value} {ns : List Int} {outs : List D}
    (kin : K.In t.heap) (gns : t.heap.Ns mainGlobals mg) (bns : t.heap.Ns builtinsNs mb) (boot : ∀ y : Str, y ≠ "__name__" → mb y = bootBuiltins y) (lim : t.heap.NoLimit) (gen : t.gens = #[])
    (hT : ∀ p ∈ ts, t.heap.get? p.2.1 = some { cls := .none, data := .fields #[] }) (nT : ∀ p ∈ ts, K.lookup p.2.1 = none) (hC : ∀ p ∈ ts, PySem.W.CodeHd t.heap p.1 p.2.1)
    (hbm : ∃ (bm : Addr) (ob : Obj), mg "__builtins__" = some (.ref bm) ∧ bm ≠ builtinsNs ∧ t.heap.get? bm = some ob ∧ ob.cls = .type "module" ∧ ob.dict = some builtinsNs ∧ ob.data = .plain)
    (at_ : t.heap.get? a = some { cls := .type "list", data := .seq vs.toArray }) (hints : IntsAre vs ns) (few : ns.length ≤ sizeLine) (room : Room k callerA)
    (F : ∀ base : Heap, K.In base → base.Ns mainGlobals mg → (∀ p ∈ ts, LamX.TabB base mg p.1 p.2.1) → @CalF (tabsOf ts) P w K mg base k y st [x] [false] false FL) (hfa : mg y = some (.ref fa))
    (good : FL [.list (ns.map PyData.int)] = .ok (.bool true) outs) :
    codeAny (model P w) callerA (.call (.ref fa) ⟨[.ref a], []⟩) (fun r t' => r = .ok (.ret (.bool true)) ∧ OldK t.heap t'.heap ∧ t'.os = t.os ∧ AllBare t'.gens) t := by
  letI : TabC := tabsOf ts
  have rv := vals_ints hints
  have lv := hints.length
  have rpi : ∀ (H : Hp) (l : List Int), RpA K H (l.map V.int) (l.map PyData.int) := fun H l => by
    induction l with
    | nil => exact .nil
    | cons j l ih => exact .cons (.int j) ih
  have aT : ∀ p ∈ ts, a ≠ p.2.1 := fun p hp z => by
    have q := hT p hp
    rw [← z, at_] at q
    injection q with q
    injection q with _ _ q
    cases q
  have main : ∀ H : Hp, FzL K H a (ns.map V.int) → HOk P w H t.heap → (∀ p ∈ ts, H p.2.1 = some (.tbl #[])) → (∀ b, H b = none ∨ (b = a ∧ ∃ o ys, H b = some (.frz o (.lst ys))) ∨ ∃ p ∈ ts, b = p.2.1) → (H a ≠ none → K.lookup a = none) →
      codeAny (model P w) callerA (.call (.ref fa) ⟨[.ref a], []⟩) (fun r t' => r = .ok (.ret (.bool true)) ∧ OldK t.heap t'.heap ∧ t'.os = t.os ∧ AllBare t'.gens) t := by
    intro H hz ok hH only nk
    -- what is neither the script nor a table is not in sight
    have noD : ∀ {b : Addr} {o : Obj}, t.heap.get? b = some o → (∀ vs n, o.data ≠ .seq vs n) → o.data ≠ .fields #[] → H b = none := fun {b o} e d1 d2 => by
      rcases only b with q | ⟨rfl, _⟩ | ⟨p, hp, rfl⟩
      · exact q
      · rw [at_] at e
        cases e
        exact (d1 _ _ rfl).elim
      · rw [hT p hp] at e
        cases e
        exact (d2 rfl).elim
    have nsB : ∀ {b : Addr} {m : Str → Option Value}, t.heap.Ns b m → (hidT t.heap H).Ns b m := by
      rintro b m ⟨o, es, ep, e, d, r⟩
      exact ⟨o, es, ep, hidT_get e (noD e (fun vs n z => by rw [d] at z; cases z) (fun z => by rw [d] at z; cases z)), d, r⟩
    have kinB : K.In (hidT t.heap H) := by
      intro b o e
      refine hidT_get (kin b o e) ?_
      rcases only b with q | ⟨rfl, ob, ys, q⟩ | ⟨p, hp, rfl⟩
      · exact q
      · have z := nk (by rw [q]; exact Option.some_ne_none _)
        rw [z] at e
        cases e
      · rw [nT p hp] at e; cases e
    have TB : ∀ p ∈ ts, LamX.TabB (hidT t.heap H) mg p.1 p.2.1 := fun p hp => by
      have blank := hT p hp
      have notG : mainGlobals ≠ p.2.1 := fun z => by
        obtain ⟨g, es, ep, at1, isDict, _⟩ := gns
        rw [z, blank] at at1
        cases at1
        cases isDict
      refine ⟨?_, ?_, notG⟩
      · obtain ⟨ob, us, w1, w2, w3, w4, w5, w6, w7, at1, cls, isF, eleven, others⟩ := hC p hp
        refine ⟨ob, us, w1, w2, w3, w4, w5, w6, w7, hidT_get at1 (noD at1 (fun _ _ z => by rw [isF] at z; cases z) fun z => ?_), cls, isF, eleven, others⟩
        rw [isF] at z
        obtain rfl : us = #[] := by injection z
        cases eleven
      · obtain ⟨mo, ob, m1, m2, m3, m4, m5, m6⟩ := hbm
        have offG : mo ≠ mainGlobals := fun z => by
          obtain ⟨g, es, ep, at1, isDict, _⟩ := gns
          rw [z, at1] at m3
          cases m3
          rw [m6] at isDict
          cases isDict
        have offP : mo ≠ p.2.1 := fun z => by
          rw [z, blank] at m3
          cases m3
          cases m6
        exact ⟨mo, ob, m1, m2, offG, offP, hidT_get m3 (noD m3 (fun _ _ z => by rw [m6] at z; cases z) fun z => by rw [m6] at z; cases z), m4, m5, m6⟩
    obtain ⟨mc, l1, l2⟩ := lim
    have env : Env0 P w K mg (hidT t.heap H) callerA [] t H :=
      ⟨rfl, ⟨kinB, nsB gns, ⟨mb, nsB bns, boot⟩, ⟨mc, nsB l1, l2⟩⟩, fun b o e => of_hidT e, Nat.le_of_eq (hidT_size _ _), trivial, fun b hb => (List.not_mem_nil (show b ∈ ([] : List Addr) from hb)).elim, ok, .of_eq gen⟩
    have keepsp : spF K [false] false FL [.ref a] H (fun v _ => v = .bl true) (fun _ _ _ => False) := by
      refine ⟨fun p hp => ?_, [.list (ns.map PyData.int)], ⟨.lst hz (rpi H ns), trivial⟩, List.nodup_nil, ?_⟩
      · obtain ⟨q, hq, rfl⟩ := List.mem_map.mp hp
        exact LamX.TabS.nil (hH q hq)
      · rw [good]
        intro v H' _ _ _ r
        exact rp_bl r
    obtain ⟨f', fd, G, hm, _, bd, _⟩ := (F _ kinB (nsB gns) TB).ex
    rw [hfa] at hm
    cases hm
    refine codeAny_mono (G.rn callerA [] t H ⟨[.ref a], []⟩ [.ref a] [.ref a] _ _ room rfl env (bd t [.ref a] kin rfl) (.cons rfl .nil) keepsp) fun r t' h => ?_
    cases r with
    | error e => exact (show False from h).elim
    | ok fl =>
      cases fl with
      | ret u =>
        obtain ⟨v, H', os, bare, un, ok', rel, q⟩ := h
        have e1 : v = .bl true := q
        subst e1
        have e2 : u = Value.bool true := rel
        subst e2
        have key : ∀ b o, (∀ p ∈ ts, b ≠ p.2.1) → t.heap.get? b = some o → t'.heap.get? b = some o := fun b o nb e => by
          rcases only b with q | ⟨rfl, ob, ys, q⟩ | ⟨p, hp, z⟩
          · exact un.keep b o e q (by intro z; exact absurd (show b ∈ ([] : List Addr) from z) List.not_mem_nil) (by simp)
          · obtain ⟨g1, _⟩ := ok b _ q
            obtain ⟨g2, _⟩ := ok' b _ (un.frzs b ob _ q)
            rw [e] at g1
            injection g1 with g1
            rw [g1]; exact g2
          · exact absurd z (nb p hp)
        have grown : ∀ p ∈ ts, ∃ more : Array Value, t'.heap.get? p.2.1 = some { cls := .none, data := .fields more } := fun p hp => by
          obtain ⟨more, z⟩ := un.tbls p.2.1 #[] (hH p hp)
          exact ⟨_, ok' p.2.1 _ z⟩
        refine ⟨rfl, ⟨fun b o e => ?_, fun b o e => ?_⟩, os, bare⟩
        · by_cases hb : ∃ p ∈ ts, b = p.2.1
          · obtain ⟨p, hp, rfl⟩ := hb
            obtain ⟨tail, atT⟩ := grown p hp
            rw [hT p hp] at e
            cases e
            exact .inr (.inl ⟨((hC p hp).tab (hT p hp)).isCodeTable, rfl, #[], tail, rfl, by rw [Array.empty_append]; exact atT⟩)
          · exact .inl (key b o (fun p hp z => hb ⟨p, hp, z⟩) e)
        · by_cases hb : ∃ p ∈ ts, b = p.2.1
          · obtain ⟨p, hp, rfl⟩ := hb
            obtain ⟨tail, atT⟩ := grown p hp
            exact ⟨_, atT⟩
          · exact ⟨o, key b o (fun p hp z => hb ⟨p, hp, z⟩) e⟩
      | next => exact False.elim h
      | brk => exact False.elim h
      | cont => exact False.elim h
  by_cases hk : K.lookup a = none
  · refine main (fun b => if b = a then some (.frz { cls := .type "list", data := .seq vs.toArray } (.lst (ns.map V.int))) else if b ∈ ts.map (·.2.1) then some (.tbl #[]) else none) (.inl ⟨_, if_pos rfl⟩) (fun b u z => ?_) (fun p hp => ?_) (fun b => ?_) fun _ => hk
    · by_cases e : b = a
      · subst e
        have z1 := (if_pos rfl).symm.trans z
        cases z1
        exact ⟨at_, by rw [List.length_map]; exact few, vs, _, rv, at_⟩
      · have z1 := (if_neg e).symm.trans z
        by_cases e2 : b ∈ ts.map (·.2.1)
        · have z2 := (if_pos e2).symm.trans z1
          cases z2
          obtain ⟨p, hp, rfl⟩ := List.mem_map.mp e2
          exact hT p hp
        · have z2 := (if_neg e2).symm.trans z1
          cases z2
    · exact (if_neg fun z => aT p hp z.symm).trans (if_pos (List.mem_map.mpr ⟨p, hp, rfl⟩))
    · by_cases e : b = a
      · exact .inr (.inl ⟨e, _, _, if_pos e⟩)
      · by_cases e2 : b ∈ ts.map (·.2.1)
        · obtain ⟨p, hp, z⟩ := List.mem_map.mp e2
          exact .inr (.inr ⟨p, hp, z.symm⟩)
        · exact .inl ((if_neg e).trans (if_neg e2))
  · obtain ⟨o, ho⟩ := Option.ne_none_iff_exists'.mp hk
    have e := kin a o ho
    rw [at_] at e
    injection e with e
    subst e
    refine main (fun b => if b ∈ ts.map (·.2.1) then some (.tbl #[]) else none) (.inr ⟨vs.toArray, _, ho, by rw [List.size_toArray, lv]; exact few, by simpa using rv⟩) (fun b u z => ?_) (fun p hp => if_pos (List.mem_map.mpr ⟨p, hp, rfl⟩)) (fun b => ?_) fun z => absurd (if_neg fun q => ?_) z
    · by_cases e2 : b ∈ ts.map (·.2.1)
      · have z2 := (if_pos e2).symm.trans z
        cases z2
        obtain ⟨p, hp, rfl⟩ := List.mem_map.mp e2
        exact hT p hp
      · have z2 := (if_neg e2).symm.trans z
        cases z2
    · by_cases e2 : b ∈ ts.map (·.2.1)
      · obtain ⟨p, hp, z⟩ := List.mem_map.mp e2
        exact .inr (.inr ⟨p, hp, z.symm⟩)
      · exact .inl (if_neg e2)
    · obtain ⟨p, hp, z⟩ := List.mem_map.mp q
      exact aT p hp z.symm
/-- what the def's name tells of its table -/
def TabOf (q : Program) (K : PySem.W.Frag) (t : Tab3) : Prop := ∃ (x : Str) (d : DefRec), (recsOf q).find? (fun e => e.name == x) = some d ∧ PySem.W.tabIn K x = some (t.1, t.2.1) ∧ K.lookup t.2.1 = none
theorem walkT {l : PySem.W.OpenLaw} {n k : Nat} {q : Program} {loose : List Str} {XP : (Str → Option Value) → Heap → Prop} {YP : World → Heap → Prop} {d : DefRec} {K : Params → PySem.W.Frag} {x : Str} {st : Stmt} {FL : List D → FO}
    (hn : l.most = some n) (hn2 : n ≤ sizeLine) (hdf : d.params.defaults = []) (hr : Room k callerA) (hY : ∀ (w : World) (h : Heap), YP w h → (K w.params).In h)
    (F : ∀ (w : World) (mg : Str → Option Value) (fa : Addr) (h : Heap), YP w h → (K w.params).In h → h.Ns mainGlobals mg → mg d.name = some (.ref fa) →
      ∃ ts : List Tab3, (∀ t ∈ ts, TabOf q (K w.params) t) ∧ ∀ base : Heap, (K w.params).In base → base.Ns mainGlobals mg → (∀ p ∈ ts, LamX.TabB base mg p.1 p.2.1) → @CalF (tabsOf ts) l.prog w (K w.params) mg base k d.name st [x] [false] false FL)
    (good : ∀ ns : List Int, ns.length ≤ n → (∀ z ∈ ns, Builtin.Int.intBits z ≤ 1048576) → ∃ outs, FL [.list (ns.map PyData.int)] = .ok (.bool true) outs) :
    PySem.W.WalkO q loose XP YP l.row.toRowW d [] (fun f vs => PySem.call f vs) := by
  refine Att.attach_callB hn hdf fun w s₀ s1 mg mb fa o pm cd doc a vs ns G Y _ _ _ hmg hobj hints hlen hbits hg => ?_
  obtain ⟨outs, ho⟩ := good ns hlen hbits
  obtain ⟨ts, hts, hF⟩ := F w mg fa _ Y (hY w _ Y) G.T.g hmg
  have tb : ∀ t ∈ ts, PySem.W.CodeHd s1.heap t.1 t.2.1 ∧ s1.heap.get? t.2.1 = some (PySem.W.tabObj #[]) := fun t ht => by
    obtain ⟨x, d', h1, h2, _⟩ := hts t ht
    exact PySem.W.tab_of G.T (hY w _ Y) h1 h2
  exact lawT (hY w _ Y) G.T.g G.T.b G.T.builtins G.T.nolimit hg (fun p hp => (tb p hp).2) (fun p hp => by obtain ⟨_, _, _, _, h⟩ := hts p hp; exact h) (fun p hp => (tb p hp).1) G.T.bmain hobj hints (Nat.le_trans hlen hn2) hr hF hmg ho
end ZZ

namespace ZZ
open PySem PySem.Spec PyProof.Rows L2
variable [TabC]
/-! ### dicts that are filled, sorted, listed, made of pairs -/
/-- x[k] = v, x an open dict -/
def sSetK (i : Nat) (mk mv : M D) : M Fl := bnd mv fun v => bnd (chkO i) fun _ => bnd mk fun k e => match keyD k with
  | some _ => (match e[i]? with
    | some (.op (.dict ks)) => if ks.length < sizeLine then .ok .nx (e.set i (.op (.dict (putD ks k v)))) else .no
    | _ => .no)
  | none => .no
theorem RpK.len {K : PySem.W.Frag} {H : Hp} : ∀ {kvs : List (Key × V)} {ds : List (D × D)}, RpK K H kvs ds → kvs.length = ds.length
  | _, _, .nil => rfl
  | _, _, .cons _ t => by rw [List.length_cons, List.length_cons, RpK.len t]
section
variable {X : Cx} {Z : ZC} {pos : Pos}
theorem s_setK {i : Nat} {o k e : Expr} {mk mv : M D} {p2 : Pos} (hu : X.A.units + 66 < cLine) (ho : PE X o (tVar i)) (hk : PE X k (tM X.K Z mk)) (hv : PE X e (tM X.K Z mv)) (hs : swapsWithSole [.Subscript o k p2] e pos.line X.env = pure false := by rfl) (hw : swappedStores [.Subscript o k p2] e X.env = pure none := by rfl)
    (h1 : (assignEach [.Subscript o k p2] X.env).map (·.2) = [assign (.Subscript o k p2) X.env] := by rfl)
    (ha : ∀ v, assign (.Subscript o k p2) X.env v = (do
      let ov ← holding [v] (eval o X.env)
      let iv ← holding [v, ov] (eval k X.env)
      standAt p2
      holding [v, ov, iv] (setItem ov iv v)
      release [v, ov, iv] []) := by intro _; rfl) : PS X (.Assign [.Subscript o k p2] e pos) (tS X.K Z (sSetK i mk mv)) :=
  PS_weak (ps_asg hv (pg_sub ho hk (set_dict (by omega)) ha) hs hw h1) fun D σ H ⟨en, R, p⟩ => ⟨en, R, pstS_bnd p fun v H1 d e1 _ m1 R1 r1 p1 => by
    obtain ⟨a, d0, hd0, ha, p2⟩ := chkO_ok R1 p1
    refine ⟨.ref a, ha, e1, R1, pstS_bnd p2 fun w H2 kd e2 _ m2 R2 r2 p3 => ?_⟩
    cases hkk : keyD kd with
    | none =>
      have p3 : pstS X.K Z D σ H2 (match keyD kd with
        | some _ => (match e2[i]? with
          | some (.op (.dict ks)) => if ks.length < sizeLine then .ok .nx (e2.set i (.op (.dict (putD ks kd d)))) else .no
          | _ => .no)
        | none => .no) := p3
      rw [hkk] at p3
      exact p3.elim
    | some kk =>
      have p3 : pstS X.K Z D σ H2 (match keyD kd with
        | some _ => (match e2[i]? with
          | some (.op (.dict ks)) => if ks.length < sizeLine then .ok .nx (e2.set i (.op (.dict (putD ks kd d)))) else .no
          | _ => .no)
        | none => .no) := p3
      rw [hkk] at p3
      have ek := keyD_eq hkk
      subst ek
      have ew := rp_key r2
      subst ew
      dsimp only at p3
      split at p3
      · rename_i ks h2
        split at p3
        · rename_i hl
          obtain ⟨b, hb, ⟨kvs, hkv, rk⟩, _⟩ := R2.op i (.dict ks) h2
          rw [ha] at hb; cases hb
          refine ⟨a, upd H2 a (.dK (putK kvs kk v)), rfl, DPut.k hkv (by rw [rk.len]; exact hl), ?_⟩
          have mo : Mono H2 (upd H2 a (.dK (putK kvs kk v))) := mono_upd hkv trivial
          exact p3 σ _ mo (R2.mut h2 ha hkv trivial ⟨_, upd_same, RpK.mono mo (rk.put (Rp.mono m2 r1))⟩)
        · exact p3.elim
      · exact p3.elim⟩
end
def strsK : List (D × D) → Option (List Str)
  | [] => some []
  | (.str x, _) :: r => (strsK r).map (x :: ·)
  | _ :: _ => none
theorem strsK_ok {K : PySem.W.Frag} {H : Hp} : ∀ {kvs : List (Key × V)} {ds : List (D × D)} {ks : List Str}, RpK K H kvs ds → strsK ds = some ks → kvs.map (·.1) = ks.map Sum.inr
  | _, _, _, .nil, h => by cases h; rfl
  | _, _, _, .cons (k := k) r t, h => by
    cases k with
    | inl i => simp only [kD, strsK] at h; cases h
    | inr x =>
      simp only [kD, strsK] at h
      obtain ⟨ks', h1, rfl⟩ := Option.map_eq_some_iff.mp h
      rw [List.map_cons, List.map_cons, strsK_ok t h1]
/-- the keys in their one sequence -/
def OneSeq (ks ys : List Str) : Prop := ys.Perm ks ∧ sortedS ys = true ∧ ∀ zs : List Str, zs.Perm ks → sortedS zs = true → zs = ys
open Classical in
noncomputable def sortKD : D → Option D
  | .dict ds => match strsK ds with
    | some ks => if h : ks.length < 64 ∧ ∃ ys, OneSeq ks ys then some (.list ((Classical.choose h.2).map PyData.str)) else none
    | none => none
  | _ => none
theorem sortKD_is {ds : List (D × D)} {ks ys : List Str} (h1 : strsK ds = some ks) (h2 : ks.length < 64) (h3 : OneSeq ks ys) : sortKD (.dict ds) = some (.list (ys.map PyData.str)) := by
  unfold sortKD
  simp only [h1]
  have h : ks.length < 64 ∧ ∃ ys, OneSeq ks ys := ⟨h2, ys, h3⟩
  rw [dif_pos h]
  have hc := Classical.choose_spec h.2
  rw [h3.2.2 _ hc.1 hc.2.1]
def listKD : D → Option D
  | .dict ds => some (.list (ds.map (·.1)))
  | _ => none
def pairsK : List D → Option (List (D × D))
  | [] => some []
  | .tuple [k, v] :: r => (keyD k).bind fun _ => (pairsK r).map ((k, v) :: ·)
  | _ :: _ => none
def dictPD : D → Option D
  | .list ds => (pairsK ds).map fun ps => .dict (ps.foldl (fun acc p => putD acc p.1 p.2) [])
  | _ => none
theorem rpa_strs {K : PySem.W.Frag} {H : Hp} : ∀ ys : List Str, RpA K H (ys.map V.str) (ys.map PyData.str)
  | [] => .nil
  | y :: ys => .cons (.str y) (rpa_strs ys)
theorem rpa_keys {K : PySem.W.Frag} {H : Hp} : ∀ {kvs : List (Key × V)} {ds : List (D × D)}, RpK K H kvs ds → RpA K H (kvs.map fun kv => kV kv.1) (ds.map (·.1))
  | _, _, .nil => .nil
  | _, _, .cons (k := k) r t => by
    refine .cons ?_ (rpa_keys t)
    cases k with
    | inl i => exact .int i
    | inr x => exact .str x
theorem pairsK_ok {K : PySem.W.Frag} {H : Hp} : ∀ {xs : List V} {ds : List D} {ps : List (D × D)}, RpA K H xs ds → pairsK ds = some ps → ∃ (as : List Addr) (kvs : List (Key × V)), xs = as.map V.ref ∧ Paired (fun p kv => SqT K H p [kV kv.1, kv.2]) as kvs ∧
    ∀ (a : List (Key × V)) (b : List (D × D)), RpK K H a b → RpK K H (mergeK a kvs) (ps.foldl (fun acc p => putD acc p.1 p.2) b)
  | _, _, _, .nil, h => by cases h; exact ⟨[], [], rfl, .nil, fun a b r => r⟩
  | _, _, _, .cons (d := d) (ds := ds) r t, h => by
    unfold pairsK at h
    split at h
    · rename_i e; cases e
    · rename_i d0 k v rest e
      injection e with e1 e2
      subst e1 e2
      obtain ⟨kk, h1, h2⟩ := Option.bind_eq_some_iff.mp h
      obtain ⟨ps', h3, rfl⟩ := Option.map_eq_some_iff.mp h2
      obtain ⟨as, kvs, e1, e2, e3⟩ := pairsK_ok t h3
      have ek := keyD_eq h1
      subst ek
      cases r with
      | tup hs ra =>
        cases ra with
        | cons r1 t1 =>
          cases t1 with
          | cons r2 t2 =>
            cases t2
            have ew := rp_key r1
            subst ew
            refine ⟨_ :: as, (kk, _) :: kvs, by rw [e1]; rfl, .cons hs e2, fun a b rr => ?_⟩
            exact e3 _ _ (rr.put r2)
    · cases h
section
variable {X : Cx} {Z : ZC} {p pos : Pos} {a : Expr} {m : M D}
theorem e_sortedK (hc : X.calm = true) (hg : Gl X "sorted") (hm : X.mg "sorted" = none) (ha : PE X a (tQ X.K Z m)) (he : starEach [a] X.env = (false, eval a X.env) :: starEach [] X.env := by rfl) : PE X (.Call (.Name "sorted" p) [a] [] pos) (tO X.K Z (una sortKD m)) := by
  refine e_f1O (call_sortedD hc) (fun v x d H Q hx h q => ?_) PyProof.Rows.boot_sorted hg hm ha (he := he)
  unfold sortKD at h
  split at h
  · rename_i ds
    split at h
    · rename_i ks hks
      split at h
      · rename_i hh
        cases h
        obtain ⟨b, kvs, rfl, hd, rk⟩ := rq_dic hx
        have hc := Classical.choose_spec hh.2
        refine ⟨b, kvs, ks, rfl, hd, strsK_ok rk hks, hh.1, fun ys l hp hs hn => ?_⟩
        rw [hc.2.2 ys hp hs]
        exact q l _ (same_upd hn) ⟨_, upd_same, rpa_strs _⟩ hn
      · cases h
    · cases h
  · cases h
theorem e_listK (hc : X.calm = true) (hg : Gl X "list") (hm : X.mg "list" = none) (ha : PE X a (tQ X.K Z m)) (he : starEach [a] X.env = (false, eval a X.env) :: starEach [] X.env := by rfl) : PE X (.Call (.Name "list" p) [a] [] pos) (tO X.K Z (una listKD m)) := by
  refine e_t1O (call_listD hc) (fun v x d H Q hx h q => ?_) boot_list hg hm ha (he := he)
  unfold listKD at h
  split at h
  · cases h
    obtain ⟨b, kvs, rfl, hd, rk⟩ := rq_dic hx
    exact ⟨b, kvs, rfl, hd, fun l hn => q l _ (same_upd hn) ⟨_, upd_same, rpa_keys (RpK.mono (.same (same_upd hn)) rk)⟩ hn⟩
  · cases h
theorem e_dictP (hc : X.calm = true) (hg : Gl X "dict") (hm : X.mg "dict" = none) (ha : PE X a (tQ X.K Z m)) (he : starEach [a] X.env = (false, eval a X.env) :: starEach [] X.env := by rfl) : PE X (.Call (.Name "dict" p) [a] [] pos) (tO X.K Z (una dictPD m)) := by
  refine e_t1O (call_dictP hc) (fun v x d H Q hx h q => ?_) boot_dict hg hm ha (he := he)
  unfold dictPD at h
  split at h
  · rename_i ds
    obtain ⟨ps, h1, rfl⟩ := Option.map_eq_some_iff.mp h
    obtain ⟨b, xs, rfl, hs, ra⟩ := rq_lst hx
    obtain ⟨as, kvs, rfl, e2, e3⟩ := pairsK_ok ra h1
    refine ⟨b, as, kvs, rfl, hs, e2, fun l hn => q l _ (same_upd hn) ⟨_, upd_same, ?_⟩ hn⟩
    exact RpK.mono (.same (same_upd hn)) (e3 [] [] .nil)
  · cases h
end
end ZZ

namespace ZZ
open PySem PySem.Spec PyProof.Rows L2
variable [TabC]
/-! ### def f(*v): its mirror takes the tuple -/
structure CalS (P : Program) (w : World) (K : PySem.W.Frag) (mg : Str → Option Value) (base : Heap) (k : Nat) (x : Str) (F : List D → FO) : Prop where
  ex : ∃ f, FnR P w K mg base CX0 k f (fun vs H Q E => vs.length ≤ sizeLine ∧ ∀ p, H p = none → spF K [false] false F [.ref p] (upd H p (.tup vs)) Q E) ∧ mg x = some (.ref f) ∧ PySem.W.keepIn K (.ref f) = true
def callS (F : List D → FO) (ms : List (M D)) : M D := bnd (seqM ms) fun ds e => if ds.length ≤ sizeLine then (match F [.tuple ds] with
  | .ok d [] => .ok d e
  | _ => .no) else .no
theorem spF_body {P : Program} {w : World} {K : PySem.W.Frag} {mg : Str → Option Value} {base : Heap} {f : Addr} {qual : Str} {st : Stmt} {N : List Str} {mask : List Bool} {n : Nat} {m : M Fl} {cdv : Value} {A : Around} {outer : List Env} {s : Shared} {H : Hp} {E : XK} {vs : List V} {Q : VK} (hN : N.length = mask.length + n)
    (body : ∀ (Z : ZC), Z.ios = posT mask 0 ∧ Z.pw = some (P, w) → PSs (cxOf CX0 P w K mg base N qual (defScope st) f cdv A outer s H E).nox (defBody st) (tS K Z m)) (h : spF K mask false (mkF mask n m) vs H Q E) :
    ∃ t, PSs (cxOf CX0 P w K mg base N qual (defScope st) f cdv A outer s H E) (defBody st) t ∧ t { nx := fun _ H' => Q .non H', rt := Q } (L2.start N vs) H := by
  obtain ⟨tb, ds, a, nd, p⟩ := h
  refine ⟨_, (body (Z0 mask vs H (fun _ _ _ _ => False) (some (P, w))) ⟨rfl, rfl⟩).nox, ?_⟩
  unfold mkF at p
  cases hi : initE mask ds n with
  | none => rw [hi] at p; exact p.elim
  | some e0 =>
    rw [hi] at p
    have R := rel_start (W := fun _ _ _ _ => False) (pw := some (P, w)) (N := N) a tb nd hi hN
    refine ⟨e0, R, ?_⟩
    dsimp only at p
    have outs : ∀ {σ' : SS} {H' : Hp} {e : En} {os : List D}, Rel K (Z0 mask vs H (fun _ _ _ _ => False) (some (P, w))) σ' H' e → getO (posT mask 0) e = some os → OutR K H' vs (posT mask 0) os ∧ Frm H H' ((posT mask 0).map (adrV vs)) := fun {σ' H' e os} R' ho => by
      refine ⟨out_of R' rfl (fun i hi => hi) ho, fun b o hb hn => R'.fr b o hb fun i hi e => hn (List.mem_map.mpr ⟨i, hi, e.symm⟩)⟩
    cases hm : m e0 with
    | no => rw [hm] at p; exact p.elim
    | exc x e =>
      rw [hm] at p
      dsimp only at p
      split at p <;> (first | exact p.elim | (rename_i h; split at h <;> cases h))
    | ok fl e =>
      rw [hm] at p
      cases fl with
      | nx =>
        dsimp only at p
        cases ho : getO (posT mask 0) e with
        | none => rw [ho] at p; exact p.elim
        | some os =>
          rw [ho] at p
          exact fun σ' H' mo R' => p .non H' mo (outs R' ho).2 (outs R' ho).1 .non
      | rt d =>
        dsimp only at p
        cases ho : getO (posT mask 0) e with
        | none => rw [ho] at p; exact p.elim
        | some os =>
          rw [ho] at p
          exact fun σ' v H' mo R' r => p v H' mo (outs R' ho).2 (outs R' ho).1 r
      | ro d => exact p.elim
      | bk => exact p.elim
      | ct => exact p.elim
theorem calS {P : Program} {w : World} {K : PySem.W.Frag} {mg : Str → Option Value} {base : Heap} {k : Nat} {x pv : Str} {st : Stmt} {N : List Str} {n : Nat} {m : M Fl} {f : Addr} {fd : FuncData} (F : Fun K x x st f fd) (hm : mg x = some (.ref f)) (S : FnScope N [pv] (defScope st)) (hN : N.length = 1 + n)
    (hb : ∀ (kV doc pm : Value) (an : Option Addr) (cdv ct : Value) (rest : List Value), bindArgs (PySem.W.fnOf x x (defArgs st) (defBody st) (defScope st) .none kV doc pm an cdv ct) ⟨rest, []⟩ = (newTuple rest >>= fun t => pure [(pv, t)]))
    (body : ∀ (cdv : Value) (A : Around) (outer : List Env) (s : Shared) (H : Hp) (E : XK) (Z : ZC), Z.ios = posT [false] 0 ∧ Z.pw = some (P, w) → Room k (A.deeper (envOfC x (defScope st) s.heap.objs.size f cdv)) →
      PSs (cxOf CX0 P w K mg base N x (defScope st) f cdv A outer s H E).nox (defBody st) (tS K Z m)) : CalS P w K mg base (k + 1) x (mkF [false] n m) := by
  obtain ⟨oc, od, kV, doc, pm, an, cdv, ct, osl, rfl, lk, hcd⟩ := F.ex
  have G := StX.fn_star (k := k) (CX := CX0) (ps := []) (pv := pv) (sp := spF K [false] false (mkF [false] n m)) (base := base) (mg := mg) (P := P) (w := w) lk hcd S StX.cxUp_none (fun us rest hl => by
    obtain rfl : us = [] := List.eq_nil_of_length_eq_zero hl
    exact hb kV doc pm an cdv ct rest) (fun A outer s H vs Q E hr hs => spF_body hN (fun Z hz => body cdv A outer s H E Z hz hr) hs)
  exact ⟨f, G.imp fun vs H Q E h => ⟨[], vs, rfl, rfl, h.1, fun p hp => h.2 p hp⟩, hm, F.kp⟩
section
variable {X : Cx} {Z : ZC} {pos p : Pos} {k j : Nat} {x : Str} {F : List D → FO} {a : Expr} {es : List Expr} {ms : List (M D)}
theorem d_callS (C : CalS X.prog X.w X.K X.mg X.base k x F) (hr : Room j X.A) (ha : PA X (a :: es) (tMs X.K Z (seqM ms))) (hj : k ≤ j := by decide) (hg : Gl X x := by rfl) (hdb : (x == ("__debug__" : Str)) = false := by decide) (he : starEach (a :: es) X.env = (false, eval a X.env) :: starEach es X.env := by rfl) (hpl : (backTo pos (starEach es X.env)).any (·.1) = false := by rfl) :
    PE X (.Call (.Name x p) (a :: es) [] pos) (tM X.K Z (callS F ms)) := by
  obtain ⟨f, G, m, kp⟩ := C.ex
  refine ⟨fun pins s σ H Q I ⟨e, R, q⟩ => ?_⟩
  refine wpAny_Call_Name_kw (ld_glob I hg m ?_ hdb)
  refine PySem.W.callWith_K (h₀ := X.base) I.ok.mod.kin kp (thn (ha.run pos pins s σ H (fun vs H1 => vs.length ≤ sizeLine ∧ ∀ t, H1 t = none → spF X.K [false] false F [.ref t] (upd H1 t (.tup vs)) Q E0) I ⟨e, R, ?_⟩) fun us s1 ⟨vs, H1, I1, r1, q1⟩ => ⟨I1.kIn, ?_⟩) he hpl
  · refine pst_bnd q fun vs H1 ds e1 m1 R1 r1 p1 => ?_
    by_cases hl : ds.length ≤ sizeLine
    · rw [if_pos hl] at p1
      refine ⟨by rw [r1.length]; exact hl, fun t ht => ?_⟩
      have sm := same_upd (o := HO.tup vs) ht
      have R2 := R1.same sm
      refine ⟨R2.tab, [.tuple ds], ⟨.tup (.inl (.inl upd_same)) (r1.mono (.same sm)), trivial⟩, List.nodup_nil, ?_⟩
      cases hF : F [.tuple ds] with
      | no => rw [hF] at p1; exact p1.elim
      | exc y outs => rw [hF] at p1; exact p1.elim
      | ok d outs =>
        rw [hF] at p1
        cases outs with
        | cons => exact p1.elim
        | nil =>
          intro v H' mo fr _ rr
          refine p1 v H' ((Mono.same sm).trans mo) ?_ rr
          exact rel_after (S := []) (A := []) R2 mo fr rfl (fun _ _ => rfl) (fun j hj => absurd hj (by simp)) fun a ha => absurd ha (by simp)
    · rw [if_neg hl] at p1
      exact p1.elim
  · refine wpAny_call (codeAny_mono (run_fnR G (hr.mono hj) pass0 I1 r1 q1) fun r s' hq => ?_)
    cases r with
    | error e => exact hq
    | ok fl => cases fl <;> first | exact hq | exact hq.elim
end
end ZZ

/-! ### list.extend with a tuple -/
namespace PySem
open PySem.Spec in
theorem ext_tupZ (l : Addr) (items : Array Value) (n : Nat) (b : Addr) (items2 : Array Value) (o : Obj) (n2 : Nat) (hc : o.cls = .type "tuple") (hd : o.data = .seq items2 n2) (hs0 : ¬(!items.isEmpty && Builtin.List.listTooLong (items.size + items2.size)) = true) (hs1 : items.size ≤ sizeLine) (hs2 : items.size + items2.size ≤ sizeLine + 1) :
    Meets (Builtin.«list.extend» ⟨[.ref l, .ref b], []⟩) (fun _ R s => s.heap.get? l = some { cls := .type "list", dict := none, data := .seq items n, slots := #[] } ∧ s.heap.get? b = some o ∧ R (.ok (.ret Value.none)) { s with heap := s.heap.update l (Obj.mapSeq fun x => x ++ items2), toks := s.toks }) :=
  .of_wp fun prog w A R s h => by
    obtain ⟨cls, dct, dat, sl⟩ := o
    dsimp only at hc hd
    subst hc hd
    obtain ⟨hp, g, d, tk, os⟩ := s; obtain ⟨hl, hb, h⟩ := h; have f1 := AutoSeq1.idx_int; have f2 := AutoSeq1.sub_tuple_tuple; have f3 := AutoSeq1.sub_list_list; have f4 := AutoSeq1.sub_tuple_list; have f5 := AutoSeq1.sub_list_tuple;
    have hz' : (items ++ items2).size ≤ sizeLine + 1 := by rw [Array.size_append]; exact hs2
    wp_walk using (wpAny_updateSeq hl rfl (hz := hs1) (_hz' := hz')), AutoSeq1.wpAny_loadPart' hl, AutoSeq1.wpAny_loadPart' hb; exact ⟨_, rfl, h⟩
end PySem
namespace ZZ
open PySem PySem.Spec PyProof.Rows L2
variable [TabC]
def rExtT (K : PySem.W.Frag) : V → List V → Hp → VK → Prop := fun x vs H Q => ∃ l b xs zs, x = .ref l ∧ vs = [.ref b] ∧ H l = some (.lst xs) ∧ SqT K H b zs ∧ xs.length + zs.length ≤ sizeLine ∧ Q .non (upd H l (.lst (xs ++ zs)))
def extT (xs : List D) (v : D) : Option (List D) := match v with
  | .tuple ys => if xs.length + ys.length ≤ sizeLine then some (xs ++ ys) else none
  | _ => none
section
variable {X : Cx} {Z : ZC} {pos : Pos}
theorem mt_extT : MtR X "list.extend" (rExtT X.K) := by
  intro pins s σ H x vs v us Q I rx rv h
  obtain ⟨l, b, xs, zs, rfl, rfl, hH, hB, hz, q⟩ := h
  cases rx
  obtain ⟨u, rfl, ru⟩ := rv.one
  cases ru
  obtain ⟨z, its, n, r, hl, e⟩ := I.lstM hH
  obtain ⟨its2, r2, ⟨o, e2, hc, n2, hd⟩, _⟩ := I.tuple hB
  have hl2 := r2.length
  have e3 : its.toArray.size + its2.toArray.size ≤ sizeLine := by rw [List.size_toArray, List.size_toArray]; omega
  have e4 : ¬ (!its.toArray.isEmpty && Builtin.List.listTooLong (its.toArray.size + its2.toArray.size)) = true := by rw [notLongL e3, Bool.and_false]; exact Bool.false_ne_true
  exact call_meets F.slot_list_extend ⟨_, e, rfl⟩ F.entry_list_extend (F.args_list_extend_2 _ _) (ext_tupZ l its.toArray n b its2.toArray o n2 hc hd e4 (by rw [List.size_toArray]; omega) (by omega))
    ⟨e, e2, ⟨.non, _, I.lset (its' := its ++ its2) hH e (by simp) (r.append r2) (by rw [List.length_append]; omega), rfl, q⟩⟩
theorem s_extT {i : Nat} {o e : Expr} {m : M D} {p1 p2 : Pos} (ho : PE X o (tVar i)) (h : PE X e (tM X.K Z m)) (hbase : attributeBase o "extend" X.env (eval o X.env) = eval o X.env := by rfl)
    (hfew : ((backTo p2 (starEach [e] X.env)).all (fun x => !x.1) && (backToKw p2 (keywordEach [] X.env)).all (fun x => x.1.isSome) && decide ([e].length + ([] : List Keyword).length + (if ([] : List Keyword).isEmpty then 0 else 1) < 30)) = true := by rfl)
    (hline : (p1.endLine == p2.line) = true := by rfl) (hse : starEach [e] X.env = (false, eval e X.env) :: starEach [] X.env := by rfl) (hpl : (backTo p2 (starEach [] X.env)).any (·.1) = false := by rfl) (hs : swapsWith (.Call (.Attribute o "extend" p1) [e] [] p2) none pos.line X.env = pure false := by rfl) :
    PS X (.Expr (.Call (.Attribute o "extend" p1) [e] [] p2) pos) (tS X.K Z (sMt i m extT)) :=
  s_mt (te := tVar i) (ps_expr (pe_bm PySem.F.plainAttrs_list PySem.F.slot_list_extend PySem.F.type_list_extend mt_extT ho (pa_cons h pa_nil hse) hbase hfew hline hse hpl) hs) fun a ws ds es v d σ e H Q hw ra rv _ _ hf q => by
    unfold extT at hf
    split at hf
    · rename_i ys
      obtain ⟨b, zs, rfl, h, r⟩ := rp_tup rv
      split at hf
      · cases hf
        have e1 := ra.length
        have e2 := r.length
        exact ⟨a, b, ws, zs, rfl, rfl, hw, h, by omega, q _ _ ⟨_, rfl, ra.append r⟩⟩
      · cases hf
    · cases hf
end
end ZZ

namespace ZZ
open PySem PySem.Spec PyProof.Rows L2
variable [TabC]
/-! ### dicts among whose keys is None -/
def keyN : D → Option (Option Key)
  | .none => some none
  | d => (keyD d).map some
theorem keyN_eq {d : D} {k : Option Key} (h : keyN d = some k) : d = kNk k := by
  cases d <;> cases h <;> rfl
theorem rp_keyN {K : PySem.W.Frag} {H : Hp} {v : V} {k : Option Key} (h : Rp K H v (kNk k)) : v = kNV k := by
  cases k with
  | none => cases h; rfl
  | some k => exact rp_key h
theorem eqv_kNk (k j : Option Key) : PyData.eqv (kNk k) (kNk j) = decide (k = j) := by
  rcases k with _ | k | k <;> rcases j with _ | j | j <;> simp [kNk, kD, PyData.eqv, Bool.beq_eq_decide_eq]
theorem any_kNk {K : PySem.W.Frag} {H : Hp} {k : Option Key} : ∀ {kvs : List (Option Key × V)} {ds : List (D × D)}, RpN K H kvs ds → (ds.any fun p => PyData.eqv p.1 (kNk k)) = kvs.any fun kv => decide (kv.1 = k)
  | _, _, .nil => rfl
  | _, _, .cons r t => by rw [List.any_cons, List.any_cons, any_kNk t, eqv_kNk]
theorem RpN.app {K : PySem.W.Frag} {H : Hp} {k : Option Key} {v : V} {d : D} (rv : Rp K H v d) : ∀ {kvs : List (Option Key × V)} {ds : List (D × D)}, RpN K H kvs ds → RpN K H (kvs ++ [(k, v)]) (ds ++ [(kNk k, d)])
  | _, _, .nil => .cons rv .nil
  | _, _, .cons r t => .cons r (RpN.app rv t)
theorem RpN.chg {K : PySem.W.Frag} {H : Hp} {k : Option Key} {v : V} {d : D} (rv : Rp K H v d) : ∀ {kvs : List (Option Key × V)} {ds : List (D × D)}, RpN K H kvs ds → RpN K H (kvs.map (fun kv => if kv.1 = k then (kv.1, v) else kv)) (ds.map (fun p => if PyData.eqv p.1 (kNk k) = true then (p.1, d) else p))
  | _, _, .nil => .nil
  | _, _, .cons (k := j) r t => by
    rw [List.map_cons, List.map_cons, eqv_kNk]
    by_cases e : j = k
    · rw [if_pos e, if_pos (decide_eq_true e)]
      exact .cons rv (RpN.chg rv t)
    · rw [if_neg e, if_neg (by rw [decide_eq_false e]; exact Bool.false_ne_true)]
      exact .cons r (RpN.chg rv t)
theorem RpN.put {K : PySem.W.Frag} {H : Hp} {k : Option Key} {v : V} {d : D} (rv : Rp K H v d) {kvs : List (Option Key × V)} {ds : List (D × D)} (r : RpN K H kvs ds) : RpN K H (putK kvs k v) (putD ds (kNk k) d) := by
  unfold putK putD
  rw [any_kNk r]
  split
  · exact r.chg rv
  · exact r.app rv
theorem RpN.len {K : PySem.W.Frag} {H : Hp} : ∀ {kvs : List (Option Key × V)} {ds : List (D × D)}, RpN K H kvs ds → kvs.length = ds.length
  | _, _, .nil => rfl
  | _, _, .cons _ t => by rw [List.length_cons, List.length_cons, RpN.len t]
theorem getN_rp {K : PySem.W.Frag} {H : Hp} {k : Option Key} {d : D} : ∀ {kvs : List (Option Key × V)} {ds : List (D × D)}, RpN K H kvs ds → getK ds (kNk k) = some d → ∃ v, valV kvs k = some v ∧ Rp K H v d
  | _, _, .nil, h => by cases h
  | _, _, .cons (k := j) (v := v) (vs := vs) (d := d') (ds := ds) r t, h => by
    have tl := getN_rp (d := d) (k := k) t
    unfold getK valV at *
    rw [List.find?_cons] at h ⊢
    rw [eqv_kNk] at h
    by_cases e : j = k
    · rw [decide_eq_true e] at h ⊢
      cases h
      exact ⟨v, rfl, r⟩
    · rw [decide_eq_false e] at h ⊢
      exact tl h
theorem nk_is {P : Program} {w : World} {k : Option Key} {u : Value} (r : RelV (kNV k) u) : (noneKind P w).is k u = true := by
  cases k with
  | none =>
    obtain rfl : u = Value.none := r
    rfl
  | some k => exact kV_is (P := P) (w := w) r
section
variable {X : Cx} {pins : List (Addr × Obj)} {σ : SS} {H : Hp} {s : Shared} {a : Addr} {kvs : List (Option Key × V)}
theorem dN_at (I : Inv X pins σ H s) (h : H a = some (DNo X.prog X.w a kvs)) : kvs.length ≤ sizeLine ∧ (a == PySem.sysModules) = false ∧ ∃ vs, KV kvs vs ∧ s.heap.DictOf (noneKind X.prog X.w) a vs :=
  (show ObjOk X.prog X.w H s.heap a (DNo X.prog X.w a kvs) from I.hok a _ h).1
theorem dN_ok {P : Program} {w : World} {h : Heap} {vs : List (Option Key × Value)} (hz : kvs.length ≤ sizeLine) (hsm : (a == PySem.sysModules) = false) (r : KV kvs vs) (d : h.DictOf (noneKind P w) a vs) : ObjOk P w H h a (DNo P w a kvs) := by
  refine ⟨⟨hz, hsm, vs, r, d⟩, ?_, fun h1 h2 q st => ?_⟩
  · obtain ⟨o, _, _, ho, _⟩ := d
    exact ⟨o, ho⟩
  · obtain ⟨z1, z2, vs', r', o, es, ep, ho, q⟩ := q
    exact ⟨z1, z2, vs', r', o, es, ep, st o ho, q⟩
def NdAt (P : Program) (w : World) (H : Hp) (a : Addr) (kvs : List (Option Key × V)) : Prop := H a = some (DNo P w a kvs) ∨ (kvs = [] ∧ H a = some (.dK []))
theorem nd_at (I : Inv X pins σ H s) (h : NdAt X.prog X.w H a kvs) : kvs.length ≤ sizeLine ∧ (a == PySem.sysModules) = false ∧ ∃ vs, KV kvs vs ∧ s.heap.DictOf (noneKind X.prog X.w) a vs := by
  rcases h with h | ⟨rfl, h⟩
  · exact dN_at I h
  · obtain ⟨z, hd, vs, rel, o, es, ep, ho, hc, hdat, hk, hp, hn⟩ := dk_of I.hok h
    cases rel
    refine ⟨by simp, hd, [], .nil, o, es, ep, ho, hc, hdat, ?_, ?_, by simp⟩
    · have e : es.toList = [] := List.eq_nil_of_length_eq_zero (by rw [hp.length]; rfl)
      intro x hx
      have := Array.mem_toList_iff.mpr hx
      rw [e] at this
      cases this
    · have e : es.toList = [] := List.eq_nil_of_length_eq_zero (by rw [hp.length]; rfl)
      rw [e]
      exact .nil
theorem NdAt.mut (P : Program) (w : World) (h : NdAt P w H a kvs) : Mut (H a) := by
  rcases h with h | ⟨_, h⟩ <;> rw [h] <;> exact True.intro
/-- o[i] = v, i None, an int or a text -/
def rSetN (P : Program) (w : World) : TSet := fun o i v H Q => ∃ a k kvs, o = .ref a ∧ i = kNV k ∧ NdAt P w H a kvs ∧ kvs.length < sizeLine ∧ Q (upd H a (DNo P w a (putK kvs k v)))
theorem set_dictN : PSet X (rSetN X.prog X.w) := by
  intro pins s σ H o i v ov iv u Q I ro ri rv h
  obtain ⟨a, k, kvs, eo, ei, g, l, q⟩ := h
  subst eo ei
  cases (show ov = Value.ref a from ro)
  obtain ⟨z, hd, vs, rel, dd⟩ := nd_at I g
  have hz : vs.length ≤ sizeLine := by rw [← rel.length]; exact z
  have hl : (putK kvs k v).length ≤ sizeLine := by have := length_putK kvs k v; omega
  refine wpAny_setItem_pairs (hsz := hz) (nk_is ri) dd fun h' dd' hs => ⟨_, ?_, q⟩
  have he : ∃ q, h'.get? a = some q := let ⟨q, _, _, hq, _⟩ := dd'; ⟨q, hq⟩
  exact d_write I (g.mut X.prog X.w) hs he (dN_ok hl hd (rel.put k rv) dd')
/-- o[i] -/
def rGetN (P : Program) (w : World) : R2 := fun x y H Q => ∃ a k kvs v, x = .ref a ∧ y = kNV k ∧ H a = some (DNo P w a kvs) ∧ valV kvs k = some v ∧ Q v H
theorem ix_dictN : IxR X (rGetN X.prog X.w) := by
  intro value slice pins s σ H x y v u Q I rx ry h hs
  obtain ⟨a, k, kvs, w, rfl, rfl, g, l, q⟩ := h
  cases rx
  obtain ⟨z, hd, vs, rel, dd⟩ := dN_at I g
  obtain ⟨w', hw, rw'⟩ := RelO.some_of (v := w) (o := valueAt vs k) (by rw [← l]; exact rel.val k)
  exact tail_any dd.typeIs PySem.F.slot_dict_getitem.lookup (wpAny_getItem_of (nk_is ry) dd.mapOf hw ⟨w, H, I.tok _, rw', q⟩) hs
end
section
variable {K : PySem.W.Frag} {Z : ZC} {σ : SS} {H : Hp} {e : En}
theorem monoN (tT : TabC.T = []) {a : Addr} {u o : HO} (hu : H a = some u) (mu : (∃ φ, u = .ext φ) ∨ MutZ (some u)) : Mono H (upd H a o) := by
  refine ⟨fun b xs h => ?_, fun b ob x h => ?_, fun p hp => ?_⟩
  · rw [upd_ne]; exact h
    rintro rfl
    rw [hu] at h; cases h
    rcases mu with ⟨φ, z⟩ | z
    · cases z
    · exact z
  · rw [upd_ne]; exact h
    rintro rfl
    rw [hu] at h; cases h
    rcases mu with ⟨φ, z⟩ | z
    · cases z
    · exact z
  · rw [tT] at hp; cases hp
theorem Rel.putN (R : Rel K Z σ H e) {i : Nat} {a : Addr} {u o : HO} {ps : List (D × D)} (tT : TabC.T = []) (hlt : i < e.length) (ha : σ[i]? = some (some (.ref a))) (hu : H a = some u) (mu : (∃ φ, u = .ext φ) ∨ MutZ (some u))
    (hop : ∀ (j : Nat) (d : D), j ≠ i → e[j]? = some (.op d) → σ[j]? ≠ some (some (.ref a))) (hnd : ∀ (j : Nat) (ps : List (D × D)), j ≠ i → e[j]? = some (.nd ps) → σ[j]? ≠ some (some (.ref a)))
    (hb : Z.Hb a = none) (ht : ∀ p ∈ Z.tmp, p.1 ≠ a) (r : NDic K Z.pw (upd H a o) a ps) : Rel K Z σ (upd H a o) (e.set i (.nd ps)) := by
  have m : Mono H (upd H a o) := monoN tT hu mu
  have ne : ∀ {j : Nat} {s : Sl}, (e.set i (.nd ps))[j]? = some s → (∀ qs, s ≠ .nd qs) → i ≠ j ∧ e[j]? = some s := fun {j s} h hn => by
    have hj : i ≠ j := by
      rintro rfl
      rw [List.getElem?_set_self hlt] at h; cases h
      exact hn ps rfl
    rw [List.getElem?_set_ne hj] at h
    exact ⟨hj, h⟩
  refine ⟨by rw [List.length_set]; exact R.len, fun j d' hj => ?_, fun j d' hj => ?_, fun j k d1 d2 b h1 h2 h3 h4 => ?_, fun b o' hb' n => ?_, fun j hj => ?_, fun p hp => m.tabs p hp (R.tab p hp), ⟨fun j qs hj => ?_, fun j k qs rs b h1 h2 h3 h4 => ?_⟩, fun p hp => ?_⟩
  · obtain ⟨_, hj⟩ := ne hj (fun _ => by simp)
    obtain ⟨v, q1, q2⟩ := R.fz j d' hj
    exact ⟨v, q1, q2.mono m⟩
  · obtain ⟨hne, hj⟩ := ne hj (fun _ => by simp)
    obtain ⟨b, q1, q2, q3⟩ := R.op j d' hj
    refine ⟨b, q1, q2.mono m (upd_ne ?_), q3⟩
    rintro rfl
    exact hop j d' (Ne.symm hne) hj q1
  · obtain ⟨_, h1⟩ := ne h1 (fun _ => by simp)
    obtain ⟨_, h2⟩ := ne h2 (fun _ => by simp)
    exact R.inj j k d1 d2 b h1 h2 h3 h4
  · rw [upd_ne]; exact R.fr b o' hb' n
    rintro rfl
    rw [hb] at hb'; cases hb'
  · obtain ⟨⟨v, hv⟩, q⟩ := R.io j hj
    by_cases e1 : Z.adr j = a
    · exact ⟨⟨o, by rw [e1, upd_same]⟩, q⟩
    · exact ⟨⟨v, by rw [upd_ne e1]; exact hv⟩, q⟩
  · by_cases e1 : i = j
    · subst e1
      rw [List.getElem?_set_self hlt] at hj; cases hj
      exact ⟨a, ha, r, hb⟩
    · rw [List.getElem?_set_ne e1] at hj
      obtain ⟨b, q1, q2, q3⟩ := R.nd.at_ j qs hj
      refine ⟨b, q1, q2.keep m fun φ hφ => ?_, q3⟩
      rw [upd_ne]; exact hφ
      rintro rfl
      exact hnd j qs (Ne.symm e1) hj q1
  · have back : ∀ {j : Nat} {qs : List (D × D)}, (e.set i (.nd ps))[j]? = some (.nd qs) → j = i ∨ (j ≠ i ∧ e[j]? = some (.nd qs)) := fun {j qs} h => by
      by_cases e1 : i = j
      · exact .inl e1.symm
      · rw [List.getElem?_set_ne e1] at h
        exact .inr ⟨Ne.symm e1, h⟩
    rcases back h1 with e1 | ⟨n1, g1⟩
    · rcases back h2 with e2 | ⟨n2, g2⟩
      · rw [e1, e2]
      · rw [e1, ha] at h3; cases h3
        exact absurd h4 (hnd k rs n2 g2)
    · rcases back h2 with e2 | ⟨n2, g2⟩
      · rw [e2, ha] at h4; cases h4
        exact absurd h3 (hnd j qs n1 g1)
      · exact R.nd.inj j k qs rs b g1 g2 h3 h4
  · obtain ⟨h1, h2, h3, h4⟩ := R.tp p hp
    refine ⟨by rw [upd_ne (ht p hp)]; exact h1, h2, h3, fun j f hj => ?_⟩
    obtain ⟨_, hj⟩ := ne hj (fun _ => by simp)
    exact h4 j f hj
end
/-- an open dict with None among its keys; an empty one may become it -/
def ndL : Option Sl → Option (List (D × D))
  | some (.nd ps) => some ps
  | some (.op (.dict [])) => some []
  | _ => none
def chkN (i : Nat) : M Unit := fun e => match ndL e[i]? with
  | some _ => .ok () e
  | none => .no
/-- x[k] = v -/
def sSetN (i : Nat) (mk mv : M D) : M Fl := bnd mv fun v => bnd (chkN i) fun _ => bnd mk fun k e => match keyN k with
  | some _ => (match ndL e[i]? with
    | some ks => if ks.length < sizeLine then .ok .nx (e.set i (.nd (putD ks k v))) else .no
    | none => .no)
  | none => .no
/-- x[k] -/
def getNM (i : Nat) (mk : M D) : M D := bnd (chkN i) fun _ => bnd mk fun k e => match keyN k with
  | some _ => (match e[i]? with
    | some (.nd ks) => (match getK ks k with | some d => .ok d e | none => .no)
    | _ => .no)
  | none => .no
section
variable {K : PySem.W.Frag} {Z : ZC} {σ : SS} {H : Hp} {e : En} {P : Program} {w : World}
theorem nd_slot (tT : TabC.T = []) (hpw : Z.pw = some (P, w)) (R : Rel K Z σ H e) {i : Nat} {ks : List (D × D)} (hio : i ∉ Z.ios) (h : ndL e[i]? = some ks) : ∃ a u kvs, σ[i]? = some (some (.ref a)) ∧ NdAt P w H a kvs ∧ RpN K H kvs ks ∧ i < e.length ∧ H a = some u ∧ ((∃ φ, u = .ext φ) ∨ MutZ (some u)) ∧
    (∀ (j : Nat) (d : D), j ≠ i → e[j]? = some (.op d) → σ[j]? ≠ some (some (.ref a))) ∧ (∀ (j : Nat) (ps : List (D × D)), j ≠ i → e[j]? = some (.nd ps) → σ[j]? ≠ some (some (.ref a))) ∧ Z.Hb a = none ∧ ∀ p ∈ Z.tmp, p.1 ≠ a := by
  unfold ndL at h
  split at h
  · rename_i ps hs
    cases h
    obtain ⟨a, h1, ⟨_, P', w', kvs, h2, h3, h4⟩, h5⟩ := R.nd.at_ i _ hs
    rw [hpw] at h2; cases h2
    refine ⟨a, _, kvs, h1, .inl h3, h4, lt_of_get hs, h3, .inl ⟨_, rfl⟩, fun j d hj hd hσ => ?_, fun j qs hj hq hσ => ?_, h5, fun p hp z => ?_⟩
    · obtain ⟨b, q1, q2, _⟩ := R.op j d hd
      rw [hσ] at q1; cases q1
      obtain ⟨u, hu, mu⟩ := q2.there
      rw [h3] at hu; cases hu; exact mu
    · exact hj (R.nd.inj j i qs ks a hq hs hσ h1)
    · obtain ⟨q1, q2, _⟩ := R.tp p hp
      rw [z, h3] at q1
      have := Option.some.inj q1
      rw [← this] at q2; exact q2
  · rename_i hs
    cases h
    obtain ⟨a, h1, ⟨kvs, h2, h3⟩, h4⟩ := R.op i _ hs
    cases h3
    refine ⟨a, _, [], h1, .inr ⟨rfl, h2⟩, .nil, lt_of_get hs, h2, .inr trivial, fun j d hj hd hσ => ?_, fun j qs hj hq hσ => ?_, ?_, fun p hp z => ?_⟩
    · exact hj (R.inj j i d _ a hd hs hσ h1)
    · obtain ⟨b, q1, ⟨_, P', w', kvs', _, q2, _⟩, _⟩ := R.nd.at_ j qs hq
      rw [hσ] at q1; cases q1
      rw [h2] at q2; cases q2
    · rcases h4 with h4 | ⟨h4, _⟩
      · exact h4
      · exact absurd h4 hio
    · obtain ⟨_, _, _, q4⟩ := R.tp p hp
      exact q4 i _ hs (by rw [z]; exact h1)
  · cases h
end
section
variable {X : Cx} {Z : ZC} {pos : Pos}
theorem s_setN {i : Nat} {o k e : Expr} {mk mv : M D} {p2 : Pos} (tT : TabC.T = []) (hpw : Z.pw = some (X.prog, X.w)) (hio : i ∉ Z.ios) (ho : PE X o (tVar i)) (hk : PE X k (tM X.K Z mk)) (hv : PE X e (tM X.K Z mv)) (hs : swapsWithSole [.Subscript o k p2] e pos.line X.env = pure false := by rfl) (hw : swappedStores [.Subscript o k p2] e X.env = pure none := by rfl)
    (h1 : (assignEach [.Subscript o k p2] X.env).map (·.2) = [assign (.Subscript o k p2) X.env] := by rfl)
    (ha : ∀ v, assign (.Subscript o k p2) X.env v = (do
      let ov ← holding [v] (eval o X.env)
      let iv ← holding [v, ov] (eval k X.env)
      standAt p2
      holding [v, ov, iv] (setItem ov iv v)
      release [v, ov, iv] []) := by intro _; rfl) : PS X (.Assign [.Subscript o k p2] e pos) (tS X.K Z (sSetN i mk mv)) :=
  PS_weak (ps_asg hv (pg_sub ho hk set_dictN ha) hs hw h1) fun D σ H ⟨en, R, p⟩ => ⟨en, R, pstS_bnd p fun v H1 d e1 _ m1 R1 r1 p1 => by
    unfold chkN bnd at p1
    cases hn : ndL e1[i]? with
    | none => simp only [hn] at p1; exact p1.elim
    | some ks0 =>
      simp only [hn] at p1
      obtain ⟨a, u, kvs, hσ, _⟩ := nd_slot tT hpw R1 hio hn
      refine ⟨.ref a, hσ, e1, R1, pstS_bnd (m := mk) p1 fun w H2 kd e2 _ m2 R2 r2 p3 => ?_⟩
      cases hkk : keyN kd with
      | none => simp only [hkk] at p3; exact p3.elim
      | some kk =>
        simp only [hkk] at p3
        cases hn2 : ndL e2[i]? with
        | none => simp only [hn2] at p3; exact p3.elim
        | some ks =>
          simp only [hn2] at p3
          have ek := keyN_eq hkk
          subst ek
          have ew := rp_keyN r2
          subst ew
          split at p3
          · rename_i hl
            obtain ⟨b, u, kvs, hσ2, at2, rk, hlt, hu, mu, hop, hnd, hb, ht⟩ := nd_slot tT hpw R2 hio hn2
            rw [hσ] at hσ2; cases hσ2
            refine ⟨a, kk, kvs, rfl, rfl, at2, by rw [rk.len]; exact hl, ?_⟩
            have mo : Mono H2 (upd H2 a (DNo X.prog X.w a (putK kvs kk v))) := monoN tT hu mu
            exact p3 σ _ mo (R2.putN tT hlt hσ hu mu hop hnd hb ht ⟨tT, _, _, _, hpw, upd_same, RpN.mono mo (rk.put (Rp.mono m2 r1))⟩)
          · exact p3.elim⟩
theorem e_getN {i : Nat} {a b : Expr} {mk : M D} (tT : TabC.T = []) (hpw : Z.pw = some (X.prog, X.w)) (hio : i ∉ Z.ios) (ha : PE X a (tVar i)) (hb : PE X b (tM X.K Z mk)) (hs : PlainIx b := by exact fun _ _ => rfl) : PE X (.Subscript a b pos) (tM X.K Z (getNM i mk)) :=
  PE_weak (pe_ix ix_dictN ha hb hs) fun σ H Q ⟨e, R, p⟩ => by
    unfold getNM chkN at p
    unfold bnd at p
    cases hn : ndL e[i]? with
    | none => simp only [hn] at p; exact p.elim
    | some ks0 =>
      simp only [hn] at p
      obtain ⟨a, u, kvs, hσ, _⟩ := nd_slot tT hpw R hio hn
      refine ⟨.ref a, hσ, e, R, pst_bnd (m := mk) p fun w H1 y e1 m1 R1 r1 p1 => ?_⟩
      cases hkk : keyN y with
      | none => simp only [hkk] at p1; exact p1.elim
      | some kk =>
        simp only [hkk] at p1
        split at p1
        · rename_i ks hks
          split at p1
          · rename_i d hd
            have ek := keyN_eq hkk
            subst ek
            have ew := rp_keyN r1
            subst ew
            obtain ⟨b, q1, ⟨_, P', w', kvs, q2, q3, q4⟩, q5⟩ := R1.nd.at_ i _ hks
            rw [hpw] at q2; cases q2
            rw [hσ] at q1; cases q1
            obtain ⟨v, v1, v2⟩ := getN_rp q4 hd
            exact ⟨a, kk, kvs, v, rfl, rfl, q3, v1, p1 v H1 .refl R1 v2⟩
          · exact p1.elim
        · exact p1.elim
end
end ZZ

namespace ZZ
open PySem PySem.Spec PyProof.Rows L2
variable [TabC]
/-! ### {k: v for target in ..}, walks over a dict's keys -/
def cmpK (tg : D → En → Option En) (mk mv : M D) (vs : List Nat) : List D → List (D × D) → M (List (D × D))
  | [], acc => ret acc
  | d :: ds, acc => fun e => match tg d e with
    | none => .no
    | some e1 => match mk e1 with
      | .ok k e2 => (match mv e2 with
        | .ok v e3 => (match keyD k with
          | some _ => if acc.length < sizeLine then cmpK tg mk mv vs ds (putD acc k v) (wipeE e3 vs) else .no
          | none => .no)
        | _ => .no)
      | _ => .no
def dcM (vs : List Nat) (mi : M (List D)) (tg : D → En → Option En) (mk mv : M D) : M D := bnd mi fun ds e => match cmpK tg mk mv vs ds [] (wipeE e vs) with
  | .ok ps e1 => .ok (.dict ps) (restE e e1 vs)
  | _ => .no
/-- the context of a block's turn: the new dict beside -/
abbrev ZE (Z : ZC) (D : Addr) (kvs : List (Key × V)) : ZC := ⟨Z.Hb, Z.ios, Z.adr, (D, .dK kvs) :: Z.tmp, fun _ _ _ _ => False, Z.pw⟩
theorem rel_inE {K : PySem.W.Frag} {Z : ZC} {σ : SS} {H : Hp} {e : En} {D : Addr} {kvs : List (Key × V)} (R : Rel K Z σ H e) (h : H D = some (.dK kvs)) (hb : Z.Hb D = none) (hs : ∀ (i : Nat) (d : ZZ.D), e[i]? = some (.op d) → σ[i]? ≠ some (some (.ref D))) : Rel K (ZE Z D kvs) σ H e :=
  ⟨R.len, R.fz, R.op, R.inj, R.fr, R.io, R.tab, ⟨R.nd.at_, R.nd.inj⟩, fun p hp => by
    rcases List.mem_cons.mp hp with rfl | hp
    · exact ⟨h, trivial, hb, hs⟩
    · exact R.tp p hp⟩
theorem rel_outE {K : PySem.W.Frag} {Z : ZC} {σ : SS} {H : Hp} {e : En} {D : Addr} {kvs : List (Key × V)} (R : Rel K (ZE Z D kvs) σ H e) : Rel K Z σ H e ∧ H D = some (.dK kvs) ∧ Z.Hb D = none ∧ ∀ (i : Nat) (d : ZZ.D), e[i]? = some (.op d) → σ[i]? ≠ some (some (.ref D)) := by
  obtain ⟨h1, _, h3, h4⟩ := R.tp (D, .dK kvs) List.mem_cons_self
  exact ⟨⟨R.len, R.fz, R.op, R.inj, R.fr, R.io, R.tab, ⟨R.nd.at_, R.nd.inj⟩, fun p hp => R.tp p (List.mem_cons_of_mem _ hp)⟩, h1, h3, h4⟩
def tZE {β α : Type} (K : PySem.W.Frag) (Z : ZC) (r : ZC → RR β α) (m : M α) : SS → Hp → (β → Hp → Prop) → Prop := fun σ H Q => ∃ D kvs, tG K (ZE Z D kvs) (r (ZE Z D kvs)) m σ H Q
theorem tmp_chgE {K : PySem.W.Frag} {Z : ZC} {σ : SS} {H : Hp} {e : En} {D : Addr} {acc acc' : List (Key × V)} (R : Rel K (ZE Z D acc) σ H e) (hn : ∀ p ∈ Z.tmp, p.1 ≠ D) : Rel K (ZE Z D acc') σ (upd H D (.dK acc')) e := by
  obtain ⟨R1, h1, h3, h4⟩ := rel_outE R
  exact rel_inE (R1.other h1 trivial h3 h4 hn) upd_same h3 h4
theorem t_dc {K : PySem.W.Frag} {Z : ZC} {g : TG} {f : D → En → Option En} {is vs : List Nat} {mi : M (List D)} {mk mv : M D} (hg : ∀ D kvs, TgW K (ZE Z D kvs) is g f) (hi : ∀ i ∈ is, i ∈ vs) (hv : ∀ i ∈ Z.ios, i ∉ vs) (σ : SS) (H : Hp) (Q : VK) (p : tO K Z (dcM vs mi f mk mv) σ H Q) :
    tDc (tI K Z mi) g tYes (tZE K Z (fun _ => rV K) mk) (tZE K Z (fun _ => rV K) mv) vs σ H Q := by
  obtain ⟨e, R, p⟩ := p
  refine ⟨e, R, ?_⟩
  unfold dcM bnd at p
  cases q : mi e with
  | exc x e1 => rw [q] at p; exact fun H' m R' => p H' m R'
  | no => rw [q] at p; exact p
  | ok ds e1 =>
    rw [q] at p
    intro J H1 m1 R1 it D hD
    have p : pst K Z (rO K Z) σ H Q (match cmpK f mk mv vs ds [] (wipeE e1 vs) with
      | .ok ps e2 => .ok (.dict ps) (restE e1 e2 vs)
      | _ => .no) := p
    cases qc : cmpK f mk mv vs ds [] (wipeE e1 vs) with
    | exc x e2 => rw [qc] at p; exact p.elim
    | no => rw [qc] at p; exact p.elim
    | ok tot ef =>
      rw [qc] at p
      obtain ⟨b1, b2, b3⟩ := R1.fresh hD
      have RW := rel_wipe R1 hv
      obtain ⟨_, w2, _⟩ := RW.fresh hD
      have s0 : Same H1 (upd H1 D (.dK [])) := same_upd hD
      refine ⟨fun i n H' => ∃ kvs done e', n = ds.length - i ∧ i ≤ ds.length ∧ Mono H1 H' ∧ Rel K (ZE Z D kvs) (wipe σ vs) H' e' ∧ RpK K H' kvs done ∧ cmpK f mk mv vs (ds.drop i) done e' = .ok tot ef,
        ⟨_, [], [], _, rfl, Nat.zero_le _, .same s0, rel_inE (RW.same s0) upd_same b1 w2, .nil, qc⟩, ?_⟩
      rintro i n H' ⟨kvs, done, e', rfl, hil, mo, R', ra, hc⟩
      by_cases hlt : i < ds.length
      · refine .inr ⟨it.go H' mo i hlt, fun H'' => ∃ kvs done e', i + 1 ≤ ds.length ∧ Mono H1 H'' ∧ Rel K (ZE Z D kvs) (wipe σ vs) H'' e' ∧ RpK K H'' kvs done ∧ cmpK f mk mv vs (ds.drop (i + 1)) done e' = .ok tot ef, fun H'' ⟨kvs, done, e', h⟩ => ⟨ds.length - (i + 1), by omega, kvs, done, e', rfl, h⟩, fun x H2 y => ?_⟩
        obtain ⟨s, rx⟩ := it.yld H' mo i ds[i] x H2 (by simp [hlt]) y
        rw [drop_get hlt] at hc
        unfold cmpK at hc
        cases hf : f ds[i] e' with
        | none => rw [hf] at hc; cases hc
        | some e2 =>
          rw [hf] at hc
          refine hg D kvs (wipe σ vs) H2 e' e2 x ds[i] _ (R'.same s) rx hf fun σ2 R2 hw => ?_
          have w2 : wipe σ2 vs = wipe σ vs := (hw vs hi).trans (wipe_wipe σ vs)
          refine ⟨w2, ?_⟩
          have m2 : Mono H1 H2 := mo.trans (.same s)
          have out : ∀ {σ2 : SS} {H4 : Hp} {e4 : En}, wipe σ2 vs = wipe σ vs → Rel K (ZE Z D kvs) σ2 H4 e4 → Rel K (ZE Z D kvs) (wipe σ vs) H4 (wipeE e4 vs) := fun {σ2 H4 e4} w R4 => by
            rw [← w]
            exact rel_wipe R4 hv
          unfold tYes
          dsimp only
          rw [if_pos rfl]
          have hc : (match mk e2 with
            | .ok k e2 => (match mv e2 with
              | .ok v e3 => (match keyD k with
                | some _ => if done.length < sizeLine then cmpK f mk mv vs (ds.drop (i + 1)) (putD done k v) (wipeE e3 vs) else .no
                | none => .no)
              | _ => .no)
            | _ => .no : Out (List (ZZ.D × ZZ.D))) = .ok tot ef := hc
          refine ⟨D, kvs, e2, R2, ?_⟩
          cases hk : mk e2 with
          | no => rw [hk] at hc; cases hc
          | exc x e3 => rw [hk] at hc; cases hc
          | ok k e3 =>
            rw [hk] at hc
            have hc : (match mv e3 with
              | .ok v e3 => (match keyD k with
                | some _ => if done.length < sizeLine then cmpK f mk mv vs (ds.drop (i + 1)) (putD done k v) (wipeE e3 vs) else .no
                | none => .no)
              | _ => .no : Out (List (ZZ.D × ZZ.D))) = .ok tot ef := hc
            intro yk H3 m3 R3 r3
            refine ⟨D, kvs, e3, R3, ?_⟩
            cases hvv : mv e3 with
            | no => rw [hvv] at hc; cases hc
            | exc x e4 => rw [hvv] at hc; cases hc
            | ok v e4 =>
              rw [hvv] at hc
              intro yv H4 m4 R4 r4
              cases hkk : keyD k with
              | none => simp only [hkk] at hc; cases hc
              | some kk =>
                simp only [hkk] at hc
                have ek := keyD_eq hkk
                subst ek
                have ew := rp_key r3
                subst ew
                split at hc
                · rename_i hl
                  obtain ⟨Ro, hDk, _, _⟩ := rel_outE R4
                  have mo4 : Mono H4 (upd H4 D (.dK (putK kvs kk yv))) := mono_upd hDk trivial
                  have ms : Mono H' H4 := (Mono.same s).trans (m3.trans m4)
                  exact ⟨kvs, kk, rfl, hDk, by rw [ra.len]; exact hl, putK kvs kk yv, putD done (kD kk) v, wipeE e4 vs, hlt, (m2.trans m3).trans (m4.trans mo4), tmp_chgE (out w2 R4) b3, RpK.mono mo4 ((RpK.mono ms ra).put r4), hc⟩
                · cases hc
      · have ei : i = ds.length := by omega
        subst ei
        rw [List.drop_length] at hc
        cases hc
        obtain ⟨Ro, hDk, hb, hs⟩ := rel_outE R'
        refine .inl ⟨it.stop H' mo, p (.ref D) H' (m1.trans mo) (rel_rest R1 mo Ro hv) ⟨D, rfl, ⟨kvs, hDk, ra⟩, hb, fun j d hj => ?_, b3⟩⟩
        obtain ⟨q1, q2⟩ := restE_op hj
        have := hs j d q2
        rw [wipe_out' q1] at this
        exact this
def itemsK : D → Option (List D)
  | .dict ps => some (ps.map (·.1))
  | _ => none
def walkK (m : M D) : M (List D) := bnd m fun d => lft (itemsK d)
theorem RpK.get {K : PySem.W.Frag} {H : Hp} : ∀ {kvs : List (Key × V)} {ds : List (D × D)}, RpK K H kvs ds → ∀ (i : Nat) (d : D), (ds.map (·.1))[i]? = some d → ∃ k v, kvs[i]? = some (k, v) ∧ d = kD k
  | _, _, .nil, i, d, h => by simp at h
  | _, _, .cons r t, 0, d, h => by simp at h; subst h; exact ⟨_, _, rfl, rfl⟩
  | _, _, .cons r t, i + 1, d, h => by
    obtain ⟨k, v, e, q⟩ := RpK.get t i d (by simpa using h)
    exact ⟨k, v, by simpa using e, q⟩
theorem rp_kD {K : PySem.W.Frag} {H : Hp} (k : Key) : Rp K H (kV k) (kD k) := by
  cases k with
  | inl i => exact .int i
  | inr x => exact .str x
theorem itd_keys {K : PySem.W.Frag} {H : Hp} {a : Addr} {o : Obj} {kvs : List (Key × V)} {ds : List (D × D)} (h : H a = some (.frz o (.dK kvs))) (r : RpK K H kvs ds) : ItD K (Itk a o kvs) (ds.map (·.1)) H where
  go := fun H' m i hi => ⟨m.frzs _ _ _ h, by rw [List.length_map, ← r.len] at hi; exact hi⟩
  stop := fun H' m => ⟨m.frzs _ _ _ h, by rw [List.length_map, ← r.len]; omega⟩
  yld := fun H' m i d x H2 hd y => by
    obtain ⟨rfl, k, v, hk, rfl⟩ := y
    obtain ⟨k', v', hk', rfl⟩ := r.get i d hd
    rw [hk] at hk'; cases hk'
    exact ⟨Same.refl _, rp_kD k⟩
section
variable {X : Cx} {Z : ZC} {pos p : Pos}
theorem e_dc {kx vx tg iter : Expr} {scope : Scope} {own : List (Str × Nat)} {g : TG} {f : D → En → Option En} {is vs : List Nat} {mi : M (List D)} {mk mv : M D} (hc : X.calm = true) (hN : X.N.Nodup) (hi : PI X tg iter (tI X.K Z mi)) (ok : blkC X.N X.env.scope scope own = true) (hvs : own.map (·.2) = vs) (his : ∀ i ∈ is, i ∈ vs) (hv : ∀ i ∈ Z.ios, i ∉ vs)
    (hw : ∀ D kvs, TgW X.K (ZE Z D kvs) is g f) (hg : ∀ s H C cl fp, PG (BK X scope s H C cl fp) tg g) (hk : ∀ D kvs s H C cl fp, PE (BK X scope s H C cl fp) kx (tM X.K (ZE Z D kvs) mk)) (he : ∀ D kvs s H C cl fp, PE (BK X scope s H C cl fp) vx (tM X.K (ZE Z D kvs) mv)) (hs : ∀ x, foldedSetIterable iter X.env x = pure x := by intro _; rfl) :
    PE X (.DictComp kx vx [⟨tg, iter, [], 0⟩] scope pos) (tO X.K Z (dcM vs mi f mk mv)) := by
  subst hvs
  exact PE_weak (pe_dc hc hN hi (blkOk_by ok) hg (fun _ _ _ _ _ => pts_nil) (fun s H C cl fp => (⟨fun pins s' σ H' Q I ⟨D, acc, q⟩ => (hk D acc s H C cl fp).run pins s' σ H' Q I q⟩ : PE (BK X scope s H C cl fp) kx (tZE X.K Z (fun _ => rV X.K) mk))) (fun s H C cl fp => (⟨fun pins s' σ H' Q I ⟨D, acc, q⟩ => (he D acc s H C cl fp).run pins s' σ H' Q I q⟩ : PE (BK X scope s H C cl fp) vx (tZE X.K Z (fun _ => rV X.K) mv))) hs) (t_dc hw his hv)
theorem i_keys {tg e : Expr} {m : M D} (h : PE X e (tM X.K Z m)) : PI X tg e (tI X.K Z (walkK m)) :=
  PI_weak (pi_keys h) fun σ H R ⟨en, Rl, q⟩ => ⟨en, Rl, tI_bnd q fun v H1 d e1 ds m1 R1 r1 hd k => by
    cases d with
    | dict ps =>
      cases hd
      cases r1 with
      | dic h r => exact ⟨_, _, rfl, .inl ⟨_, h, k _ H1 .refl R1 (itd_keys h r)⟩⟩
    | _ => cases hd⟩
end
end ZZ

namespace Vk21
open PySem PySem.Spec PyProof.Rows L2 ZZ
def topS (i : Nat) : Stmt := PySem.Challenge.pw_kerbtruth_k21_whole_begins_that_changes.main.body.getD i (.Pass ⟨0, 0, 0, 0⟩)
abbrev st__law_cells : Stmt := topS 64
abbrev st__law_pot : Stmt := topS 61
abbrev st__law_take : Stmt := topS 62
abbrev st__law_told : Stmt := topS 65
abbrev st__law_exposed : Stmt := topS 71
abbrev st__law_of : Stmt := topS 63
abbrev st__law_answer : Stmt := topS 66
abbrev st__law_row : Stmt := topS 67
abbrev st__law_sign : Stmt := topS 68
abbrev st__law_feasts : Stmt := topS 69
abbrev st__law_end : Stmt := topS 70
abbrev st_is_integer : Stmt := topS 13
abbrev st_is_between : Stmt := topS 14
abbrev st_is_ascending : Stmt := topS 17
abbrev st_is_name : Stmt := topS 15
abbrev st_are_kinds : Stmt := topS 36
abbrev st_is_bound : Stmt := topS 33
abbrev st_is_answer : Stmt := topS 34
abbrev st_is_row : Stmt := topS 37
abbrev st_is_sign : Stmt := topS 38
abbrev st_check_sign : Stmt := topS 40
abbrev st_check_signs : Stmt := topS 41
abbrev st_is_tick : Stmt := topS 16
abbrev st_check_tick : Stmt := topS 43
abbrev st_is_kind : Stmt := topS 35
abbrev st_check_kind : Stmt := topS 42
abbrev st_are_feasts : Stmt := topS 39
abbrev st_check_feasts : Stmt := topS 44
abbrev st_does_fit : Stmt := topS 45
abbrev st_does_bear : Stmt := topS 46
abbrev st_told_at : Stmt := topS 47
abbrev st_next_barred : Stmt := topS 51
abbrev st_end_of : Stmt := topS 52
abbrev st_ends_of : Stmt := topS 53
abbrev st_exposed_begins : Stmt := topS 55
abbrev st_exposed : Stmt := topS 57
abbrev st__law_stretches : Stmt := topS 72
abbrev st_lawful_end : Stmt := topS 54
abbrev st__law_is_wide_right : Stmt := topS 74
abbrev st_check_change : Stmt := topS 56
abbrev st_named : Stmt := topS 48
abbrev st_unsafe_ticks : Stmt := topS 58
abbrev st_safe_tick : Stmt := topS 59
abbrev st__law_right : Stmt := topS 73
abbrev st_law : Stmt := topS 75
noncomputable def B__law_cells : M Fl := (sRet (bin (lrgD .list) (ret (.int 0)) (bin max2D (ret (.int 1)) (bin min2D (vr 1) (una lenD (vr 0))))))
@[irreducible] noncomputable def F__law_cells : List D → FO := mkF [false, false] 0 B__law_cells
noncomputable def B__law_pot : M Fl := (sSeq (sAsg (setN 2) (iteM (boolOf (bin ltD (vr 1) (una lenD (vr 0)))) (bin ixD (vr 0) (vr 1)) (bin addD (bin addD (bin modD (una sumD (slM (vr 0) none (some (ret (.int 1))))) (ret (.int 1000003))) (bin mulD (ret (.int 2445)) (vr 1))) (ret (.int 1475))))) (sSeq (sAsg (setN 3) (bin mulD (bin modD (una intD (una absD (vr 2))) (bin powD (bin powD (ret (.int 10)) (ret (.int 60))) (ret (.int 5)))) (una intD (bin geD (una absD (vr 2)) (bin powD (ret (.int 10)) (ret (.int 18))))))) (sSeq (sAsg (setN 4) (bin modD (una intD (vr 2)) (ret (.int 2305843009213693951)))) (sRetO (lstM [(vr 3), (bin modD (una intD (bin addD (bin addD (bin mulD (vr 4) (ret (.int 73383))) (bin mulD (bin mulD (ret (.int 8951)) (vr 1)) (vr 1))) (ret (.int 995)))) (ret (.int 2305843009213693921))), (ret (.int 0))])))))
@[irreducible] noncomputable def F__law_pot : List D → FO := mkFo [false, false] 3 B__law_pot
noncomputable def B__law_take : M Fl := (sSeq (sIf (boolOf (bin gtD (binL ixD 0 (ret (.int 0))) (ret (.int 0)))) (sSeq (sAsg (setN 2) (bin modD (una intD (binL ixD 0 (ret (.int 0)))) (vr 1))) (sSeq (sSetIx 0 (ret (.int 0)) (bin divD (binL ixD 0 (ret (.int 0))) (vr 1))) (sRet (vr 2)))) sNx) (sSeq (sSetIx 0 (ret (.int 2)) (bin addD (binL ixD 0 (ret (.int 2))) (ret (.int 1)))) (sSeq (sAsg (setN 3) (bin ixD (lstM [(ret (.int 2147483647)), (ret (.int 2147483629)), (ret (.int 2147483587)), (ret (.int 2147483579)), (ret (.int 2147483563))]) (bin modD (una intD (binL ixD 0 (ret (.int 2)))) (ret (.int 5))))) (sSeq (sAsg (setN 4) (bin modD (una intD (bin powD (una intD (bin addD (bin addD (binL ixD 0 (ret (.int 1))) (bin mulD (bin mulD (ret (.int 97199)) (binL ixD 0 (ret (.int 2)))) (binL ixD 0 (ret (.int 2))))) (ret (.int 745)))) (ret (.int 3)))) (vr 3))) (sSeq (sAsg (setN 4) (bin modD (una intD (bin mulD (vr 4) (bin addD (bin modD (una intD (vr 4)) (ret (.int 11157))) (bin mulD (ret (.int 833)) (binL ixD 0 (ret (.int 2))))))) (ret (.int 2305843009213693907)))) (sRet (bin modD (una intD (bin divD (vr 4) (ret (.int 1075)))) (vr 1))))))))
@[irreducible] noncomputable def F__law_take : List D → FO := mkF [true, false] 3 B__law_take
noncomputable def B__law_told : M Fl := (sSeq (sAsg (setT [4, 5]) (vr 0)) (sSeq (sFor (walkA (una revD (bin (lrgD .list) (ret (.int 0)) (una lenD (vr 5))))) (setN 6) (sSeq (sAsg (setT [7, 8, 9, 10, 11]) (bin ixD (vr 5) (vr 6))) (sSeq (sAsg (setN 12) (iteM (boolOf (bin eqD (vr 7) (vr 8))) (ret (.int 0)) (bin modD (bin subD (vr 2) (vr 7)) (bin mulD (ret (.int 7)) (vr 4))))) (sSeq (sIf (orM (andM (boolOf (bin neD (vr 7) (vr 8))) (boolOf (bin geD (vr 12) (bin modD (bin subD (vr 8) (vr 7)) (bin mulD (ret (.int 7)) (vr 4)))))) (andM (boolOf (bin neD (vr 10) (tupM []))) (boolOf (bin ninD (vr 1) (vr 10))))) sCt sNx) (sSeq (sAsg (setN 13) (bin divD (bin subD (vr 2) (vr 12)) (vr 4))) (sSeq (sAsg (setN 14) (noX (dspM [((ret (.str "any")), (ret (.bool true))), ((ret (.str "plain")), (bin ninD (vr 13) (vr 3))), ((ret (.str "feast")), (bin inD (vr 13) (vr 3))), ((ret (.str "eve")), (bin inD (bin addD (vr 13) (ret (.int 1))) (vr 3)))]))) (sIf (truM (bin ixD (vr 14) (vr 9))) (sRet (tupM [(vr 11), (una intD (vr 6))])) sNx))))))) (sRet (tupM [(ret (.str "free")), (ret .none)]))))
@[irreducible] noncomputable def F__law_told : List D → FO := mkF [false, false, false, false] 11 B__law_told
noncomputable def B__law_exposed : M Fl := (sSeq (sAsg (setN 6) (vr 2)) (sSeq (whlN (andM (boolOf (bin ltD (vr 6) (bin addD (vr 2) (bin mulD (ret (.int 14)) (bin ixD (vr 0) (ret (.int 0))))))) (boolOf (bin neD (bin ixD (callM F__law_told [.v (vr 1), .v (vr 3), .v (vr 6), .v (vr 4)]) (ret (.int 0))) (ret (.str "barred"))))) (sAsg (setN 6) (bin addD (vr 6) (ret (.int 1)))) FUEL) (sRet (lcM [7] (range1 [(vr 2)]) (setN 7) (andM (boolOf (bin gtD (bin ixD (vr 5) (vr 7)) (vr 6))) (boolOf (bin ltD (vr 6) (bin addD (vr 2) (bin mulD (ret (.int 14)) (bin ixD (vr 0) (ret (.int 0)))))))) (vr 7)))))
@[irreducible] noncomputable def F__law_exposed : List D → FO := mkF [false, false, false, false, false, false] 2 B__law_exposed
noncomputable def B__law_of : M Fl := (sRet (bin ixD (vr 1) (callM F__law_take [.io 0, .v (una lenD (vr 1))])))
@[irreducible] noncomputable def F__law_of : List D → FO := mkF [true, false] 0 B__law_of
noncomputable def B__law_answer : M Fl := (sSeq (sAsg (setN 1) (tupM [(una intD (bin addD (ret (.int 1)) (callM F__law_take [.io 0, .v (ret (.int 9))]))), (una intD (bin addD (ret (.int 1)) (callM F__law_take [.io 0, .v (ret (.int 6))])))])) (sRet (callM F__law_of [.io 0, .v (lstM [(ret (.str "free")), (ret (.str "barred")), (ret (.str "barred")), (ret (.str "load")), (tupM [(ret (.int 5)), (ret (.int 3))]), (vr 1)])])))
@[irreducible] noncomputable def F__law_answer : List D → FO := mkF [true] 1 B__law_answer
noncomputable def B__law_row : M Fl := (sSeq (sAsg (setTr [3, 2]) (tupM [(callM F__law_take [.io 0, .v (bin mulD (ret (.int 7)) (vr 1))]), (callM F__law_of [.io 0, .v (lstM [(ret (.int 0)), (ret (.int 1)), (vr 1), (bin addD (ret (.int 1)) (callM F__law_take [.io 0, .v (vr 1)]))])])])) (sSeq (sAsg (setN 4) (callM F__law_of [.io 0, .v (lstM [(ret (.str "any")), (ret (.str "any")), (ret (.str "plain")), (ret (.str "feast")), (ret (.str "eve"))])])) (sSeq (sAsg (setN 5) (callM F__law_of [.io 0, .v (lstM [(tupM []), (tupM []), (tupM [(ret (.str "van"))]), (tupM [(ret (.str "bus")), (ret (.str "van"))])])])) (sRet (tupM [(una intD (vr 2)), (una intD (bin modD (bin addD (vr 2) (vr 3)) (bin mulD (ret (.int 7)) (vr 1)))), (vr 4), (vr 5), (callM F__law_answer [.io 0])])))))
@[irreducible] noncomputable def F__law_row : List D → FO := mkF [true, false] 4 B__law_row
noncomputable def B__law_sign : M Fl := (sRet (tupM [(una intD (vr 1)), (una tupD (lcM [3] (range1 [(callM F__law_take [.io 0, .v (bin addD (vr 2) (ret (.int 1)))])]) (setN 3) (ret true) (callM F__law_row [.io 0, .v (vr 1)])))]))
@[irreducible] noncomputable def F__law_sign : List D → FO := mkF [true, false, false] 1 B__law_sign
noncomputable def B__law_feasts : M Fl := (sRet (una tupD (lcM [2] (range1 [(vr 1)]) (setN 2) (boolOf (bin eqD (callM F__law_take [.io 0, .v (ret (.int 4))]) (ret (.int 0)))) (una intD (vr 2)))))
@[irreducible] noncomputable def F__law_feasts : List D → FO := mkF [true, false] 1 B__law_feasts
noncomputable def B__law_end : M Fl := (sSeq (sAsg (setTr [6, 5, 4]) (tupM [(bin ixD (callM F__law_told [.v (vr 0), .v (vr 1), .v (vr 2), .v (vr 3)]) (ret (.int 0))), (vr 2), (bin mulD (ret (.int 7)) (bin ixD (vr 0) (ret (.int 0))))])) (sSeq (sAsg (setN 7) (bin addD (vr 2) (bin mulD (ret (.int 2)) (vr 6)))) (sSeq (sIf (truM (una (isiD "tuple") (vr 4))) (sAsg (setN 7) (bin min2D (vr 7) (bin addD (vr 2) (bin ixD (vr 4) (ret (.int 0)))))) sNx) (sSeq (whlN (andM (boolOf (bin ltD (vr 5) (vr 7))) (boolOf (bin neD (bin ixD (callM F__law_told [.v (vr 0), .v (vr 1), .v (vr 5), .v (vr 3)]) (ret (.int 0))) (ret (.str "barred"))))) (sAsg (setN 5) (bin addD (vr 5) (ret (.int 1)))) FUEL) (sRet (una intD (vr 5)))))))
@[irreducible] noncomputable def F__law_end : List D → FO := mkF [false, false, false, false] 4 B__law_end
noncomputable def B_is_integer : M Fl := (sRet (andV (una (isiD "int") (vr 0)) (notV (una (isiD "bool") (vr 0)))))
@[irreducible] noncomputable def F_is_integer : List D → FO := mkF [false] 0 B_is_integer
noncomputable def B_is_between : M Fl := (sRet (andV (callM F_is_integer [.v (vr 0)]) (chn leD leD (vr 1) (vr 0) (vr 2))))
@[irreducible] noncomputable def F_is_between : List D → FO := mkF [false, false, false] 0 B_is_between
noncomputable def B_is_ascending : M Fl := (sRet (una allD (lcM [1, 2] (zipA 2 [(vr 0), (slM (vr 0) (some (ret (.int 1))) none)]) (setT [1, 2]) (ret true) (bin ltD (vr 1) (vr 2)))))
@[irreducible] noncomputable def F_is_ascending : List D → FO := mkF [false] 2 B_is_ascending
noncomputable def B_is_name : M Fl := (sSeq (sIf (orM (notM (truM (una (isiD "str") (vr 0)))) (orM (notM (boolOf (chn leD leD (ret (.int 1)) (una lenD (vr 0)) (ret (.int 8))))) (boolOf (bin ninD (bin ixD (vr 0) (ret (.int 0))) (ret (.str "abcdefghijklmnopqrstuvwxyz")))))) (sRet (ret (.bool false))) sNx) (sRet (una allD (lcM [1] (walkA (vr 0)) (setN 1) (ret true) (bin inD (vr 1) (bin addD (ret (.str "abcdefghijklmnopqrstuvwxyz")) (ret (.str "0123456789"))))))))
@[irreducible] noncomputable def F_is_name : List D → FO := mkF [false] 1 B_is_name
noncomputable def B_are_kinds : M Fl := (sSeq (sIf (orM (notM (truM (una (isiD "tuple") (vr 0)))) (boolOf (bin gtD (una lenD (vr 0)) (ret (.int 12))))) (sRet (ret (.bool false))) sNx) (sRet (andV (una allD (lcM [1] (walkA (vr 0)) (setN 1) (ret true) (callM F_is_name [.v (vr 1)]))) (callM F_is_ascending [.v (vr 0)]))))
@[irreducible] noncomputable def F_are_kinds : List D → FO := mkF [false] 1 B_are_kinds
noncomputable def B_is_bound : M Fl := (sSeq (sIf (orM (notM (truM (una (isiD "tuple") (vr 0)))) (boolOf (bin neD (una lenD (vr 0)) (ret (.int 2))))) (sRet (ret (.bool false))) sNx) (sRet (andV (callM F_is_between [.v (bin ixD (vr 0) (ret (.int 0))), .v (ret (.int 1)), .v (ret (.int 10000))]) (callM F_is_between [.v (bin ixD (vr 0) (ret (.int 1))), .v (ret (.int 1)), .v (ret (.int 9999))]))))
@[irreducible] noncomputable def F_is_bound : List D → FO := mkF [false] 0 B_is_bound
noncomputable def B_is_answer : M Fl := (sRet (orV (callM F_is_name [.v (vr 0)]) (callM F_is_bound [.v (vr 0)])))
@[irreducible] noncomputable def F_is_answer : List D → FO := mkF [false] 0 B_is_answer
noncomputable def B_is_row : M Fl := (sSeq (sIf (orM (notM (truM (una (isiD "tuple") (vr 1)))) (boolOf (bin neD (una lenD (vr 1)) (ret (.int 5))))) (sRet (ret (.bool false))) sNx) (sSeq (sAsg (setT [2, 3, 4, 5, 6]) (vr 1)) (sSeq (sAsg (setN 7) (bin mulD (ret (.int 7)) (vr 0))) (sSeq (sIf (orM (notM (truM (callM F_is_between [.v (vr 2), .v (ret (.int 0)), .v (bin subD (vr 7) (ret (.int 1)))]))) (orM (notM (truM (callM F_is_between [.v (vr 3), .v (ret (.int 0)), .v (bin subD (vr 7) (ret (.int 1)))]))) (boolOf (bin gtD (bin modD (bin subD (vr 3) (vr 2)) (vr 7)) (vr 0))))) (sRet (ret (.bool false))) sNx) (sSeq (sIf (orM (notM (truM (una (isiD "str") (vr 4)))) (boolOf (bin ninD (vr 4) (tupM [(ret (.str "any")), (ret (.str "plain")), (ret (.str "feast")), (ret (.str "eve"))])))) (sRet (ret (.bool false))) sNx) (sRet (andV (callM F_are_kinds [.v (vr 5)]) (callM F_is_answer [.v (vr 6)]))))))))
@[irreducible] noncomputable def F_is_row : List D → FO := mkF [false, false] 6 B_is_row
noncomputable def B_is_sign : M Fl := (sSeq (sIf (orM (notM (truM (una (isiD "tuple") (vr 0)))) (orM (boolOf (bin neD (una lenD (vr 0)) (ret (.int 2)))) (notM (truM (callM F_is_between [.v (bin ixD (vr 0) (ret (.int 0))), .v (ret (.int 1)), .v (ret (.int 24))]))))) (sRet (ret (.bool false))) sNx) (sSeq (sAsg (setT [1, 2]) (vr 0)) (sSeq (sIf (orM (notM (truM (una (isiD "tuple") (vr 2)))) (boolOf (bin gtD (una lenD (vr 2)) (ret (.int 12))))) (sRet (ret (.bool false))) sNx) (sRet (una allD (lcM [3] (walkA (vr 2)) (setN 3) (ret true) (callM F_is_row [.v (vr 1), .v (vr 3)])))))))
@[irreducible] noncomputable def F_is_sign : List D → FO := mkF [false] 3 B_is_sign
noncomputable def B_check_sign : M Fl := (sIf (notM (truM (callM F_is_sign [.v (vr 0)]))) sNo sNx)
@[irreducible] noncomputable def F_check_sign : List D → FO := mkF [false] 0 B_check_sign
noncomputable def B_check_signs : M Fl := (sSeq (sExpr (callM F_check_sign [.v (vr 0)])) (sSeq (sExpr (callM F_check_sign [.v (vr 1)])) (sIf (boolOf (bin neD (bin ixD (vr 0) (ret (.int 0))) (bin ixD (vr 1) (ret (.int 0))))) sNo sNx)))
@[irreducible] noncomputable def F_check_signs : List D → FO := mkF [false, false] 0 B_check_signs
noncomputable def B_is_tick : M Fl := (sRet (callM F_is_between [.v (vr 0), .v (ret (.int 0)), .v (ret (.int 9999))]))
@[irreducible] noncomputable def F_is_tick : List D → FO := mkF [false] 0 B_is_tick
noncomputable def B_check_tick : M Fl := (sIf (notM (truM (callM F_is_tick [.v (vr 0)]))) sNo sNx)
@[irreducible] noncomputable def F_check_tick : List D → FO := mkF [false] 0 B_check_tick
noncomputable def B_is_kind : M Fl := (sRet (orV (isN (vr 0)) (callM F_is_name [.v (vr 0)])))
@[irreducible] noncomputable def F_is_kind : List D → FO := mkF [false] 0 B_is_kind
noncomputable def B_check_kind : M Fl := (sIf (notM (truM (callM F_is_kind [.v (vr 0)]))) sNo sNx)
@[irreducible] noncomputable def F_check_kind : List D → FO := mkF [false] 0 B_check_kind
noncomputable def B_are_feasts : M Fl := (sSeq (sIf (orM (notM (truM (una (isiD "tuple") (vr 0)))) (boolOf (bin gtD (una lenD (vr 0)) (ret (.int 400))))) (sRet (ret (.bool false))) sNx) (sRet (andV (una allD (lcM [1] (walkA (vr 0)) (setN 1) (ret true) (callM F_is_between [.v (vr 1), .v (ret (.int 0)), .v (ret (.int 10000))]))) (callM F_is_ascending [.v (vr 0)]))))
@[irreducible] noncomputable def F_are_feasts : List D → FO := mkF [false] 1 B_are_feasts
noncomputable def B_check_feasts : M Fl := (sIf (notM (truM (callM F_are_feasts [.v (vr 0)]))) sNo sNx)
@[irreducible] noncomputable def F_check_feasts : List D → FO := mkF [false] 0 B_check_feasts
noncomputable def B_does_fit : M Fl := (sSeq (sIf (boolOf (bin eqD (vr 0) (ret (.str "plain")))) (sRet (bin ninD (vr 1) (vr 2))) sNx) (sSeq (sIf (boolOf (bin eqD (vr 0) (ret (.str "feast")))) (sRet (bin inD (vr 1) (vr 2))) sNx) (sRet (orV (bin eqD (vr 0) (ret (.str "any"))) (bin inD (bin addD (vr 1) (ret (.int 1))) (vr 2))))))
@[irreducible] noncomputable def F_does_fit : List D → FO := mkF [false, false, false] 0 B_does_fit
noncomputable def B_does_bear : M Fl := (sSeq (sAsg (setT [5, 6, 7, 8, 9]) (vr 1)) (sSeq (sIf (andM (boolOf (bin neD (vr 8) (tupM []))) (boolOf (bin ninD (vr 2) (vr 8)))) (sRet (ret (.bool false))) sNx) (sSeq (sAsg (setN 10) (bin mulD (ret (.int 7)) (vr 0))) (sSeq (sAsg (setN 11) (iteM (boolOf (bin neD (vr 5) (vr 6))) (bin modD (bin subD (vr 3) (vr 5)) (vr 10)) (ret (.int 0)))) (sSeq (sIf (andM (boolOf (bin neD (vr 5) (vr 6))) (boolOf (bin geD (vr 11) (bin modD (bin subD (vr 6) (vr 5)) (vr 10))))) (sRet (ret (.bool false))) sNx) (sRet (callM F_does_fit [.v (vr 7), .v (bin divD (bin subD (vr 3) (vr 11)) (vr 0)), .v (vr 4)])))))))
@[irreducible] noncomputable def F_does_bear : List D → FO := mkF [false, false, false, false, false] 7 B_does_bear
noncomputable def B_told_at : M Fl := (sSeq (sAsg (setT [4, 5]) (vr 0)) (sSeq (sFor (range3 [(bin subD (una lenD (vr 5)) (ret (.int 1))), (una negD (ret (.int 1))), (una negD (ret (.int 1)))]) (setN 6) (sIf (truM (callM F_does_bear [.v (vr 4), .v (bin ixD (vr 5) (vr 6)), .v (vr 1), .v (vr 2), .v (vr 3)])) (sRet (tupM [(bin ixD (bin ixD (vr 5) (vr 6)) (ret (.int 4))), (vr 6)])) sNx)) (sRet (tupM [(ret (.str "free")), (ret .none)]))))
@[irreducible] noncomputable def F_told_at : List D → FO := mkF [false, false, false, false] 3 B_told_at
noncomputable def B_next_barred : M Fl := (sSeq (sPar [6, 5] [.o (ret (.dict [])), .v (vr 4)]) (sSeq (sFor (range3 [(bin subD (vr 4) (ret (.int 1))), (bin subD (vr 3) (ret (.int 1))), (una negD (ret (.int 1)))]) (setN 7) (sSeq (sIf (boolOf (bin eqD (bin ixD (callM F_told_at [.v (vr 0), .v (vr 1), .v (vr 7), .v (vr 2)]) (ret (.int 0))) (ret (.str "barred")))) (sAsg (setN 6) (vr 7)) sNx) (sSetK 5 (vr 7) (vr 6)))) (sRet (vl 5))))
@[irreducible] noncomputable def F_next_barred : List D → FO := mkF [false, false, false, false, false] 3 B_next_barred
noncomputable def B_end_of : M Fl := (sSeq (sAsg (setTr [6, 5]) (tupM [(bin ixD (callM F_told_at [.v (vr 0), .v (vr 1), .v (vr 2), .v (vr 3)]) (ret (.int 0))), (bin addD (vr 2) (bin mulD (bin mulD (ret (.int 2)) (ret (.int 7))) (bin ixD (vr 0) (ret (.int 0)))))])) (sSeq (sIf (truM (una (isiD "tuple") (vr 5))) (sAsg (setN 6) (bin min2D (vr 6) (bin addD (vr 2) (bin ixD (vr 5) (ret (.int 0)))))) sNx) (sRet (bin min2D (vr 6) (bin ixD (vr 4) (vr 2))))))
@[irreducible] noncomputable def F_end_of : List D → FO := mkF [false, false, false, false, false] 2 B_end_of
noncomputable def B_ends_of : M Fl := (sSeq (sAsg (setN 5) (callM F_next_barred [.v (vr 0), .v (vr 1), .v (vr 2), .v (vr 3), .v (bin addD (vr 4) (bin mulD (bin mulD (ret (.int 2)) (ret (.int 7))) (bin ixD (vr 0) (ret (.int 0)))))])) (sRet (dcM [6] (range2 [(vr 3), (vr 4)]) (setN 6) (vr 6) (callM F_end_of [.v (vr 0), .v (vr 1), .v (vr 6), .v (vr 2), .v (vr 5)]))))
@[irreducible] noncomputable def F_ends_of : List D → FO := mkF [false, false, false, false, false] 2 B_ends_of
noncomputable def B_exposed_begins : M Fl := (sSeq (sAsg (setN 5) (bin mulD (ret (.int 7)) (bin ixD (vr 0) (ret (.int 0))))) (sSeq (sAsg (setN 6) (bin ixD (callM F_next_barred [.v (vr 1), .v (vr 3), .v (vr 4), .v (vr 2), .v (bin addD (vr 2) (bin mulD (ret (.int 2)) (vr 5)))]) (vr 2))) (sSeq (sAsg (setN 7) (callM F_ends_of [.v (vr 0), .v (vr 3), .v (vr 4), .v (bin max2D (ret (.int 0)) (bin subD (vr 2) (bin mulD (ret (.int 2)) (vr 5)))), .v (vr 2)])) (sRet (lcM [8] (walkK (vr 7)) (setN 8) (boolOf (bin gtD (bin ixD (vr 7) (vr 8)) (vr 6))) (vr 8))))))
@[irreducible] noncomputable def F_exposed_begins : List D → FO := mkF [false, false, false, false, false] 4 B_exposed_begins
noncomputable def B_exposed : M Fl := (sSeq (sExpr (callM F_check_signs [.v (vr 0), .v (vr 1)])) (sSeq (sExpr (callM F_check_tick [.v (vr 2)])) (sSeq (sExpr (callM F_check_kind [.v (vr 3)])) (sSeq (sExpr (callM F_check_feasts [.v (vr 4)])) (sSeq (sAsgO 5 (lstM [])) (sSeq (sFor (walkA (callM F_exposed_begins [.v (vr 0), .v (vr 1), .v (vr 2), .v (vr 3), .v (vr 4)])) (setN 6) (sIf (andM (boolOf (binL neD 5 (lstM []))) (boolOf (bin eqD (bin ixD (binL ixD 5 (una negD (ret (.int 1)))) (ret (.int 1))) (bin subD (vr 6) (ret (.int 1)))))) (sSetIx 5 (una negD (ret (.int 1))) (tupM [(bin ixD (binL ixD 5 (una negD (ret (.int 1)))) (ret (.int 0))), (vr 6)])) (sMt 5 (tupM [(vr 6), (vr 6)]) appD))) (sRet (una tupD (vq 5)))))))))
@[irreducible] noncomputable def F_exposed : List D → FO := mkF [false, false, false, false, false] 2 B_exposed
noncomputable def B__law_stretches : M Fl := (sSeq (sAsgO 1 (lstM [])) (sSeq (sFor (walkA (vr 0)) (setN 2) (sIf (andM (boolOf (binL neD 1 (lstM []))) (boolOf (bin eqD (bin ixD (binL ixD 1 (una negD (ret (.int 1)))) (ret (.int 1))) (bin subD (vr 2) (ret (.int 1)))))) (sSetIx 1 (una negD (ret (.int 1))) (tupM [(bin ixD (binL ixD 1 (una negD (ret (.int 1)))) (ret (.int 0))), (una intD (vr 2))])) (sMt 1 (tupM [(una intD (vr 2)), (una intD (vr 2))]) appD))) (sRet (una tupD (vq 1)))))
@[irreducible] noncomputable def F__law_stretches : List D → FO := mkF [false] 2 B__law_stretches
noncomputable def B_lawful_end : M Fl := (sSeq (sExpr (callM F_check_sign [.v (vr 0)])) (sSeq (sExpr (callM F_check_kind [.v (vr 1)])) (sSeq (sExpr (callM F_check_feasts [.v (vr 3)])) (sSeq (sExpr (callM F_check_tick [.v (vr 2)])) (sRet (bin ixD (callM F_ends_of [.v (vr 0), .v (vr 1), .v (vr 3), .v (vr 2), .v (bin addD (vr 2) (ret (.int 1)))]) (vr 2)))))))
@[irreducible] noncomputable def F_lawful_end : List D → FO := mkF [false, false, false, false] 0 B_lawful_end
noncomputable def B__law_is_wide_right : M Fl := (sSeq (sAsg (setT [1, 2, 3]) (tupM [(callM F__law_sign [.io 0, .v (ret (.int 24)), .v (ret (.int 3))]), (callM F__law_sign [.io 0, .v (ret (.int 24)), .v (ret (.int 3))]), (callM F__law_feasts [.io 0, .v (ret (.int 3))])])) (sSeq (sAsg (setT [4, 5]) (tupM [(una intD (callM F__law_take [.io 0, .v (ret (.int 40))])), (callM F__law_of [.io 0, .v (lstM [(ret .none), (ret (.str "van"))])])])) (sSeq (sAsg (setN 6) (lcM [7] (range1 [(vr 4)]) (setN 7) (ret true) (callM F__law_end [.v (vr 1), .v (vr 5), .v (vr 7), .v (vr 3)]))) (sSeq (sAsg (setN 8) (callM F__law_exposed [.v (vr 1), .v (vr 2), .v (vr 4), .v (vr 5), .v (vr 3), .v (vr 6)])) (sSeq (sIf (boolOf (bin neD (una reprD (callM F_exposed [.v (vr 1), .v (vr 2), .v (vr 4), .v (vr 5), .v (vr 3)])) (una reprD (callM F__law_stretches [.v (vr 8)])))) (sRet (ret (.bool false))) sNx) (sRet (una allD (lcM [7] (range3p [(ret (.int 0)), (vr 4), (ret (.int 5))]) (setN 7) (ret true) (bin eqD (una reprD (callM F_lawful_end [.v (vr 1), .v (vr 5), .v (vr 7), .v (vr 3)])) (una reprD (bin ixD (vr 6) (vr 7))))))))))))
@[irreducible] noncomputable def F__law_is_wide_right : List D → FO := mkF [true] 8 B__law_is_wide_right
noncomputable def B_check_change : M Fl := (sSeq (sExpr (callM F_check_signs [.v (vr 0), .v (vr 1)])) (sSeq (sExpr (callM F_check_tick [.v (vr 2)])) (sExpr (callM F_check_feasts [.v (vr 3)]))))
@[irreducible] noncomputable def F_check_change : List D → FO := mkF [false, false, false, false] 0 B_check_change
noncomputable def B_named : M Fl := (sSeq (sAsgO 1 (ret (.dict []))) (sSeq (sFor (walkA (vr 0)) (setT [2, 3]) (sFor (walkA (vr 3)) (setN 4) (sFor (walkA (bin ixD (vr 4) (ret (.int 3)))) (setN 5) (sSetK 1 (vr 5) (ret (.bool true)))))) (sRet (bin addD (lstM [(ret .none)]) (una sortKD (vq 1))))))
@[irreducible] noncomputable def F_named : List D → FO := mkF [false] 5 B_named
noncomputable def B_unsafe_ticks : M Fl := (sSeq (sAsg (setN 6) (bin mulD (ret (.int 7)) (bin ixD (vr 0) (ret (.int 0))))) (sSeq (sAsg (setN 7) (callM F_next_barred [.v (vr 1), .v (vr 2), .v (vr 3), .v (vr 4), .v (bin addD (vr 5) (bin mulD (ret (.int 2)) (vr 6)))])) (sSeq (sAsg (setN 8) (callM F_ends_of [.v (vr 0), .v (vr 2), .v (vr 3), .v (bin max2D (ret (.int 0)) (bin subD (vr 4) (bin mulD (ret (.int 2)) (vr 6)))), .v (vr 5)])) (sSeq (sPar [10, 9] [.o (lstM []), .v (ret (.int 0))]) (sSeq (sFor (range2 [(bin max2D (ret (.int 0)) (bin subD (vr 4) (bin mulD (ret (.int 2)) (vr 6)))), (vr 5)]) (setN 11) (sSeq (sIf (andM (boolOf (bin geD (vr 11) (vr 4))) (boolOf (bin gtD (vr 10) (bin ixD (vr 7) (vr 11))))) (sMt 9 (vr 11) appD) sNx) (sAsg (setN 10) (bin max2D (vr 10) (bin ixD (vr 8) (vr 11)))))) (sRet (vl 9)))))))
@[irreducible] noncomputable def F_unsafe_ticks : List D → FO := mkF [false, false, false, false, false, false] 6 B_unsafe_ticks
noncomputable def B_safe_tick : M Fl := (sSeq (sExpr (callM F_check_change [.v (vr 0), .v (vr 1), .v (vr 2), .v (vr 3)])) (sSeq (sIf (notM (truM (callM F_is_between [.v (vr 4), .v (ret (.int 1)), .v (ret (.int 60))]))) sNo sNx) (sSeq (sParN [5, 6] [.v (bin addD (vr 2) (bin mulD (vr 4) (bin ixD (vr 0) (ret (.int 0))))), .o (ret (.dict []))]) (sSeq (sFor (walkA (callS F_named [(vr 0), (vr 1)])) (setN 7) (sFor (walkA (callM F_unsafe_ticks [.v (vr 0), .v (vr 1), .v (vr 7), .v (vr 3), .v (vr 2), .v (vr 5)])) (setN 8) (sSetK 6 (vr 8) (ret (.bool true))))) (sSeq (sAsg (setN 9) (lcM [8] (range2 [(vr 2), (vr 5)]) (setN 8) (boolOf (bin ninD (vr 8) (vq 6))) (vr 8))) (sRet (iteM (boolOf (bin neD (vr 9) (lstM []))) (bin ixD (vr 9) (ret (.int 0))) (ret .none))))))))
@[irreducible] noncomputable def F_safe_tick : List D → FO := mkF [false, false, false, false, false] 5 B_safe_tick
noncomputable def B__law_right : M Fl := (sSeq (sAsg (setN 1) (una intD (bin addD (ret (.int 1)) (callM F__law_take [.io 0, .v (ret (.int 3))])))) (sSeq (sAsg (setT [2, 3, 4]) (tupM [(callM F__law_sign [.io 0, .v (vr 1), .v (ret (.int 6))]), (callM F__law_sign [.io 0, .v (vr 1), .v (ret (.int 4))]), (callM F__law_feasts [.io 0, .v (ret (.int 12))])])) (sSeq (sAsg (setTr [6, 5]) (tupM [(una intD (callM F__law_take [.io 0, .v (bin mulD (ret (.int 22)) (vr 1))])), (una intD (bin addD (ret (.int 1)) (callM F__law_take [.io 0, .v (ret (.int 5))])))])) (sSeq (sAsg (setN 6) (iteM (andM (boolOf (bin eqD (vr 1) (ret (.int 1)))) (boolOf (bin eqD (callM F__law_take [.io 0, .v (ret (.int 3))]) (ret (.int 0))))) (ret (.int 60)) (vr 6))) (sSeq (sParN [7, 8] [.v (lstM [(ret .none), (ret (.str "bus")), (ret (.str "van"))]), .o (ret (.dict []))]) (sSeq (sFor (walkA (vr 7)) (setN 9) (sSeq (sSetN 8 (vr 9) (lcM [14] (range1 [(bin addD (vr 5) (bin mulD (vr 6) (vr 1)))]) (setN 14) (ret true) (callM F__law_end [.v (vr 2), .v (vr 9), .v (vr 14), .v (vr 4)]))) (sSeq (sFor (range1 [(ret (.int 3))]) (setN 10) (sSeq (sAsg (setN 14) (una intD (callM F__law_take [.io 0, .v (bin addD (vr 5) (ret (.int 1)))]))) (sSeq (sAsg (setN 15) (callM F__law_end [.v (vr 2), .v (vr 9), .v (vr 14), .v (vr 4)])) (sIf (boolOf (bin neD (una reprD (callK F_lawful_end [0, 1, 2, 3] [(vr 2), (vr 9), (vr 14), (vr 4)])) (una reprD (vr 15)))) (sRet (ret (.bool false))) sNx)))) (sSeq (sAsg (setN 11) (callM F__law_exposed [.v (vr 2), .v (vr 3), .v (vr 5), .v (vr 9), .v (vr 4), .v (getNM 8 (vr 9))])) (sSeq (sIf (boolOf (bin neD (una reprD (callK F_exposed [0, 1, 2, 3, 4] [(vr 2), (vr 3), (vr 5), (vr 9), (vr 4)])) (una reprD (callM F__law_stretches [.v (vr 11)])))) (sRet (ret (.bool false))) sNx) (sSeq (sIf (orM (andM (boolOf (bin neD (vr 11) (lstM []))) (boolOf (bin leD (bin ixD (vr 11) (ret (.int 0))) (bin subD (vr 5) (bin mulD (ret (.int 14)) (vr 1)))))) (boolOf (bin neD (callM F_exposed [.v (vr 2), .v (vr 2), .v (vr 5), .v (vr 9), .v (vr 4)]) (tupM [])))) (sRet (ret (.bool false))) sNx) (sSeq (sAsg (setN 12) (tupM [(vr 1), (bin addD (slM (bin ixD (vr 2) (ret (.int 1))) none (some (ret (.int 11)))) (tupM [(tupM [(ret (.int 0)), (ret (.int 0)), (ret (.str "any")), (tupM []), (ret (.str "barred"))])]))])) (sSeq (sAsg (setN 13) (tupM [(vr 1), (bin addD (slM (bin ixD (vr 3) (ret (.int 1))) none (some (ret (.int 11)))) (tupM [(tupM [(ret (.int 0)), (ret (.int 0)), (ret (.str "any")), (tupM []), (ret (.str "free"))])]))])) (sIf (orM (boolOf (bin neD (callM F_exposed [.v (vr 12), .v (vr 3), .v (vr 5), .v (vr 9), .v (vr 4)]) (tupM []))) (boolOf (bin neD (callM F_exposed [.v (vr 2), .v (vr 13), .v (vr 5), .v (vr 9), .v (vr 4)]) (tupM [])))) (sRet (ret (.bool false))) sNx))))))))) (sSeq (sAsg (setN 15) (ret .none)) (sSeq (sFor (range2 [(vr 5), (bin addD (vr 5) (bin mulD (vr 6) (vr 1)))]) (setN 16) (sIf (andM (boolOf (isN (vr 15))) (truM (una allD (lcM [9] (walkA (vr 7)) (setN 9) (ret true) (bin eqD (callM F__law_exposed [.v (vr 2), .v (vr 3), .v (vr 16), .v (vr 9), .v (vr 4), .v (getNM 8 (vr 9))]) (lstM [])))))) (sAsg (setN 15) (una intD (vr 16))) sNx)) (sRet (bin eqD (una reprD (callK F_safe_tick [0, 1, 2, 3, 4] [(vr 2), (vr 3), (vr 5), (vr 4), (vr 6)])) (una reprD (vr 15))))))))))))
@[irreducible] noncomputable def F__law_right : List D → FO := mkF [true] 16 B__law_right
noncomputable def B_law : M Fl := (sSeq (sFor (walkA (callM F__law_cells [.v (vr 0), .v (ret (.int 2))])) (setN 1) (sSeq (sAsgO 2 (callM F__law_pot [.v (vr 0), .v (vr 1)])) (sSeq (sIf (notM (truM (una allD (lcM [3] (range1 [(ret (.int 2))]) (setN 3) (ret true) (callM F__law_right [.io 2]))))) (sRet (ret (.bool false))) sNx) (sIf (andM (boolOf (bin eqD (callM F__law_take [.io 2, .v (ret (.int 8))]) (ret (.int 0)))) (notM (truM (callM F__law_is_wide_right [.io 2])))) (sRet (ret (.bool false))) sNx)))) (sRet (ret (.bool true))))
@[irreducible] noncomputable def F_law : List D → FO := mkF [false] 3 B_law
structure Fx (K : PySem.W.Frag) (mg : Str → Option Value) : Prop where
  z_abs : mg "abs" = none
  z_all : mg "all" = none
  z_bool : mg "bool" = none
  z_int : mg "int" = none
  z_isinstance : mg "isinstance" = none
  z_len : mg "len" = none
  z_list : mg "list" = none
  z_max : mg "max" = none
  z_min : mg "min" = none
  z_range : mg "range" = none
  z_repr : mg "repr" = none
  z_sorted : mg "sorted" = none
  z_str : mg "str" = none
  z_sum : mg "sum" = none
  z_tuple : mg "tuple" = none
  z_zip : mg "zip" = none
  c_MOST_SIGNS : ∃ t, mg "MOST_SIGNS" = some (.int 8 t)
  c_LETTERS : ∃ t, mg "LETTERS" = some (.str "abcdefghijklmnopqrstuvwxyz" t)
  c_FIGURES : ∃ t, mg "FIGURES" = some (.str "0123456789" t)
  c_MOST_KINDS : ∃ t, mg "MOST_KINDS" = some (.int 12 t)
  c_MOST_LIMIT : ∃ t, mg "MOST_LIMIT" = some (.int 10000 t)
  c_MOST_GONE : ∃ t, mg "MOST_GONE" = some (.int 9999 t)
  c_DAYS : ∃ t, mg "DAYS" = some (.int 7 t)
  c_ANY : ∃ t, mg "ANY" = some (.str "any" t)
  c_PLAIN : ∃ t, mg "PLAIN" = some (.str "plain" t)
  c_FEAST : ∃ t, mg "FEAST" = some (.str "feast" t)
  c_EVE : ∃ t, mg "EVE" = some (.str "eve" t)
  c_MOST_HOURS : ∃ t, mg "MOST_HOURS" = some (.int 24 t)
  c_MOST_ROWS : ∃ t, mg "MOST_ROWS" = some (.int 12 t)
  c_LAST_TICK : ∃ t, mg "LAST_TICK" = some (.int 9999 t)
  c_MOST_FEASTS : ∃ t, mg "MOST_FEASTS" = some (.int 400 t)
  c_LAST_DAY : ∃ t, mg "LAST_DAY" = some (.int 10000 t)
  c_FREE : ∃ t, mg "FREE" = some (.str "free" t)
  c_BARRED : ∃ t, mg "BARRED" = some (.str "barred" t)
  c_MOST_DAYS : ∃ t, mg "MOST_DAYS" = some (.int 60 t)
section
variable [TabC]
variable {P : Program} {w : World} {K : PySem.W.Frag} {mg : Str → Option Value} {base : Heap} {f : Addr} {kV doc pm cdv ct : Value} {an : Option Addr}
theorem cal__law_cells (fx : Fx K mg) (Fn : Fun K "_law_cells" "_law_cells" st__law_cells f (PySem.W.fnOf "_law_cells" "_law_cells" (defArgs st__law_cells) (defBody st__law_cells) (defScope st__law_cells) .none kV doc pm an cdv ct)) (hm : mg "_law_cells" = some (.ref f)) :
    CalF P w K mg base 1 "_law_cells" st__law_cells ["script", "most"] [false, false] false F__law_cells := by
  unfold F__law_cells
  refine cal0 (N := ["script", "most"]) Fn hm ⟨rfl, rfl, rfl, by decide +kernel, rfl, by decide +kernel, by decide +kernel⟩ rfl rfl (fun _ _ _ _ _ _ us hl => match us, hl with | [_, _], _ => rfl) fun cdv A outer s H E Z hz hr hgd => ?_
  obtain ⟨hz, hpw⟩ := hz
  have hio : ∀ i, i ∉ posT [false, false] 0 → i ∉ Z.ios := by rw [hz]; exact fun _ h => h
  have nd : (["script", "most"] : List Str).Nodup := by decide
  exact s_one (s_ret (e_om (e_lrg1 rfl rfl fx.z_list rfl fx.z_range (e_max2 rfl rfl fx.z_max (e_int) (e_min2 rfl rfl fx.z_min (e_vr (pv 1)) (e_len rfl fx.z_len (e_q (e_vr (pv 0)))))))))
theorem cal__law_pot (fx : Fx K mg) (Fn : Fun K "_law_pot" "_law_pot" st__law_pot f (PySem.W.fnOf "_law_pot" "_law_pot" (defArgs st__law_pot) (defBody st__law_pot) (defScope st__law_pot) .none kV doc pm an cdv ct)) (hm : mg "_law_pot" = some (.ref f)) :
    CalF P w K mg base 1 "_law_pot" st__law_pot ["script", "place"] [false, false] true F__law_pot := by
  unfold F__law_pot
  refine cal0o (N := ["script", "place", "cell", "own", "small"]) Fn hm ⟨rfl, rfl, rfl, by decide +kernel, rfl, by decide +kernel, by decide +kernel⟩ rfl rfl (fun _ _ _ _ _ _ us hl => match us, hl with | [_, _], _ => rfl) fun cdv A outer s H E Z hz hr hgd => ?_
  obtain ⟨hz, hpw⟩ := hz
  have hio : ∀ i, i ∉ posT [false, false] 0 → i ∉ Z.ios := by rw [hz]; exact fun _ h => h
  have nd : (["script", "place", "cell", "own", "small"] : List Str).Nodup := by decide
  exact s_cons (s_set (i := 2) nd rfl (.inl rfl) (hio 2 (by decide)) (e_ite (c_cmp o_lt b_lt (e_vr (pv 1)) (e_q (e_len rfl fx.z_len (e_q (e_vr (pv 0))))) rfl) (e_ix (hu66 hr) (e_vr (pv 0)) (e_vr (pv 1))) (e_lk (e_add (e_lk (e_add (e_mod (e_sum rfl rfl fx.z_sum (e_q (e_lk (e_sl (e_vr (pv 0)) po_0 (po_1 (e_int)))))) (e_int)) (e_q (e_mul (e_int) (e_vr (pv 1)))))) (e_q (e_int)))))) (s_cons (s_set (i := 3) nd rfl (.inl rfl) (hio 3 (by decide)) (e_mul (e_mod (e_int1 rfl fx.z_int (e_abs rfl fx.z_abs (e_vr (pv 2)))) (e_pow (e_pow (e_int) (e_int)) (e_int))) (e_int1 rfl fx.z_int (e_cmp op_ge b_ge (e_abs rfl fx.z_abs (e_vr (pv 2))) (e_q (e_pow (e_int) (e_int))) rfl)))) (s_cons (s_set (i := 4) nd rfl (.inl rfl) (hio 4 (by decide)) (e_mod (e_int1 rfl fx.z_int (e_vr (pv 2))) (e_int))) (s_one (s_retO (e_lst (a_cons (e_vr (pv 3)) (a_cons (e_mod (e_int1 rfl fx.z_int (e_lk (e_add (e_lk (e_add (e_mul (e_vr (pv 4)) (e_int)) (e_q (e_mul (e_mul (e_int) (e_vr (pv 1))) (e_vr (pv 1)))))) (e_q (e_int))))) (e_int)) (a_cons (e_int) (a_nil)))))))))
theorem cal__law_take (fx : Fx K mg) (Fn : Fun K "_law_take" "_law_take" st__law_take f (PySem.W.fnOf "_law_take" "_law_take" (defArgs st__law_take) (defBody st__law_take) (defScope st__law_take) .none kV doc pm an cdv ct)) (hm : mg "_law_take" = some (.ref f)) :
    CalF P w K mg base 1 "_law_take" st__law_take ["pot", "upto"] [true, false] false F__law_take := by
  unfold F__law_take
  refine cal0 (N := ["pot", "upto", "digit", "prime", "blend"]) Fn hm ⟨rfl, rfl, rfl, by decide +kernel, rfl, by decide +kernel, by decide +kernel⟩ rfl rfl (fun _ _ _ _ _ _ us hl => match us, hl with | [_, _], _ => rfl) fun cdv A outer s H E Z hz hr hgd => ?_
  obtain ⟨hz, hpw⟩ := hz
  have hio : ∀ i, i ∉ posT [true, false] 0 → i ∉ Z.ios := by rw [hz]; exact fun _ h => h
  have nd : (["pot", "upto", "digit", "prime", "blend"] : List Str).Nodup := by decide
  exact s_cons (s_if (c_cmp op_gt b_gt (e_ixL (hu66 hr) (pv 0) (e_int)) (e_q (e_int)) rfl) (s_cons (s_set (i := 2) nd rfl (.inl rfl) (hio 2 (by decide)) (e_mod (e_int1 rfl fx.z_int (e_ixL (hu66 hr) (pv 0) (e_int))) (e_vr (pv 1)))) (s_cons (s_setIx (pv 0) (e_int) (e_div (e_ixL (hu66 hr) (pv 0) (e_int)) (e_vr (pv 1)))) (s_one (s_ret (e_vr (pv 2)))))) (s_nil)) (s_cons (s_setIx (pv 0) (e_int) (e_lk (e_add (e_ixL (hu66 hr) (pv 0) (e_int)) (e_q (e_int))))) (s_cons (s_set (i := 3) nd rfl (.inl rfl) (hio 3 (by decide)) (e_ix (hu66 hr) (e_om (e_lst (a_cons (e_int) (a_cons (e_int) (a_cons (e_int) (a_cons (e_int) (a_cons (e_int) (a_nil)))))))) (e_mod (e_int1 rfl fx.z_int (e_ixL (hu66 hr) (pv 0) (e_int))) (e_int)))) (s_cons (s_set (i := 4) nd rfl (.inl rfl) (hio 4 (by decide)) (e_mod (e_int1 rfl fx.z_int (e_pow (e_int1 rfl fx.z_int (e_lk (e_add (e_lk (e_add (e_ixL (hu66 hr) (pv 0) (e_int)) (e_q (e_mul (e_mul (e_int) (e_ixL (hu66 hr) (pv 0) (e_int))) (e_ixL (hu66 hr) (pv 0) (e_int)))))) (e_q (e_int))))) (e_int))) (e_vr (pv 3)))) (s_cons (s_set (i := 4) nd rfl (.inl rfl) (hio 4 (by decide)) (e_mod (e_int1 rfl fx.z_int (e_mul (e_vr (pv 4)) (e_lk (e_add (e_mod (e_int1 rfl fx.z_int (e_vr (pv 4))) (e_int)) (e_q (e_mul (e_int) (e_ixL (hu66 hr) (pv 0) (e_int)))))))) (e_int))) (s_one (s_ret (e_mod (e_int1 rfl fx.z_int (e_div (e_vr (pv 4)) (e_int))) (e_vr (pv 1)))))))))
theorem cal__law_told (fx : Fx K mg) (Fn : Fun K "_law_told" "_law_told" st__law_told f (PySem.W.fnOf "_law_told" "_law_told" (defArgs st__law_told) (defBody st__law_told) (defScope st__law_told) .none kV doc pm an cdv ct)) (hm : mg "_law_told" = some (.ref f)) :
    CalF P w K mg base 1 "_law_told" st__law_told ["sign", "kind", "tick", "feasts"] [false, false, false, false] false F__law_told := by
  unfold F__law_told
  refine cal0 (N := ["sign", "kind", "tick", "feasts", "hours", "rows", "at", "begin", "end", "days", "kinds", "word", "ago", "day", "fits"]) Fn hm ⟨rfl, rfl, rfl, by decide +kernel, rfl, by decide +kernel, by decide +kernel⟩ rfl rfl (fun _ _ _ _ _ _ us hl => match us, hl with | [_, _, _, _], _ => rfl) fun cdv A outer s H E Z hz hr hgd => ?_
  obtain ⟨hz, hpw⟩ := hz
  have hio : ∀ i, i ∉ posT [false, false, false, false] 0 → i ∉ Z.ios := by rw [hz]; exact fun _ h => h
  have nd : (["sign", "kind", "tick", "feasts", "hours", "rows", "at", "begin", "end", "days", "kinds", "word", "ago", "day", "fits"] : List Str).Nodup := by decide
  exact s_cons (s_tup (pg_seq rfl (pgs_cons (pg_name (i := 4) nd rfl (.inl rfl)) (pgs_cons (pg_name (i := 5) nd rfl (.inl rfl)) (pgs_nil)))) (by intro i hi; exact hio i (by revert i; decide)) (e_vr (pv 0))) (s_cons (s_for pNever rfl (i_any (e_om (e_rev (e_q (e_om (e_lrg1 rfl rfl fx.z_list rfl fx.z_range (e_len rfl fx.z_len (e_q (e_vr (pv 5)))))))))) (pg_name (i := 6) nd rfl (.inl rfl)) (tg_n (hio 6 (by decide))) (s_cons (s_tup (pg_seq rfl (pgs_cons (pg_name (i := 7) nd rfl (.inl rfl)) (pgs_cons (pg_name (i := 8) nd rfl (.inl rfl)) (pgs_cons (pg_name (i := 9) nd rfl (.inl rfl)) (pgs_cons (pg_name (i := 10) nd rfl (.inl rfl)) (pgs_cons (pg_name (i := 11) nd rfl (.inl rfl)) (pgs_nil))))))) (by intro i hi; exact hio i (by revert i; decide)) (e_ix (hu66 hr) (e_vr (pv 5)) (e_vr (pv 6)))) (s_cons (s_set (i := 12) nd rfl (.inl rfl) (hio 12 (by decide)) (e_ite (c_cmp (o_eq (hu64 hr)) b_eq (e_vr (pv 7)) (e_q (e_vr (pv 8))) rfl) (e_int) (e_mod (e_sub (e_vr (pv 2)) (e_vr (pv 7))) (e_mul (e_int) (e_vr (pv 4)))))) (s_cons (s_if (PW.pt (w_or (PW.pt (w_and (c_cmp (o_ne (hu64 hr)) b_ne (e_vr (pv 7)) (e_q (e_vr (pv 8))) rfl) (w_1a (c_cmp op_ge b_ge (e_vr (pv 12)) (e_q (e_mod (e_sub (e_vr (pv 8)) (e_vr (pv 7))) (e_mul (e_int) (e_vr (pv 4))))) rfl)))) (w_1o (PW.pt (w_and (c_cmp (o_ne (hu64 hr)) b_ne (e_vr (pv 10)) (e_q (e_tup (a_nil))) rfl) (w_1a (c_cmp (o_ninA (hu66 hr)) b_nin (e_vr (pv 1)) (e_q (e_vr (pv 10))) rfl))))))) (s_one (s_cont)) (s_nil)) (s_cons (s_set (i := 13) nd rfl (.inl rfl) (hio 13 (by decide)) (e_div (e_sub (e_vr (pv 2)) (e_vr (pv 12))) (e_vr (pv 4)))) (s_cons (s_set (i := 14) nd rfl (.inl rfl) (hio 14 (by decide)) (e_om (e_dsp (p_cons (fun _ => e_str) (fun _ => e_bl) (p_cons (fun _ => e_str) (fun _ => e_cmp (o_ninA (hu66 hr)) b_nin (e_vr (pv 13)) (e_q (e_vr (pv 3))) rfl) (p_cons (fun _ => e_str) (fun _ => e_cmp (o_inA (hu66 hr)) b_in (e_vr (pv 13)) (e_q (e_vr (pv 3))) rfl) (p_cons (fun _ => e_str) (fun _ => e_cmp (o_inA (hu66 hr)) b_in (e_lk (e_add (e_vr (pv 13)) (e_q (e_int)))) (e_q (e_vr (pv 3))) rfl) (p_nil)))))))) (s_one (s_if (c_tru (e_q (e_ix (hu66 hr) (e_vr (pv 14)) (e_vr (pv 9)))) (fun _ => rfl)) (s_one (s_ret (e_tup (a_cons (e_vr (pv 11)) (a_cons (e_int1 rfl fx.z_int (e_vr (pv 6))) (a_nil)))))) (s_nil))))))))) (s_one (s_ret (e_tup (a_cons (e_str) (a_cons (e_non) (a_nil)))))))
theorem cal__law_exposed (fx : Fx K mg) (c__law_told : CalF P w K mg base 1 "_law_told" st__law_told ["sign", "kind", "tick", "feasts"] [false, false, false, false] false F__law_told) (Fn : Fun K "_law_exposed" "_law_exposed" st__law_exposed f (PySem.W.fnOf "_law_exposed" "_law_exposed" (defArgs st__law_exposed) (defBody st__law_exposed) (defScope st__law_exposed) .none kV doc pm an cdv ct)) (hm : mg "_law_exposed" = some (.ref f)) :
    CalF P w K mg base 2 "_law_exposed" st__law_exposed ["old", "new", "tick", "kind", "feasts", "ends"] [false, false, false, false, false, false] false F__law_exposed := by
  unfold F__law_exposed
  refine cal0 (N := ["old", "new", "tick", "kind", "feasts", "ends", "bar", "begin"]) Fn hm ⟨rfl, rfl, rfl, by decide +kernel, rfl, by decide +kernel, by decide +kernel⟩ rfl rfl (fun _ _ _ _ _ _ us hl => match us, hl with | [_, _, _, _, _, _], _ => rfl) fun cdv A outer s H E Z hz hr hgd => ?_
  obtain ⟨hz, hpw⟩ := hz
  have hio : ∀ i, i ∉ posT [false, false, false, false, false, false] 0 → i ∉ Z.ios := by rw [hz]; exact fun _ h => h
  have nd : (["old", "new", "tick", "kind", "feasts", "ends", "bar", "begin"] : List Str).Nodup := by decide
  exact s_cons (s_set (i := 6) nd rfl (.inr rfl) (hio 6 (by decide)) (e_vr (pv 2))) (s_cons (s_whl pNever (PW.pt (w_and (c_cmp o_lt b_lt (e_vr (pv 6)) (e_q (e_lk (e_add (e_vr (pv 2)) (e_q (e_mul (e_int) (e_ix (hu66 hr) (e_vr (pv 0)) (e_int))))))) rfl) (w_1a (c_cmp (o_ne (hu64 hr)) b_ne (e_ix (hu66 hr) (d_call c__law_told hr hgd (g_v (e_vr (pv 1)) (g_v (e_vr (pv 3)) (g_v (e_vr (pv 6)) (g_v (e_vr (pv 4)) (g_nil)))))) (e_int)) (e_q (e_str)) rfl)))) (s_one (s_set (i := 6) nd rfl (.inr rfl) (hio 6 (by decide)) (e_lk (e_add (e_vr (pv 6)) (e_q (e_int))))))) (s_one (s_ret (e_om (e_lc rfl nd (i_rg1 rfl fx.z_range (a_cons (e_vr (pv 2)) (a_nil))) (own := [("begin", 7)]) (is := [7]) rfl rfl (by decide) (by rw [hz]; decide) (fun _ _ => tw_n (hio 7 (by decide))) (fun _ _ _ _ _ => pg_name (i := 7) nd rfl (by first | exact .inl rfl | exact .inr rfl)) (fun _ _ _ _ _ => k_one fun _ _ => PW.pt (w_and (c_cmp op_gt b_gt (e_ix (hu66 hr) (e_vr (pv 5)) (e_vr (pv 7))) (e_q (e_vr (pv 6))) rfl) (w_1a (c_cmp o_lt b_lt (e_vr (pv 6)) (e_q (e_lk (e_add (e_vr (pv 2)) (e_q (e_mul (e_int) (e_ix (hu66 hr) (e_vr (pv 0)) (e_int))))))) rfl)))) (fun _ _ _ _ _ _ _ => e_vr (pv 7)))))))
theorem cal__law_of (fx : Fx K mg) (c__law_take : CalF P w K mg base 1 "_law_take" st__law_take ["pot", "upto"] [true, false] false F__law_take) (Fn : Fun K "_law_of" "_law_of" st__law_of f (PySem.W.fnOf "_law_of" "_law_of" (defArgs st__law_of) (defBody st__law_of) (defScope st__law_of) .none kV doc pm an cdv ct)) (hm : mg "_law_of" = some (.ref f)) :
    CalF P w K mg base 2 "_law_of" st__law_of ["pot", "some"] [true, false] false F__law_of := by
  unfold F__law_of
  refine cal0 (N := ["pot", "some"]) Fn hm ⟨rfl, rfl, rfl, by decide +kernel, rfl, by decide +kernel, by decide +kernel⟩ rfl rfl (fun _ _ _ _ _ _ us hl => match us, hl with | [_, _], _ => rfl) fun cdv A outer s H E Z hz hr hgd => ?_
  obtain ⟨hz, hpw⟩ := hz
  have hio : ∀ i, i ∉ posT [true, false] 0 → i ∉ Z.ios := by rw [hz]; exact fun _ h => h
  have nd : (["pot", "some"] : List Str).Nodup := by decide
  exact s_one (s_ret (e_ix (hu66 hr) (e_vr (pv 1)) (d_call c__law_take hr hgd (g_io (pv 0) (g_v (e_len rfl fx.z_len (e_q (e_vr (pv 1)))) (g_nil))))))
theorem cal__law_answer (fx : Fx K mg) (c__law_take : CalF P w K mg base 1 "_law_take" st__law_take ["pot", "upto"] [true, false] false F__law_take) (c__law_of : CalF P w K mg base 2 "_law_of" st__law_of ["pot", "some"] [true, false] false F__law_of) (Fn : Fun K "_law_answer" "_law_answer" st__law_answer f (PySem.W.fnOf "_law_answer" "_law_answer" (defArgs st__law_answer) (defBody st__law_answer) (defScope st__law_answer) .none kV doc pm an cdv ct)) (hm : mg "_law_answer" = some (.ref f)) :
    CalF P w K mg base 3 "_law_answer" st__law_answer ["pot"] [true] false F__law_answer := by
  unfold F__law_answer
  refine cal0 (N := ["pot", "bound"]) Fn hm ⟨rfl, rfl, rfl, by decide +kernel, rfl, by decide +kernel, by decide +kernel⟩ rfl rfl (fun _ _ _ _ _ _ us hl => match us, hl with | [_], _ => rfl) fun cdv A outer s H E Z hz hr hgd => ?_
  obtain ⟨hz, hpw⟩ := hz
  have hio : ∀ i, i ∉ posT [true] 0 → i ∉ Z.ios := by rw [hz]; exact fun _ h => h
  have nd : (["pot", "bound"] : List Str).Nodup := by decide
  exact s_cons (s_set (i := 1) nd rfl (.inl rfl) (hio 1 (by decide)) (e_tup (a_cons (e_int1 rfl fx.z_int (e_lk (e_add (e_int) (e_q (d_call c__law_take hr hgd (g_io (pv 0) (g_v (e_int) (g_nil)))))))) (a_cons (e_int1 rfl fx.z_int (e_lk (e_add (e_int) (e_q (d_call c__law_take hr hgd (g_io (pv 0) (g_v (e_int) (g_nil)))))))) (a_nil))))) (s_one (s_ret (d_call c__law_of hr hgd (g_io (pv 0) (g_v (e_om (e_lst (a_cons (e_str) (a_cons (e_str) (a_cons (e_str) (a_cons (e_str) (a_cons (e_tup (a_cons (e_int) (a_cons (e_int) (a_nil)))) (a_cons (e_vr (pv 1)) (a_nil))))))))) (g_nil))))))
theorem cal__law_row (fx : Fx K mg) (c__law_take : CalF P w K mg base 1 "_law_take" st__law_take ["pot", "upto"] [true, false] false F__law_take) (c__law_of : CalF P w K mg base 2 "_law_of" st__law_of ["pot", "some"] [true, false] false F__law_of) (c__law_answer : CalF P w K mg base 3 "_law_answer" st__law_answer ["pot"] [true] false F__law_answer) (Fn : Fun K "_law_row" "_law_row" st__law_row f (PySem.W.fnOf "_law_row" "_law_row" (defArgs st__law_row) (defBody st__law_row) (defScope st__law_row) .none kV doc pm an cdv ct)) (hm : mg "_law_row" = some (.ref f)) :
    CalF P w K mg base 4 "_law_row" st__law_row ["pot", "hours"] [true, false] false F__law_row := by
  unfold F__law_row
  refine cal0 (N := ["pot", "hours", "begin", "length", "days", "kinds"]) Fn hm ⟨rfl, rfl, rfl, by decide +kernel, rfl, by decide +kernel, by decide +kernel⟩ rfl rfl (fun _ _ _ _ _ _ us hl => match us, hl with | [_, _], _ => rfl) fun cdv A outer s H E Z hz hr hgd => ?_
  obtain ⟨hz, hpw⟩ := hz
  have hio : ∀ i, i ∉ posT [true, false] 0 → i ∉ Z.ios := by rw [hz]; exact fun _ h => h
  have nd : (["pot", "hours", "begin", "length", "days", "kinds"] : List Str).Nodup := by decide
  exact s_cons (s_par (xs := ["begin", "length"]) rfl nd rfl (by intro i hi; exact hio i (by revert i; decide)) (e_tup (a_cons (d_call c__law_take hr hgd (g_io (pv 0) (g_v (e_mul (e_int) (e_vr (pv 1))) (g_nil)))) (a_cons (d_call c__law_of hr hgd (g_io (pv 0) (g_v (e_om (e_lst (a_cons (e_int) (a_cons (e_int) (a_cons (e_vr (pv 1)) (a_cons (e_lk (e_add (e_int) (e_q (d_call c__law_take hr hgd (g_io (pv 0) (g_v (e_vr (pv 1)) (g_nil))))))) (a_nil))))))) (g_nil)))) (a_nil))))) (s_cons (s_set (i := 4) nd rfl (.inl rfl) (hio 4 (by decide)) (d_call c__law_of hr hgd (g_io (pv 0) (g_v (e_om (e_lst (a_cons (e_str) (a_cons (e_str) (a_cons (e_str) (a_cons (e_str) (a_cons (e_str) (a_nil)))))))) (g_nil))))) (s_cons (s_set (i := 5) nd rfl (.inl rfl) (hio 5 (by decide)) (d_call c__law_of hr hgd (g_io (pv 0) (g_v (e_om (e_lst (a_cons (e_tup (a_nil)) (a_cons (e_tup (a_nil)) (a_cons (e_tup (a_cons (e_str) (a_nil))) (a_cons (e_tup (a_cons (e_str) (a_cons (e_str) (a_nil)))) (a_nil))))))) (g_nil))))) (s_one (s_ret (e_tup (a_cons (e_int1 rfl fx.z_int (e_vr (pv 2))) (a_cons (e_int1 rfl fx.z_int (e_mod (e_lk (e_add (e_vr (pv 2)) (e_q (e_vr (pv 3))))) (e_mul (e_int) (e_vr (pv 1))))) (a_cons (e_vr (pv 4)) (a_cons (e_vr (pv 5)) (a_cons (d_call c__law_answer hr hgd (g_io (pv 0) (g_nil))) (a_nil)))))))))))
theorem cal__law_sign (fx : Fx K mg) (c__law_take : CalF P w K mg base 1 "_law_take" st__law_take ["pot", "upto"] [true, false] false F__law_take) (c__law_row : CalF P w K mg base 4 "_law_row" st__law_row ["pot", "hours"] [true, false] false F__law_row) (Fn : Fun K "_law_sign" "_law_sign" st__law_sign f (PySem.W.fnOf "_law_sign" "_law_sign" (defArgs st__law_sign) (defBody st__law_sign) (defScope st__law_sign) .none kV doc pm an cdv ct)) (hm : mg "_law_sign" = some (.ref f)) :
    CalF P w K mg base 5 "_law_sign" st__law_sign ["pot", "hours", "most"] [true, false, false] false F__law_sign := by
  unfold F__law_sign
  refine cal0 (N := ["pot", "hours", "most", "lap"]) Fn hm ⟨rfl, rfl, rfl, by decide +kernel, rfl, by decide +kernel, by decide +kernel⟩ rfl rfl (fun _ _ _ _ _ _ us hl => match us, hl with | [_, _, _], _ => rfl) fun cdv A outer s H E Z hz hr hgd => ?_
  obtain ⟨hz, hpw⟩ := hz
  have hio : ∀ i, i ∉ posT [true, false, false] 0 → i ∉ Z.ios := by rw [hz]; exact fun _ h => h
  have nd : (["pot", "hours", "most", "lap"] : List Str).Nodup := by decide
  exact s_one (s_ret (e_tup (a_cons (e_int1 rfl fx.z_int (e_vr (pv 1))) (a_cons (e_tuple rfl fx.z_tuple (e_q (e_om (e_lc rfl nd (i_rg1 rfl fx.z_range (a_cons (d_call c__law_take hr hgd (g_io (pv 0) (g_v (e_lk (e_add (e_vr (pv 2)) (e_q (e_int)))) (g_nil)))) (a_nil))) (own := [("lap", 3)]) (is := [3]) rfl rfl (by decide) (by rw [hz]; decide) (fun _ _ => tw_n (hio 3 (by decide))) (fun _ _ _ _ _ => pg_name (i := 3) nd rfl (by first | exact .inl rfl | exact .inr rfl)) (fun _ _ _ _ _ => k_nil) (fun _ _ _ _ _ _ _ => d_call c__law_row hr hgd (g_io (pv 0) (g_v (e_vr (pv 1)) (g_nil)))))))) (a_nil)))))
theorem cal__law_feasts (fx : Fx K mg) (c__law_take : CalF P w K mg base 1 "_law_take" st__law_take ["pot", "upto"] [true, false] false F__law_take) (Fn : Fun K "_law_feasts" "_law_feasts" st__law_feasts f (PySem.W.fnOf "_law_feasts" "_law_feasts" (defArgs st__law_feasts) (defBody st__law_feasts) (defScope st__law_feasts) .none kV doc pm an cdv ct)) (hm : mg "_law_feasts" = some (.ref f)) :
    CalF P w K mg base 2 "_law_feasts" st__law_feasts ["pot", "days"] [true, false] false F__law_feasts := by
  unfold F__law_feasts
  refine cal0 (N := ["pot", "days", "day"]) Fn hm ⟨rfl, rfl, rfl, by decide +kernel, rfl, by decide +kernel, by decide +kernel⟩ rfl rfl (fun _ _ _ _ _ _ us hl => match us, hl with | [_, _], _ => rfl) fun cdv A outer s H E Z hz hr hgd => ?_
  obtain ⟨hz, hpw⟩ := hz
  have hio : ∀ i, i ∉ posT [true, false] 0 → i ∉ Z.ios := by rw [hz]; exact fun _ h => h
  have nd : (["pot", "days", "day"] : List Str).Nodup := by decide
  exact s_one (s_ret (e_tuple rfl fx.z_tuple (e_q (e_om (e_lc rfl nd (i_rg1 rfl fx.z_range (a_cons (e_vr (pv 1)) (a_nil))) (own := [("day", 2)]) (is := [2]) rfl rfl (by decide) (by rw [hz]; decide) (fun _ _ => tw_n (hio 2 (by decide))) (fun _ _ _ _ _ => pg_name (i := 2) nd rfl (by first | exact .inl rfl | exact .inr rfl)) (fun _ _ _ _ _ => k_one fun _ _ => c_cmp (o_eq (hu64 hr)) b_eq (d_call c__law_take hr hgd (g_io (pv 0) (g_v (e_int) (g_nil)))) (e_q (e_int)) rfl) (fun _ _ _ _ _ _ _ => e_int1 rfl fx.z_int (e_vr (pv 2))))))))
theorem cal__law_end (fx : Fx K mg) (c__law_told : CalF P w K mg base 1 "_law_told" st__law_told ["sign", "kind", "tick", "feasts"] [false, false, false, false] false F__law_told) (Fn : Fun K "_law_end" "_law_end" st__law_end f (PySem.W.fnOf "_law_end" "_law_end" (defArgs st__law_end) (defBody st__law_end) (defScope st__law_end) .none kV doc pm an cdv ct)) (hm : mg "_law_end" = some (.ref f)) :
    CalF P w K mg base 2 "_law_end" st__law_end ["old", "kind", "begin", "feasts"] [false, false, false, false] false F__law_end := by
  unfold F__law_end
  refine cal0 (N := ["old", "kind", "begin", "feasts", "word", "end", "week", "last"]) Fn hm ⟨rfl, rfl, rfl, by decide +kernel, rfl, by decide +kernel, by decide +kernel⟩ rfl rfl (fun _ _ _ _ _ _ us hl => match us, hl with | [_, _, _, _], _ => rfl) fun cdv A outer s H E Z hz hr hgd => ?_
  obtain ⟨hz, hpw⟩ := hz
  have hio : ∀ i, i ∉ posT [false, false, false, false] 0 → i ∉ Z.ios := by rw [hz]; exact fun _ h => h
  have nd : (["old", "kind", "begin", "feasts", "word", "end", "week", "last"] : List Str).Nodup := by decide
  exact s_cons (s_par (xs := ["word", "end", "week"]) rfl nd rfl (by intro i hi; exact hio i (by revert i; decide)) (e_tup (a_cons (e_ix (hu66 hr) (d_call c__law_told hr hgd (g_v (e_vr (pv 0)) (g_v (e_vr (pv 1)) (g_v (e_vr (pv 2)) (g_v (e_vr (pv 3)) (g_nil)))))) (e_int)) (a_cons (e_vr (pv 2)) (a_cons (e_mul (e_int) (e_ix (hu66 hr) (e_vr (pv 0)) (e_int))) (a_nil)))))) (s_cons (s_set (i := 7) nd rfl (.inl rfl) (hio 7 (by decide)) (e_lk (e_add (e_vr (pv 2)) (e_q (e_mul (e_int) (e_vr (pv 6))))))) (s_cons (s_if (c_tru (e_q (e_isi (T := "tuple") (by decide) ZZ.boot_tuple rfl fx.z_tuple rfl fx.z_isinstance (e_q (e_vr (pv 4))))) (fun _ => rfl)) (s_one (s_set (i := 7) nd rfl (.inl rfl) (hio 7 (by decide)) (e_min2 rfl rfl fx.z_min (e_vr (pv 7)) (e_lk (e_add (e_vr (pv 2)) (e_q (e_ix (hu66 hr) (e_vr (pv 4)) (e_int)))))))) (s_nil)) (s_cons (s_whl pNever (PW.pt (w_and (c_cmp o_lt b_lt (e_vr (pv 5)) (e_q (e_vr (pv 7))) rfl) (w_1a (c_cmp (o_ne (hu64 hr)) b_ne (e_ix (hu66 hr) (d_call c__law_told hr hgd (g_v (e_vr (pv 0)) (g_v (e_vr (pv 1)) (g_v (e_vr (pv 5)) (g_v (e_vr (pv 3)) (g_nil)))))) (e_int)) (e_q (e_str)) rfl)))) (s_one (s_set (i := 5) nd rfl (.inl rfl) (hio 5 (by decide)) (e_lk (e_add (e_vr (pv 5)) (e_q (e_int))))))) (s_one (s_ret (e_int1 rfl fx.z_int (e_vr (pv 5))))))))
theorem cal_is_integer (fx : Fx K mg) (Fn : Fun K "is_integer" "is_integer" st_is_integer f (PySem.W.fnOf "is_integer" "is_integer" (defArgs st_is_integer) (defBody st_is_integer) (defScope st_is_integer) .none kV doc pm an cdv ct)) (hm : mg "is_integer" = some (.ref f)) :
    CalF P w K mg base 1 "is_integer" st_is_integer ["value"] [false] false F_is_integer := by
  unfold F_is_integer
  refine cal0 (N := ["value"]) Fn hm ⟨rfl, rfl, rfl, by decide +kernel, rfl, by decide +kernel, by decide +kernel⟩ rfl rfl (fun _ _ _ _ _ _ us hl => match us, hl with | [_], _ => rfl) fun cdv A outer s H E Z hz hr hgd => ?_
  obtain ⟨hz, hpw⟩ := hz
  have hio : ∀ i, i ∉ posT [false] 0 → i ∉ Z.ios := by rw [hz]; exact fun _ h => h
  have nd : (["value"] : List Str).Nodup := by decide
  exact s_one (s_ret (v_and (e_isi (T := "int") (by decide) ZZ.boot_int rfl fx.z_int rfl fx.z_isinstance (e_q (e_vr (pv 0)))) (v_1 (v_not (e_q (e_isi (T := "bool") (by decide) ZZ.boot_bool rfl fx.z_bool rfl fx.z_isinstance (e_q (e_vr (pv 0)))))))))
theorem cal_is_between (fx : Fx K mg) (c_is_integer : CalF P w K mg base 1 "is_integer" st_is_integer ["value"] [false] false F_is_integer) (Fn : Fun K "is_between" "is_between" st_is_between f (PySem.W.fnOf "is_between" "is_between" (defArgs st_is_between) (defBody st_is_between) (defScope st_is_between) .none kV doc pm an cdv ct)) (hm : mg "is_between" = some (.ref f)) :
    CalF P w K mg base 2 "is_between" st_is_between ["value", "low", "high"] [false, false, false] false F_is_between := by
  unfold F_is_between
  refine cal0 (N := ["value", "low", "high"]) Fn hm ⟨rfl, rfl, rfl, by decide +kernel, rfl, by decide +kernel, by decide +kernel⟩ rfl rfl (fun _ _ _ _ _ _ us hl => match us, hl with | [_, _, _], _ => rfl) fun cdv A outer s H E Z hz hr hgd => ?_
  obtain ⟨hz, hpw⟩ := hz
  have hio : ∀ i, i ∉ posT [false, false, false] 0 → i ∉ Z.ios := by rw [hz]; exact fun _ h => h
  have nd : (["value", "low", "high"] : List Str).Nodup := by decide
  exact s_one (s_ret (v_and (d_call c_is_integer hr hgd (g_v (e_vr (pv 0)) (g_nil))) (v_1 (e_chn op_le b_le op_le b_le (e_vr (pv 1)) (e_vr (pv 0)) (e_vr (pv 2))))))
theorem cal_is_ascending (fx : Fx K mg) (Fn : Fun K "is_ascending" "is_ascending" st_is_ascending f (PySem.W.fnOf "is_ascending" "is_ascending" (defArgs st_is_ascending) (defBody st_is_ascending) (defScope st_is_ascending) .none kV doc pm an cdv ct)) (hm : mg "is_ascending" = some (.ref f)) :
    CalF P w K mg base 1 "is_ascending" st_is_ascending ["items"] [false] false F_is_ascending := by
  unfold F_is_ascending
  refine cal0 (N := ["items", "one", "other"]) Fn hm ⟨rfl, rfl, rfl, by decide +kernel, rfl, by decide +kernel, by decide +kernel⟩ rfl rfl (fun _ _ _ _ _ _ us hl => match us, hl with | [_], _ => rfl) fun cdv A outer s H E Z hz hr hgd => ?_
  obtain ⟨hz, hpw⟩ := hz
  have hio : ∀ i, i ∉ posT [false] 0 → i ∉ Z.ios := by rw [hz]; exact fun _ h => h
  have nd : (["items", "one", "other"] : List Str).Nodup := by decide
  exact s_one (s_ret (e_all rfl rfl fx.z_all (e_q (e_om (e_lc rfl nd (i_zip2 rfl fx.z_zip (a_cons (e_vr (pv 0)) (a_cons (e_lk (e_sl (e_vr (pv 0)) (po_1 (e_int)) po_0)) (a_nil)))) (own := [("one", 1), ("other", 2)]) (is := [1, 2]) rfl rfl (by decide) (by rw [hz]; decide) (fun _ _ => tw_t (by intro i hi; exact hio i (by revert i; decide))) (fun _ _ _ _ _ => pg_seq rfl (pgs_cons (pg_name (i := 1) nd rfl (by first | exact .inl rfl | exact .inr rfl)) (pgs_cons (pg_name (i := 2) nd rfl (by first | exact .inl rfl | exact .inr rfl)) (pgs_nil)))) (fun _ _ _ _ _ => k_nil) (fun _ _ _ _ _ _ _ => e_cmp o_lt b_lt (e_vr (pv 1)) (e_q (e_vr (pv 2))) rfl))))))
theorem cal_is_name (fx : Fx K mg) (Fn : Fun K "is_name" "is_name" st_is_name f (PySem.W.fnOf "is_name" "is_name" (defArgs st_is_name) (defBody st_is_name) (defScope st_is_name) .none kV doc pm an cdv ct)) (hm : mg "is_name" = some (.ref f)) :
    CalF P w K mg base 1 "is_name" st_is_name ["value"] [false] false F_is_name := by
  obtain ⟨t_MOST_SIGNS, h_MOST_SIGNS⟩ := fx.c_MOST_SIGNS
  obtain ⟨t_LETTERS, h_LETTERS⟩ := fx.c_LETTERS
  obtain ⟨t_FIGURES, h_FIGURES⟩ := fx.c_FIGURES
  unfold F_is_name
  refine cal0 (N := ["value", "sign"]) Fn hm ⟨rfl, rfl, rfl, by decide +kernel, rfl, by decide +kernel, by decide +kernel⟩ rfl rfl (fun _ _ _ _ _ _ us hl => match us, hl with | [_], _ => rfl) fun cdv A outer s H E Z hz hr hgd => ?_
  obtain ⟨hz, hpw⟩ := hz
  have hio : ∀ i, i ∉ posT [false] 0 → i ∉ Z.ios := by rw [hz]; exact fun _ h => h
  have nd : (["value", "sign"] : List Str).Nodup := by decide
  exact s_cons (s_if (PW.pt (w_or (c_not (c_tru (e_q (e_isi (T := "str") (by decide) ZZ.boot_str rfl fx.z_str rfl fx.z_isinstance (e_q (e_vr (pv 0))))) (fun _ => rfl))) (w_or (c_not (c_chn op_le b_le op_le b_le (e_int) (e_len rfl fx.z_len (e_q (e_vr (pv 0)))) (e_gl (v := .int 8) rfl h_MOST_SIGNS ⟨_, rfl⟩ (fun _ => .int _)))) (w_1o (c_cmp (o_ninA (hu66 hr)) b_nin (e_ix (hu66 hr) (e_vr (pv 0)) (e_int)) (e_q (e_gl (v := .str "abcdefghijklmnopqrstuvwxyz") rfl h_LETTERS ⟨_, rfl⟩ (fun _ => .str _))) rfl))))) (s_one (s_ret (e_bl))) (s_nil)) (s_one (s_ret (e_all rfl rfl fx.z_all (e_q (e_om (e_lc rfl nd (i_any (e_vr (pv 0))) (own := [("sign", 1)]) (is := [1]) rfl rfl (by decide) (by rw [hz]; decide) (fun _ _ => tw_n (hio 1 (by decide))) (fun _ _ _ _ _ => pg_name (i := 1) nd rfl (by first | exact .inl rfl | exact .inr rfl)) (fun _ _ _ _ _ => k_nil) (fun _ _ _ _ _ _ _ => e_cmp (o_inA (hu66 hr)) b_in (e_vr (pv 1)) (e_q (e_lk (e_add (e_gl (v := .str "abcdefghijklmnopqrstuvwxyz") rfl h_LETTERS ⟨_, rfl⟩ (fun _ => .str _)) (e_q (e_gl (v := .str "0123456789") rfl h_FIGURES ⟨_, rfl⟩ (fun _ => .str _)))))) rfl)))))))
theorem cal_are_kinds (fx : Fx K mg) (c_is_name : CalF P w K mg base 1 "is_name" st_is_name ["value"] [false] false F_is_name) (c_is_ascending : CalF P w K mg base 1 "is_ascending" st_is_ascending ["items"] [false] false F_is_ascending) (Fn : Fun K "are_kinds" "are_kinds" st_are_kinds f (PySem.W.fnOf "are_kinds" "are_kinds" (defArgs st_are_kinds) (defBody st_are_kinds) (defScope st_are_kinds) .none kV doc pm an cdv ct)) (hm : mg "are_kinds" = some (.ref f)) :
    CalF P w K mg base 2 "are_kinds" st_are_kinds ["value"] [false] false F_are_kinds := by
  obtain ⟨t_MOST_KINDS, h_MOST_KINDS⟩ := fx.c_MOST_KINDS
  unfold F_are_kinds
  refine cal0 (N := ["value", "one"]) Fn hm ⟨rfl, rfl, rfl, by decide +kernel, rfl, by decide +kernel, by decide +kernel⟩ rfl rfl (fun _ _ _ _ _ _ us hl => match us, hl with | [_], _ => rfl) fun cdv A outer s H E Z hz hr hgd => ?_
  obtain ⟨hz, hpw⟩ := hz
  have hio : ∀ i, i ∉ posT [false] 0 → i ∉ Z.ios := by rw [hz]; exact fun _ h => h
  have nd : (["value", "one"] : List Str).Nodup := by decide
  exact s_cons (s_if (PW.pt (w_or (c_not (c_tru (e_q (e_isi (T := "tuple") (by decide) ZZ.boot_tuple rfl fx.z_tuple rfl fx.z_isinstance (e_q (e_vr (pv 0))))) (fun _ => rfl))) (w_1o (c_cmp op_gt b_gt (e_len rfl fx.z_len (e_q (e_vr (pv 0)))) (e_q (e_gl (v := .int 12) rfl h_MOST_KINDS ⟨_, rfl⟩ (fun _ => .int _))) rfl)))) (s_one (s_ret (e_bl))) (s_nil)) (s_one (s_ret (v_and (e_all rfl rfl fx.z_all (e_q (e_om (e_lc rfl nd (i_any (e_vr (pv 0))) (own := [("one", 1)]) (is := [1]) rfl rfl (by decide) (by rw [hz]; decide) (fun _ _ => tw_n (hio 1 (by decide))) (fun _ _ _ _ _ => pg_name (i := 1) nd rfl (by first | exact .inl rfl | exact .inr rfl)) (fun _ _ _ _ _ => k_nil) (fun _ _ _ _ _ _ _ => d_call c_is_name hr hgd (g_v (e_vr (pv 1)) (g_nil))))))) (v_1 (d_call c_is_ascending hr hgd (g_v (e_vr (pv 0)) (g_nil)))))))
theorem cal_is_bound (fx : Fx K mg) (c_is_between : CalF P w K mg base 2 "is_between" st_is_between ["value", "low", "high"] [false, false, false] false F_is_between) (Fn : Fun K "is_bound" "is_bound" st_is_bound f (PySem.W.fnOf "is_bound" "is_bound" (defArgs st_is_bound) (defBody st_is_bound) (defScope st_is_bound) .none kV doc pm an cdv ct)) (hm : mg "is_bound" = some (.ref f)) :
    CalF P w K mg base 3 "is_bound" st_is_bound ["value"] [false] false F_is_bound := by
  obtain ⟨t_MOST_LIMIT, h_MOST_LIMIT⟩ := fx.c_MOST_LIMIT
  obtain ⟨t_MOST_GONE, h_MOST_GONE⟩ := fx.c_MOST_GONE
  unfold F_is_bound
  refine cal0 (N := ["value"]) Fn hm ⟨rfl, rfl, rfl, by decide +kernel, rfl, by decide +kernel, by decide +kernel⟩ rfl rfl (fun _ _ _ _ _ _ us hl => match us, hl with | [_], _ => rfl) fun cdv A outer s H E Z hz hr hgd => ?_
  obtain ⟨hz, hpw⟩ := hz
  have hio : ∀ i, i ∉ posT [false] 0 → i ∉ Z.ios := by rw [hz]; exact fun _ h => h
  have nd : (["value"] : List Str).Nodup := by decide
  exact s_cons (s_if (PW.pt (w_or (c_not (c_tru (e_q (e_isi (T := "tuple") (by decide) ZZ.boot_tuple rfl fx.z_tuple rfl fx.z_isinstance (e_q (e_vr (pv 0))))) (fun _ => rfl))) (w_1o (c_cmp (o_ne (hu64 hr)) b_ne (e_len rfl fx.z_len (e_q (e_vr (pv 0)))) (e_q (e_int)) rfl)))) (s_one (s_ret (e_bl))) (s_nil)) (s_one (s_ret (v_and (d_call c_is_between hr hgd (g_v (e_ix (hu66 hr) (e_vr (pv 0)) (e_int)) (g_v (e_int) (g_v (e_gl (v := .int 10000) rfl h_MOST_LIMIT ⟨_, rfl⟩ (fun _ => .int _)) (g_nil))))) (v_1 (d_call c_is_between hr hgd (g_v (e_ix (hu66 hr) (e_vr (pv 0)) (e_int)) (g_v (e_int) (g_v (e_gl (v := .int 9999) rfl h_MOST_GONE ⟨_, rfl⟩ (fun _ => .int _)) (g_nil)))))))))
theorem cal_is_answer (fx : Fx K mg) (c_is_name : CalF P w K mg base 1 "is_name" st_is_name ["value"] [false] false F_is_name) (c_is_bound : CalF P w K mg base 3 "is_bound" st_is_bound ["value"] [false] false F_is_bound) (Fn : Fun K "is_answer" "is_answer" st_is_answer f (PySem.W.fnOf "is_answer" "is_answer" (defArgs st_is_answer) (defBody st_is_answer) (defScope st_is_answer) .none kV doc pm an cdv ct)) (hm : mg "is_answer" = some (.ref f)) :
    CalF P w K mg base 4 "is_answer" st_is_answer ["value"] [false] false F_is_answer := by
  unfold F_is_answer
  refine cal0 (N := ["value"]) Fn hm ⟨rfl, rfl, rfl, by decide +kernel, rfl, by decide +kernel, by decide +kernel⟩ rfl rfl (fun _ _ _ _ _ _ us hl => match us, hl with | [_], _ => rfl) fun cdv A outer s H E Z hz hr hgd => ?_
  obtain ⟨hz, hpw⟩ := hz
  have hio : ∀ i, i ∉ posT [false] 0 → i ∉ Z.ios := by rw [hz]; exact fun _ h => h
  have nd : (["value"] : List Str).Nodup := by decide
  exact s_one (s_ret (v_or (d_call c_is_name hr hgd (g_v (e_vr (pv 0)) (g_nil))) (v_1 (d_call c_is_bound hr hgd (g_v (e_vr (pv 0)) (g_nil))))))
theorem cal_is_row (fx : Fx K mg) (c_is_between : CalF P w K mg base 2 "is_between" st_is_between ["value", "low", "high"] [false, false, false] false F_is_between) (c_are_kinds : CalF P w K mg base 2 "are_kinds" st_are_kinds ["value"] [false] false F_are_kinds) (c_is_answer : CalF P w K mg base 4 "is_answer" st_is_answer ["value"] [false] false F_is_answer) (Fn : Fun K "is_row" "is_row" st_is_row f (PySem.W.fnOf "is_row" "is_row" (defArgs st_is_row) (defBody st_is_row) (defScope st_is_row) .none kV doc pm an cdv ct)) (hm : mg "is_row" = some (.ref f)) :
    CalF P w K mg base 5 "is_row" st_is_row ["hours", "value"] [false, false] false F_is_row := by
  obtain ⟨t_DAYS, h_DAYS⟩ := fx.c_DAYS
  obtain ⟨t_ANY, h_ANY⟩ := fx.c_ANY
  obtain ⟨t_PLAIN, h_PLAIN⟩ := fx.c_PLAIN
  obtain ⟨t_FEAST, h_FEAST⟩ := fx.c_FEAST
  obtain ⟨t_EVE, h_EVE⟩ := fx.c_EVE
  unfold F_is_row
  refine cal0 (N := ["hours", "value", "begin", "end", "days", "kinds", "told", "week"]) Fn hm ⟨rfl, rfl, rfl, by decide +kernel, rfl, by decide +kernel, by decide +kernel⟩ rfl rfl (fun _ _ _ _ _ _ us hl => match us, hl with | [_, _], _ => rfl) fun cdv A outer s H E Z hz hr hgd => ?_
  obtain ⟨hz, hpw⟩ := hz
  have hio : ∀ i, i ∉ posT [false, false] 0 → i ∉ Z.ios := by rw [hz]; exact fun _ h => h
  have nd : (["hours", "value", "begin", "end", "days", "kinds", "told", "week"] : List Str).Nodup := by decide
  exact s_cons (s_if (PW.pt (w_or (c_not (c_tru (e_q (e_isi (T := "tuple") (by decide) ZZ.boot_tuple rfl fx.z_tuple rfl fx.z_isinstance (e_q (e_vr (pv 1))))) (fun _ => rfl))) (w_1o (c_cmp (o_ne (hu64 hr)) b_ne (e_len rfl fx.z_len (e_q (e_vr (pv 1)))) (e_q (e_int)) rfl)))) (s_one (s_ret (e_bl))) (s_nil)) (s_cons (s_tup (pg_seq rfl (pgs_cons (pg_name (i := 2) nd rfl (.inl rfl)) (pgs_cons (pg_name (i := 3) nd rfl (.inl rfl)) (pgs_cons (pg_name (i := 4) nd rfl (.inl rfl)) (pgs_cons (pg_name (i := 5) nd rfl (.inl rfl)) (pgs_cons (pg_name (i := 6) nd rfl (.inl rfl)) (pgs_nil))))))) (by intro i hi; exact hio i (by revert i; decide)) (e_vr (pv 1))) (s_cons (s_set (i := 7) nd rfl (.inl rfl) (hio 7 (by decide)) (e_mul (e_gl (v := .int 7) rfl h_DAYS ⟨_, rfl⟩ (fun _ => .int _)) (e_vr (pv 0)))) (s_cons (s_if (PW.pt (w_or (c_not (c_tru (e_q (d_call c_is_between hr hgd (g_v (e_vr (pv 2)) (g_v (e_int) (g_v (e_sub (e_vr (pv 7)) (e_int)) (g_nil)))))) (fun _ => rfl))) (w_or (c_not (c_tru (e_q (d_call c_is_between hr hgd (g_v (e_vr (pv 3)) (g_v (e_int) (g_v (e_sub (e_vr (pv 7)) (e_int)) (g_nil)))))) (fun _ => rfl))) (w_1o (c_cmp op_gt b_gt (e_mod (e_sub (e_vr (pv 3)) (e_vr (pv 2))) (e_vr (pv 7))) (e_q (e_vr (pv 0))) rfl))))) (s_one (s_ret (e_bl))) (s_nil)) (s_cons (s_if (PW.pt (w_or (c_not (c_tru (e_q (e_isi (T := "str") (by decide) ZZ.boot_str rfl fx.z_str rfl fx.z_isinstance (e_q (e_vr (pv 4))))) (fun _ => rfl))) (w_1o (c_cmp (o_ninA (hu66 hr)) b_nin (e_vr (pv 4)) (e_q (e_tup (a_cons (e_gl (v := .str "any") rfl h_ANY ⟨_, rfl⟩ (fun _ => .str _)) (a_cons (e_gl (v := .str "plain") rfl h_PLAIN ⟨_, rfl⟩ (fun _ => .str _)) (a_cons (e_gl (v := .str "feast") rfl h_FEAST ⟨_, rfl⟩ (fun _ => .str _)) (a_cons (e_gl (v := .str "eve") rfl h_EVE ⟨_, rfl⟩ (fun _ => .str _)) (a_nil))))))) rfl)))) (s_one (s_ret (e_bl))) (s_nil)) (s_one (s_ret (v_and (d_call c_are_kinds hr hgd (g_v (e_vr (pv 5)) (g_nil))) (v_1 (d_call c_is_answer hr hgd (g_v (e_vr (pv 6)) (g_nil)))))))))))
theorem cal_is_sign (fx : Fx K mg) (c_is_between : CalF P w K mg base 2 "is_between" st_is_between ["value", "low", "high"] [false, false, false] false F_is_between) (c_is_row : CalF P w K mg base 5 "is_row" st_is_row ["hours", "value"] [false, false] false F_is_row) (Fn : Fun K "is_sign" "is_sign" st_is_sign f (PySem.W.fnOf "is_sign" "is_sign" (defArgs st_is_sign) (defBody st_is_sign) (defScope st_is_sign) .none kV doc pm an cdv ct)) (hm : mg "is_sign" = some (.ref f)) :
    CalF P w K mg base 6 "is_sign" st_is_sign ["value"] [false] false F_is_sign := by
  obtain ⟨t_MOST_HOURS, h_MOST_HOURS⟩ := fx.c_MOST_HOURS
  obtain ⟨t_MOST_ROWS, h_MOST_ROWS⟩ := fx.c_MOST_ROWS
  unfold F_is_sign
  refine cal0 (N := ["value", "hours", "rows", "row"]) Fn hm ⟨rfl, rfl, rfl, by decide +kernel, rfl, by decide +kernel, by decide +kernel⟩ rfl rfl (fun _ _ _ _ _ _ us hl => match us, hl with | [_], _ => rfl) fun cdv A outer s H E Z hz hr hgd => ?_
  obtain ⟨hz, hpw⟩ := hz
  have hio : ∀ i, i ∉ posT [false] 0 → i ∉ Z.ios := by rw [hz]; exact fun _ h => h
  have nd : (["value", "hours", "rows", "row"] : List Str).Nodup := by decide
  exact s_cons (s_if (PW.pt (w_or (c_not (c_tru (e_q (e_isi (T := "tuple") (by decide) ZZ.boot_tuple rfl fx.z_tuple rfl fx.z_isinstance (e_q (e_vr (pv 0))))) (fun _ => rfl))) (w_or (c_cmp (o_ne (hu64 hr)) b_ne (e_len rfl fx.z_len (e_q (e_vr (pv 0)))) (e_q (e_int)) rfl) (w_1o (c_not (c_tru (e_q (d_call c_is_between hr hgd (g_v (e_ix (hu66 hr) (e_vr (pv 0)) (e_int)) (g_v (e_int) (g_v (e_gl (v := .int 24) rfl h_MOST_HOURS ⟨_, rfl⟩ (fun _ => .int _)) (g_nil)))))) (fun _ => rfl))))))) (s_one (s_ret (e_bl))) (s_nil)) (s_cons (s_tup (pg_seq rfl (pgs_cons (pg_name (i := 1) nd rfl (.inr rfl)) (pgs_cons (pg_name (i := 2) nd rfl (.inl rfl)) (pgs_nil)))) (by intro i hi; exact hio i (by revert i; decide)) (e_vr (pv 0))) (s_cons (s_if (PW.pt (w_or (c_not (c_tru (e_q (e_isi (T := "tuple") (by decide) ZZ.boot_tuple rfl fx.z_tuple rfl fx.z_isinstance (e_q (e_vr (pv 2))))) (fun _ => rfl))) (w_1o (c_cmp op_gt b_gt (e_len rfl fx.z_len (e_q (e_vr (pv 2)))) (e_q (e_gl (v := .int 12) rfl h_MOST_ROWS ⟨_, rfl⟩ (fun _ => .int _))) rfl)))) (s_one (s_ret (e_bl))) (s_nil)) (s_one (s_ret (e_all rfl rfl fx.z_all (e_q (e_om (e_lc rfl nd (i_any (e_vr (pv 2))) (own := [("row", 3)]) (is := [3]) rfl rfl (by decide) (by rw [hz]; decide) (fun _ _ => tw_n (hio 3 (by decide))) (fun _ _ _ _ _ => pg_name (i := 3) nd rfl (by first | exact .inl rfl | exact .inr rfl)) (fun _ _ _ _ _ => k_nil) (fun _ _ _ _ _ _ _ => d_call c_is_row hr hgd (g_v (e_vr (pv 1)) (g_v (e_vr (pv 3)) (g_nil))))))))))))
theorem cal_check_sign (fx : Fx K mg) (c_is_sign : CalF P w K mg base 6 "is_sign" st_is_sign ["value"] [false] false F_is_sign) (Fn : Fun K "check_sign" "check_sign" st_check_sign f (PySem.W.fnOf "check_sign" "check_sign" (defArgs st_check_sign) (defBody st_check_sign) (defScope st_check_sign) .none kV doc pm an cdv ct)) (hm : mg "check_sign" = some (.ref f)) :
    CalF P w K mg base 7 "check_sign" st_check_sign ["sign"] [false] false F_check_sign := by
  unfold F_check_sign
  refine cal0 (N := ["sign"]) Fn hm ⟨rfl, rfl, rfl, by decide +kernel, rfl, by decide +kernel, by decide +kernel⟩ rfl rfl (fun _ _ _ _ _ _ us hl => match us, hl with | [_], _ => rfl) fun cdv A outer s H E Z hz hr hgd => ?_
  obtain ⟨hz, hpw⟩ := hz
  have hio : ∀ i, i ∉ posT [false] 0 → i ∉ Z.ios := by rw [hz]; exact fun _ h => h
  have nd : (["sign"] : List Str).Nodup := by decide
  exact s_one (s_if (c_not (c_tru (e_q (d_call c_is_sign hr hgd (g_v (e_vr (pv 0)) (g_nil)))) (fun _ => rfl))) (s_one (s_no)) (s_nil))
theorem cal_check_signs (fx : Fx K mg) (c_check_sign : CalF P w K mg base 7 "check_sign" st_check_sign ["sign"] [false] false F_check_sign) (Fn : Fun K "check_signs" "check_signs" st_check_signs f (PySem.W.fnOf "check_signs" "check_signs" (defArgs st_check_signs) (defBody st_check_signs) (defScope st_check_signs) .none kV doc pm an cdv ct)) (hm : mg "check_signs" = some (.ref f)) :
    CalF P w K mg base 8 "check_signs" st_check_signs ["one", "other"] [false, false] false F_check_signs := by
  unfold F_check_signs
  refine cal0 (N := ["one", "other"]) Fn hm ⟨rfl, rfl, rfl, by decide +kernel, rfl, by decide +kernel, by decide +kernel⟩ rfl rfl (fun _ _ _ _ _ _ us hl => match us, hl with | [_, _], _ => rfl) fun cdv A outer s H E Z hz hr hgd => ?_
  obtain ⟨hz, hpw⟩ := hz
  have hio : ∀ i, i ∉ posT [false, false] 0 → i ∉ Z.ios := by rw [hz]; exact fun _ h => h
  have nd : (["one", "other"] : List Str).Nodup := by decide
  exact s_cons (s_expr (d_call c_check_sign hr hgd (g_v (e_vr (pv 0)) (g_nil)))) (s_cons (s_expr (d_call c_check_sign hr hgd (g_v (e_vr (pv 1)) (g_nil)))) (s_one (s_if (c_cmp (o_ne (hu64 hr)) b_ne (e_ix (hu66 hr) (e_vr (pv 0)) (e_int)) (e_q (e_ix (hu66 hr) (e_vr (pv 1)) (e_int))) rfl) (s_one (s_no)) (s_nil))))
theorem cal_is_tick (fx : Fx K mg) (c_is_between : CalF P w K mg base 2 "is_between" st_is_between ["value", "low", "high"] [false, false, false] false F_is_between) (Fn : Fun K "is_tick" "is_tick" st_is_tick f (PySem.W.fnOf "is_tick" "is_tick" (defArgs st_is_tick) (defBody st_is_tick) (defScope st_is_tick) .none kV doc pm an cdv ct)) (hm : mg "is_tick" = some (.ref f)) :
    CalF P w K mg base 3 "is_tick" st_is_tick ["value"] [false] false F_is_tick := by
  obtain ⟨t_LAST_TICK, h_LAST_TICK⟩ := fx.c_LAST_TICK
  unfold F_is_tick
  refine cal0 (N := ["value"]) Fn hm ⟨rfl, rfl, rfl, by decide +kernel, rfl, by decide +kernel, by decide +kernel⟩ rfl rfl (fun _ _ _ _ _ _ us hl => match us, hl with | [_], _ => rfl) fun cdv A outer s H E Z hz hr hgd => ?_
  obtain ⟨hz, hpw⟩ := hz
  have hio : ∀ i, i ∉ posT [false] 0 → i ∉ Z.ios := by rw [hz]; exact fun _ h => h
  have nd : (["value"] : List Str).Nodup := by decide
  exact s_one (s_ret (d_call c_is_between hr hgd (g_v (e_vr (pv 0)) (g_v (e_int) (g_v (e_gl (v := .int 9999) rfl h_LAST_TICK ⟨_, rfl⟩ (fun _ => .int _)) (g_nil))))))
theorem cal_check_tick (fx : Fx K mg) (c_is_tick : CalF P w K mg base 3 "is_tick" st_is_tick ["value"] [false] false F_is_tick) (Fn : Fun K "check_tick" "check_tick" st_check_tick f (PySem.W.fnOf "check_tick" "check_tick" (defArgs st_check_tick) (defBody st_check_tick) (defScope st_check_tick) .none kV doc pm an cdv ct)) (hm : mg "check_tick" = some (.ref f)) :
    CalF P w K mg base 4 "check_tick" st_check_tick ["tick"] [false] false F_check_tick := by
  unfold F_check_tick
  refine cal0 (N := ["tick"]) Fn hm ⟨rfl, rfl, rfl, by decide +kernel, rfl, by decide +kernel, by decide +kernel⟩ rfl rfl (fun _ _ _ _ _ _ us hl => match us, hl with | [_], _ => rfl) fun cdv A outer s H E Z hz hr hgd => ?_
  obtain ⟨hz, hpw⟩ := hz
  have hio : ∀ i, i ∉ posT [false] 0 → i ∉ Z.ios := by rw [hz]; exact fun _ h => h
  have nd : (["tick"] : List Str).Nodup := by decide
  exact s_one (s_if (c_not (c_tru (e_q (d_call c_is_tick hr hgd (g_v (e_vr (pv 0)) (g_nil)))) (fun _ => rfl))) (s_one (s_no)) (s_nil))
theorem cal_is_kind (fx : Fx K mg) (c_is_name : CalF P w K mg base 1 "is_name" st_is_name ["value"] [false] false F_is_name) (Fn : Fun K "is_kind" "is_kind" st_is_kind f (PySem.W.fnOf "is_kind" "is_kind" (defArgs st_is_kind) (defBody st_is_kind) (defScope st_is_kind) .none kV doc pm an cdv ct)) (hm : mg "is_kind" = some (.ref f)) :
    CalF P w K mg base 2 "is_kind" st_is_kind ["value"] [false] false F_is_kind := by
  unfold F_is_kind
  refine cal0 (N := ["value"]) Fn hm ⟨rfl, rfl, rfl, by decide +kernel, rfl, by decide +kernel, by decide +kernel⟩ rfl rfl (fun _ _ _ _ _ _ us hl => match us, hl with | [_], _ => rfl) fun cdv A outer s H E Z hz hr hgd => ?_
  obtain ⟨hz, hpw⟩ := hz
  have hio : ∀ i, i ∉ posT [false] 0 → i ∉ Z.ios := by rw [hz]; exact fun _ h => h
  have nd : (["value"] : List Str).Nodup := by decide
  exact s_one (s_ret (v_or (e_isN (e_vr (pv 0))) (v_1 (d_call c_is_name hr hgd (g_v (e_vr (pv 0)) (g_nil))))))
theorem cal_check_kind (fx : Fx K mg) (c_is_kind : CalF P w K mg base 2 "is_kind" st_is_kind ["value"] [false] false F_is_kind) (Fn : Fun K "check_kind" "check_kind" st_check_kind f (PySem.W.fnOf "check_kind" "check_kind" (defArgs st_check_kind) (defBody st_check_kind) (defScope st_check_kind) .none kV doc pm an cdv ct)) (hm : mg "check_kind" = some (.ref f)) :
    CalF P w K mg base 3 "check_kind" st_check_kind ["kind"] [false] false F_check_kind := by
  unfold F_check_kind
  refine cal0 (N := ["kind"]) Fn hm ⟨rfl, rfl, rfl, by decide +kernel, rfl, by decide +kernel, by decide +kernel⟩ rfl rfl (fun _ _ _ _ _ _ us hl => match us, hl with | [_], _ => rfl) fun cdv A outer s H E Z hz hr hgd => ?_
  obtain ⟨hz, hpw⟩ := hz
  have hio : ∀ i, i ∉ posT [false] 0 → i ∉ Z.ios := by rw [hz]; exact fun _ h => h
  have nd : (["kind"] : List Str).Nodup := by decide
  exact s_one (s_if (c_not (c_tru (e_q (d_call c_is_kind hr hgd (g_v (e_vr (pv 0)) (g_nil)))) (fun _ => rfl))) (s_one (s_no)) (s_nil))
theorem cal_are_feasts (fx : Fx K mg) (c_is_between : CalF P w K mg base 2 "is_between" st_is_between ["value", "low", "high"] [false, false, false] false F_is_between) (c_is_ascending : CalF P w K mg base 1 "is_ascending" st_is_ascending ["items"] [false] false F_is_ascending) (Fn : Fun K "are_feasts" "are_feasts" st_are_feasts f (PySem.W.fnOf "are_feasts" "are_feasts" (defArgs st_are_feasts) (defBody st_are_feasts) (defScope st_are_feasts) .none kV doc pm an cdv ct)) (hm : mg "are_feasts" = some (.ref f)) :
    CalF P w K mg base 3 "are_feasts" st_are_feasts ["value"] [false] false F_are_feasts := by
  obtain ⟨t_MOST_FEASTS, h_MOST_FEASTS⟩ := fx.c_MOST_FEASTS
  obtain ⟨t_LAST_DAY, h_LAST_DAY⟩ := fx.c_LAST_DAY
  unfold F_are_feasts
  refine cal0 (N := ["value", "day"]) Fn hm ⟨rfl, rfl, rfl, by decide +kernel, rfl, by decide +kernel, by decide +kernel⟩ rfl rfl (fun _ _ _ _ _ _ us hl => match us, hl with | [_], _ => rfl) fun cdv A outer s H E Z hz hr hgd => ?_
  obtain ⟨hz, hpw⟩ := hz
  have hio : ∀ i, i ∉ posT [false] 0 → i ∉ Z.ios := by rw [hz]; exact fun _ h => h
  have nd : (["value", "day"] : List Str).Nodup := by decide
  exact s_cons (s_if (PW.pt (w_or (c_not (c_tru (e_q (e_isi (T := "tuple") (by decide) ZZ.boot_tuple rfl fx.z_tuple rfl fx.z_isinstance (e_q (e_vr (pv 0))))) (fun _ => rfl))) (w_1o (c_cmp op_gt b_gt (e_len rfl fx.z_len (e_q (e_vr (pv 0)))) (e_q (e_gl (v := .int 400) rfl h_MOST_FEASTS ⟨_, rfl⟩ (fun _ => .int _))) rfl)))) (s_one (s_ret (e_bl))) (s_nil)) (s_one (s_ret (v_and (e_all rfl rfl fx.z_all (e_q (e_om (e_lc rfl nd (i_any (e_vr (pv 0))) (own := [("day", 1)]) (is := [1]) rfl rfl (by decide) (by rw [hz]; decide) (fun _ _ => tw_n (hio 1 (by decide))) (fun _ _ _ _ _ => pg_name (i := 1) nd rfl (by first | exact .inl rfl | exact .inr rfl)) (fun _ _ _ _ _ => k_nil) (fun _ _ _ _ _ _ _ => d_call c_is_between hr hgd (g_v (e_vr (pv 1)) (g_v (e_int) (g_v (e_gl (v := .int 10000) rfl h_LAST_DAY ⟨_, rfl⟩ (fun _ => .int _)) (g_nil))))))))) (v_1 (d_call c_is_ascending hr hgd (g_v (e_vr (pv 0)) (g_nil)))))))
theorem cal_check_feasts (fx : Fx K mg) (c_are_feasts : CalF P w K mg base 3 "are_feasts" st_are_feasts ["value"] [false] false F_are_feasts) (Fn : Fun K "check_feasts" "check_feasts" st_check_feasts f (PySem.W.fnOf "check_feasts" "check_feasts" (defArgs st_check_feasts) (defBody st_check_feasts) (defScope st_check_feasts) .none kV doc pm an cdv ct)) (hm : mg "check_feasts" = some (.ref f)) :
    CalF P w K mg base 4 "check_feasts" st_check_feasts ["feasts"] [false] false F_check_feasts := by
  unfold F_check_feasts
  refine cal0 (N := ["feasts"]) Fn hm ⟨rfl, rfl, rfl, by decide +kernel, rfl, by decide +kernel, by decide +kernel⟩ rfl rfl (fun _ _ _ _ _ _ us hl => match us, hl with | [_], _ => rfl) fun cdv A outer s H E Z hz hr hgd => ?_
  obtain ⟨hz, hpw⟩ := hz
  have hio : ∀ i, i ∉ posT [false] 0 → i ∉ Z.ios := by rw [hz]; exact fun _ h => h
  have nd : (["feasts"] : List Str).Nodup := by decide
  exact s_one (s_if (c_not (c_tru (e_q (d_call c_are_feasts hr hgd (g_v (e_vr (pv 0)) (g_nil)))) (fun _ => rfl))) (s_one (s_no)) (s_nil))
theorem cal_does_fit (fx : Fx K mg) (Fn : Fun K "does_fit" "does_fit" st_does_fit f (PySem.W.fnOf "does_fit" "does_fit" (defArgs st_does_fit) (defBody st_does_fit) (defScope st_does_fit) .none kV doc pm an cdv ct)) (hm : mg "does_fit" = some (.ref f)) :
    CalF P w K mg base 1 "does_fit" st_does_fit ["days", "day", "feasts"] [false, false, false] false F_does_fit := by
  obtain ⟨t_PLAIN, h_PLAIN⟩ := fx.c_PLAIN
  obtain ⟨t_FEAST, h_FEAST⟩ := fx.c_FEAST
  obtain ⟨t_ANY, h_ANY⟩ := fx.c_ANY
  unfold F_does_fit
  refine cal0 (N := ["days", "day", "feasts"]) Fn hm ⟨rfl, rfl, rfl, by decide +kernel, rfl, by decide +kernel, by decide +kernel⟩ rfl rfl (fun _ _ _ _ _ _ us hl => match us, hl with | [_, _, _], _ => rfl) fun cdv A outer s H E Z hz hr hgd => ?_
  obtain ⟨hz, hpw⟩ := hz
  have hio : ∀ i, i ∉ posT [false, false, false] 0 → i ∉ Z.ios := by rw [hz]; exact fun _ h => h
  have nd : (["days", "day", "feasts"] : List Str).Nodup := by decide
  exact s_cons (s_if (c_cmp (o_eq (hu64 hr)) b_eq (e_vr (pv 0)) (e_q (e_gl (v := .str "plain") rfl h_PLAIN ⟨_, rfl⟩ (fun _ => .str _))) rfl) (s_one (s_ret (e_cmp (o_ninA (hu66 hr)) b_nin (e_vr (pv 1)) (e_q (e_vr (pv 2))) rfl))) (s_nil)) (s_cons (s_if (c_cmp (o_eq (hu64 hr)) b_eq (e_vr (pv 0)) (e_q (e_gl (v := .str "feast") rfl h_FEAST ⟨_, rfl⟩ (fun _ => .str _))) rfl) (s_one (s_ret (e_cmp (o_inA (hu66 hr)) b_in (e_vr (pv 1)) (e_q (e_vr (pv 2))) rfl))) (s_nil)) (s_one (s_ret (v_or (e_cmp (o_eq (hu64 hr)) b_eq (e_vr (pv 0)) (e_q (e_gl (v := .str "any") rfl h_ANY ⟨_, rfl⟩ (fun _ => .str _))) rfl) (v_1 (e_cmp (o_inA (hu66 hr)) b_in (e_lk (e_add (e_vr (pv 1)) (e_q (e_int)))) (e_q (e_vr (pv 2))) rfl))))))
theorem cal_does_bear (fx : Fx K mg) (c_does_fit : CalF P w K mg base 1 "does_fit" st_does_fit ["days", "day", "feasts"] [false, false, false] false F_does_fit) (Fn : Fun K "does_bear" "does_bear" st_does_bear f (PySem.W.fnOf "does_bear" "does_bear" (defArgs st_does_bear) (defBody st_does_bear) (defScope st_does_bear) .none kV doc pm an cdv ct)) (hm : mg "does_bear" = some (.ref f)) :
    CalF P w K mg base 2 "does_bear" st_does_bear ["hours", "row", "kind", "tick", "feasts"] [false, false, false, false, false] false F_does_bear := by
  obtain ⟨t_DAYS, h_DAYS⟩ := fx.c_DAYS
  unfold F_does_bear
  refine cal0 (N := ["hours", "row", "kind", "tick", "feasts", "begin", "end", "days", "kinds", "told", "week", "ago"]) Fn hm ⟨rfl, rfl, rfl, by decide +kernel, rfl, by decide +kernel, by decide +kernel⟩ rfl rfl (fun _ _ _ _ _ _ us hl => match us, hl with | [_, _, _, _, _], _ => rfl) fun cdv A outer s H E Z hz hr hgd => ?_
  obtain ⟨hz, hpw⟩ := hz
  have hio : ∀ i, i ∉ posT [false, false, false, false, false] 0 → i ∉ Z.ios := by rw [hz]; exact fun _ h => h
  have nd : (["hours", "row", "kind", "tick", "feasts", "begin", "end", "days", "kinds", "told", "week", "ago"] : List Str).Nodup := by decide
  exact s_cons (s_tup (pg_seq rfl (pgs_cons (pg_name (i := 5) nd rfl (.inl rfl)) (pgs_cons (pg_name (i := 6) nd rfl (.inl rfl)) (pgs_cons (pg_name (i := 7) nd rfl (.inl rfl)) (pgs_cons (pg_name (i := 8) nd rfl (.inl rfl)) (pgs_cons (pg_name (i := 9) nd rfl (.inl rfl)) (pgs_nil))))))) (by intro i hi; exact hio i (by revert i; decide)) (e_vr (pv 1))) (s_cons (s_if (PW.pt (w_and (c_cmp (o_ne (hu64 hr)) b_ne (e_vr (pv 8)) (e_q (e_tup (a_nil))) rfl) (w_1a (c_cmp (o_ninA (hu66 hr)) b_nin (e_vr (pv 2)) (e_q (e_vr (pv 8))) rfl)))) (s_one (s_ret (e_bl))) (s_nil)) (s_cons (s_set (i := 10) nd rfl (.inl rfl) (hio 10 (by decide)) (e_mul (e_gl (v := .int 7) rfl h_DAYS ⟨_, rfl⟩ (fun _ => .int _)) (e_vr (pv 0)))) (s_cons (s_set (i := 11) nd rfl (.inl rfl) (hio 11 (by decide)) (e_ite (c_cmp (o_ne (hu64 hr)) b_ne (e_vr (pv 5)) (e_q (e_vr (pv 6))) rfl) (e_mod (e_sub (e_vr (pv 3)) (e_vr (pv 5))) (e_vr (pv 10))) (e_int))) (s_cons (s_if (PW.pt (w_and (c_cmp (o_ne (hu64 hr)) b_ne (e_vr (pv 5)) (e_q (e_vr (pv 6))) rfl) (w_1a (c_cmp op_ge b_ge (e_vr (pv 11)) (e_q (e_mod (e_sub (e_vr (pv 6)) (e_vr (pv 5))) (e_vr (pv 10)))) rfl)))) (s_one (s_ret (e_bl))) (s_nil)) (s_one (s_ret (d_call c_does_fit hr hgd (g_v (e_vr (pv 7)) (g_v (e_div (e_sub (e_vr (pv 3)) (e_vr (pv 11))) (e_vr (pv 0))) (g_v (e_vr (pv 4)) (g_nil)))))))))))
theorem cal_told_at (fx : Fx K mg) (c_does_bear : CalF P w K mg base 2 "does_bear" st_does_bear ["hours", "row", "kind", "tick", "feasts"] [false, false, false, false, false] false F_does_bear) (Fn : Fun K "told_at" "told_at" st_told_at f (PySem.W.fnOf "told_at" "told_at" (defArgs st_told_at) (defBody st_told_at) (defScope st_told_at) .none kV doc pm an cdv ct)) (hm : mg "told_at" = some (.ref f)) :
    CalF P w K mg base 3 "told_at" st_told_at ["sign", "kind", "tick", "feasts"] [false, false, false, false] false F_told_at := by
  obtain ⟨t_FREE, h_FREE⟩ := fx.c_FREE
  unfold F_told_at
  refine cal0 (N := ["sign", "kind", "tick", "feasts", "hours", "rows", "number"]) Fn hm ⟨rfl, rfl, rfl, by decide +kernel, rfl, by decide +kernel, by decide +kernel⟩ rfl rfl (fun _ _ _ _ _ _ us hl => match us, hl with | [_, _, _, _], _ => rfl) fun cdv A outer s H E Z hz hr hgd => ?_
  obtain ⟨hz, hpw⟩ := hz
  have hio : ∀ i, i ∉ posT [false, false, false, false] 0 → i ∉ Z.ios := by rw [hz]; exact fun _ h => h
  have nd : (["sign", "kind", "tick", "feasts", "hours", "rows", "number"] : List Str).Nodup := by decide
  exact s_cons (s_tup (pg_seq rfl (pgs_cons (pg_name (i := 4) nd rfl (.inl rfl)) (pgs_cons (pg_name (i := 5) nd rfl (.inl rfl)) (pgs_nil)))) (by intro i hi; exact hio i (by revert i; decide)) (e_vr (pv 0))) (s_cons (s_for pNever rfl (i_rg3 rfl fx.z_range (a_cons (e_sub (e_len rfl fx.z_len (e_q (e_vr (pv 5)))) (e_int)) (a_cons (e_neg (e_int)) (a_cons (e_neg (e_int)) (a_nil))))) (pg_name (i := 6) nd rfl (.inl rfl)) (tg_n (hio 6 (by decide))) (s_one (s_if (c_tru (e_q (d_call c_does_bear hr hgd (g_v (e_vr (pv 4)) (g_v (e_ix (hu66 hr) (e_vr (pv 5)) (e_vr (pv 6))) (g_v (e_vr (pv 1)) (g_v (e_vr (pv 2)) (g_v (e_vr (pv 3)) (g_nil)))))))) (fun _ => rfl)) (s_one (s_ret (e_tup (a_cons (e_ix (hu66 hr) (e_ix (hu66 hr) (e_vr (pv 5)) (e_vr (pv 6))) (e_int)) (a_cons (e_vr (pv 6)) (a_nil)))))) (s_nil)))) (s_one (s_ret (e_tup (a_cons (e_gl (v := .str "free") rfl h_FREE ⟨_, rfl⟩ (fun _ => .str _)) (a_cons (e_non) (a_nil)))))))
theorem cal_next_barred (fx : Fx K mg) (c_told_at : CalF P w K mg base 3 "told_at" st_told_at ["sign", "kind", "tick", "feasts"] [false, false, false, false] false F_told_at) (Fn : Fun K "next_barred" "next_barred" st_next_barred f (PySem.W.fnOf "next_barred" "next_barred" (defArgs st_next_barred) (defBody st_next_barred) (defScope st_next_barred) .none kV doc pm an cdv ct)) (hm : mg "next_barred" = some (.ref f)) :
    CalF P w K mg base 4 "next_barred" st_next_barred ["sign", "kind", "feasts", "low", "high"] [false, false, false, false, false] false F_next_barred := by
  obtain ⟨t_BARRED, h_BARRED⟩ := fx.c_BARRED
  unfold F_next_barred
  refine cal0 (N := ["sign", "kind", "feasts", "low", "high", "found", "here", "tick"]) Fn hm ⟨rfl, rfl, rfl, by decide +kernel, rfl, by decide +kernel, by decide +kernel⟩ rfl rfl (fun _ _ _ _ _ _ us hl => match us, hl with | [_, _, _, _, _], _ => rfl) fun cdv A outer s H E Z hz hr hgd => ?_
  obtain ⟨hz, hpw⟩ := hz
  have hio : ∀ i, i ∉ posT [false, false, false, false, false] 0 → i ∉ Z.ios := by rw [hz]; exact fun _ h => h
  have nd : (["sign", "kind", "feasts", "low", "high", "found", "here", "tick"] : List Str).Nodup := by decide
  exact s_cons (s_parO (xs := ["found", "here"]) rfl nd rfl (by intro i hi; exact hio i (by revert i; decide)) (q_o (e_dsp0) (fun _ _ => q_v (e_vr (pv 4)) (q_nil)))) (s_cons (s_for pNever rfl (i_rg3 rfl fx.z_range (a_cons (e_sub (e_vr (pv 4)) (e_int)) (a_cons (e_sub (e_vr (pv 3)) (e_int)) (a_cons (e_neg (e_int)) (a_nil))))) (pg_name (i := 7) nd rfl (.inl rfl)) (tg_n (hio 7 (by decide))) (s_cons (s_if (c_cmp (o_eq (hu64 hr)) b_eq (e_ix (hu66 hr) (d_call c_told_at hr hgd (g_v (e_vr (pv 0)) (g_v (e_vr (pv 1)) (g_v (e_vr (pv 7)) (g_v (e_vr (pv 2)) (g_nil)))))) (e_int)) (e_q (e_gl (v := .str "barred") rfl h_BARRED ⟨_, rfl⟩ (fun _ => .str _))) rfl) (s_one (s_set (i := 6) nd rfl (.inl rfl) (hio 6 (by decide)) (e_vr (pv 7)))) (s_nil)) (s_one (s_setK (hu66 hr) (pv 5) (e_vr (pv 7)) (e_vr (pv 6)))))) (s_one (s_ret (e_vl (pv 5)))))
theorem cal_end_of (fx : Fx K mg) (c_told_at : CalF P w K mg base 3 "told_at" st_told_at ["sign", "kind", "tick", "feasts"] [false, false, false, false] false F_told_at) (Fn : Fun K "end_of" "end_of" st_end_of f (PySem.W.fnOf "end_of" "end_of" (defArgs st_end_of) (defBody st_end_of) (defScope st_end_of) .none kV doc pm an cdv ct)) (hm : mg "end_of" = some (.ref f)) :
    CalF P w K mg base 4 "end_of" st_end_of ["old", "kind", "begin", "feasts", "bars"] [false, false, false, false, false] false F_end_of := by
  obtain ⟨t_DAYS, h_DAYS⟩ := fx.c_DAYS
  unfold F_end_of
  refine cal0 (N := ["old", "kind", "begin", "feasts", "bars", "told", "last"]) Fn hm ⟨rfl, rfl, rfl, by decide +kernel, rfl, by decide +kernel, by decide +kernel⟩ rfl rfl (fun _ _ _ _ _ _ us hl => match us, hl with | [_, _, _, _, _], _ => rfl) fun cdv A outer s H E Z hz hr hgd => ?_
  obtain ⟨hz, hpw⟩ := hz
  have hio : ∀ i, i ∉ posT [false, false, false, false, false] 0 → i ∉ Z.ios := by rw [hz]; exact fun _ h => h
  have nd : (["old", "kind", "begin", "feasts", "bars", "told", "last"] : List Str).Nodup := by decide
  exact s_cons (s_par (xs := ["told", "last"]) rfl nd rfl (by intro i hi; exact hio i (by revert i; decide)) (e_tup (a_cons (e_ix (hu66 hr) (d_call c_told_at hr hgd (g_v (e_vr (pv 0)) (g_v (e_vr (pv 1)) (g_v (e_vr (pv 2)) (g_v (e_vr (pv 3)) (g_nil)))))) (e_int)) (a_cons (e_lk (e_add (e_vr (pv 2)) (e_q (e_mul (e_mul (e_int) (e_gl (v := .int 7) rfl h_DAYS ⟨_, rfl⟩ (fun _ => .int _))) (e_ix (hu66 hr) (e_vr (pv 0)) (e_int)))))) (a_nil))))) (s_cons (s_if (c_tru (e_q (e_isi (T := "tuple") (by decide) ZZ.boot_tuple rfl fx.z_tuple rfl fx.z_isinstance (e_q (e_vr (pv 5))))) (fun _ => rfl)) (s_one (s_set (i := 6) nd rfl (.inl rfl) (hio 6 (by decide)) (e_min2 rfl rfl fx.z_min (e_vr (pv 6)) (e_lk (e_add (e_vr (pv 2)) (e_q (e_ix (hu66 hr) (e_vr (pv 5)) (e_int)))))))) (s_nil)) (s_one (s_ret (e_min2 rfl rfl fx.z_min (e_vr (pv 6)) (e_ix (hu66 hr) (e_vr (pv 4)) (e_vr (pv 2)))))))
theorem cal_ends_of (fx : Fx K mg) (c_next_barred : CalF P w K mg base 4 "next_barred" st_next_barred ["sign", "kind", "feasts", "low", "high"] [false, false, false, false, false] false F_next_barred) (c_end_of : CalF P w K mg base 4 "end_of" st_end_of ["old", "kind", "begin", "feasts", "bars"] [false, false, false, false, false] false F_end_of) (Fn : Fun K "ends_of" "ends_of" st_ends_of f (PySem.W.fnOf "ends_of" "ends_of" (defArgs st_ends_of) (defBody st_ends_of) (defScope st_ends_of) .none kV doc pm an cdv ct)) (hm : mg "ends_of" = some (.ref f)) :
    CalF P w K mg base 5 "ends_of" st_ends_of ["old", "kind", "feasts", "low", "high"] [false, false, false, false, false] false F_ends_of := by
  obtain ⟨t_DAYS, h_DAYS⟩ := fx.c_DAYS
  unfold F_ends_of
  refine cal0 (N := ["old", "kind", "feasts", "low", "high", "bars", "begin"]) Fn hm ⟨rfl, rfl, rfl, by decide +kernel, rfl, by decide +kernel, by decide +kernel⟩ rfl rfl (fun _ _ _ _ _ _ us hl => match us, hl with | [_, _, _, _, _], _ => rfl) fun cdv A outer s H E Z hz hr hgd => ?_
  obtain ⟨hz, hpw⟩ := hz
  have hio : ∀ i, i ∉ posT [false, false, false, false, false] 0 → i ∉ Z.ios := by rw [hz]; exact fun _ h => h
  have nd : (["old", "kind", "feasts", "low", "high", "bars", "begin"] : List Str).Nodup := by decide
  exact s_cons (s_set (i := 5) nd rfl (.inr rfl) (hio 5 (by decide)) (d_call c_next_barred hr hgd (g_v (e_vr (pv 0)) (g_v (e_vr (pv 1)) (g_v (e_vr (pv 2)) (g_v (e_vr (pv 3)) (g_v (e_lk (e_add (e_vr (pv 4)) (e_q (e_mul (e_mul (e_int) (e_gl (v := .int 7) rfl h_DAYS ⟨_, rfl⟩ (fun _ => .int _))) (e_ix (hu66 hr) (e_vr (pv 0)) (e_int)))))) (g_nil)))))))) (s_one (s_ret (e_om (e_dc rfl nd (i_rg2 rfl fx.z_range (a_cons (e_vr (pv 3)) (a_cons (e_vr (pv 4)) (a_nil)))) (own := [("begin", 6)]) (is := [6]) rfl rfl (by decide) (by rw [hz]; decide) (fun _ _ => tw_n (hio 6 (by decide))) (fun _ _ _ _ _ => pg_name (i := 6) nd rfl (by first | exact .inl rfl | exact .inr rfl)) (fun _ _ _ _ _ _ _ => e_vr (pv 6)) (fun _ _ _ _ _ _ _ => d_call c_end_of hr hgd (g_v (e_vr (pv 0)) (g_v (e_vr (pv 1)) (g_v (e_vr (pv 6)) (g_v (e_vr (pv 2)) (g_v (e_vr (pv 5)) (g_nil)))))))))))
theorem cal_exposed_begins (fx : Fx K mg) (c_next_barred : CalF P w K mg base 4 "next_barred" st_next_barred ["sign", "kind", "feasts", "low", "high"] [false, false, false, false, false] false F_next_barred) (c_ends_of : CalF P w K mg base 5 "ends_of" st_ends_of ["old", "kind", "feasts", "low", "high"] [false, false, false, false, false] false F_ends_of) (Fn : Fun K "exposed_begins" "exposed_begins" st_exposed_begins f (PySem.W.fnOf "exposed_begins" "exposed_begins" (defArgs st_exposed_begins) (defBody st_exposed_begins) (defScope st_exposed_begins) .none kV doc pm an cdv ct)) (hm : mg "exposed_begins" = some (.ref f)) :
    CalF P w K mg base 6 "exposed_begins" st_exposed_begins ["old", "new", "tick", "kind", "feasts"] [false, false, false, false, false] false F_exposed_begins := by
  obtain ⟨t_DAYS, h_DAYS⟩ := fx.c_DAYS
  unfold F_exposed_begins
  refine cal0 (N := ["old", "new", "tick", "kind", "feasts", "week", "bar", "ends", "begin"]) Fn hm ⟨rfl, rfl, rfl, by decide +kernel, rfl, by decide +kernel, by decide +kernel⟩ rfl rfl (fun _ _ _ _ _ _ us hl => match us, hl with | [_, _, _, _, _], _ => rfl) fun cdv A outer s H E Z hz hr hgd => ?_
  obtain ⟨hz, hpw⟩ := hz
  have hio : ∀ i, i ∉ posT [false, false, false, false, false] 0 → i ∉ Z.ios := by rw [hz]; exact fun _ h => h
  have nd : (["old", "new", "tick", "kind", "feasts", "week", "bar", "ends", "begin"] : List Str).Nodup := by decide
  exact s_cons (s_set (i := 5) nd rfl (.inl rfl) (hio 5 (by decide)) (e_mul (e_gl (v := .int 7) rfl h_DAYS ⟨_, rfl⟩ (fun _ => .int _)) (e_ix (hu66 hr) (e_vr (pv 0)) (e_int)))) (s_cons (s_set (i := 6) nd rfl (.inr rfl) (hio 6 (by decide)) (e_ix (hu66 hr) (d_call c_next_barred hr hgd (g_v (e_vr (pv 1)) (g_v (e_vr (pv 3)) (g_v (e_vr (pv 4)) (g_v (e_vr (pv 2)) (g_v (e_lk (e_add (e_vr (pv 2)) (e_q (e_mul (e_int) (e_vr (pv 5)))))) (g_nil))))))) (e_vr (pv 2)))) (s_cons (s_set (i := 7) nd rfl (.inr rfl) (hio 7 (by decide)) (d_call c_ends_of hr hgd (g_v (e_vr (pv 0)) (g_v (e_vr (pv 3)) (g_v (e_vr (pv 4)) (g_v (e_max2 rfl rfl fx.z_max (e_int) (e_sub (e_vr (pv 2)) (e_mul (e_int) (e_vr (pv 5))))) (g_v (e_vr (pv 2)) (g_nil)))))))) (s_one (s_ret (e_om (e_lc rfl nd (i_keys (e_vr (pv 7))) (own := [("begin", 8)]) (is := [8]) rfl rfl (by decide) (by rw [hz]; decide) (fun _ _ => tw_n (hio 8 (by decide))) (fun _ _ _ _ _ => pg_name (i := 8) nd rfl (by first | exact .inl rfl | exact .inr rfl)) (fun _ _ _ _ _ => k_one fun _ _ => c_cmp op_gt b_gt (e_ix (hu66 hr) (e_vr (pv 7)) (e_vr (pv 8))) (e_q (e_vr (pv 6))) rfl) (fun _ _ _ _ _ _ _ => e_vr (pv 8))))))))
theorem cal_exposed (fx : Fx K mg) (c_check_signs : CalF P w K mg base 8 "check_signs" st_check_signs ["one", "other"] [false, false] false F_check_signs) (c_check_tick : CalF P w K mg base 4 "check_tick" st_check_tick ["tick"] [false] false F_check_tick) (c_check_kind : CalF P w K mg base 3 "check_kind" st_check_kind ["kind"] [false] false F_check_kind) (c_check_feasts : CalF P w K mg base 4 "check_feasts" st_check_feasts ["feasts"] [false] false F_check_feasts) (c_exposed_begins : CalF P w K mg base 6 "exposed_begins" st_exposed_begins ["old", "new", "tick", "kind", "feasts"] [false, false, false, false, false] false F_exposed_begins) (Fn : Fun K "exposed" "exposed" st_exposed f (PySem.W.fnOf "exposed" "exposed" (defArgs st_exposed) (defBody st_exposed) (defScope st_exposed) .none kV doc pm an cdv ct)) (hm : mg "exposed" = some (.ref f)) :
    CalF P w K mg base 9 "exposed" st_exposed ["old", "new", "tick", "kind", "feasts"] [false, false, false, false, false] false F_exposed := by
  unfold F_exposed
  refine cal0 (N := ["old", "new", "tick", "kind", "feasts", "found", "begin"]) Fn hm ⟨rfl, rfl, rfl, by decide +kernel, rfl, by decide +kernel, by decide +kernel⟩ rfl rfl (fun _ _ _ _ _ _ us hl => match us, hl with | [_, _, _, _, _], _ => rfl) fun cdv A outer s H E Z hz hr hgd => ?_
  obtain ⟨hz, hpw⟩ := hz
  have hio : ∀ i, i ∉ posT [false, false, false, false, false] 0 → i ∉ Z.ios := by rw [hz]; exact fun _ h => h
  have nd : (["old", "new", "tick", "kind", "feasts", "found", "begin"] : List Str).Nodup := by decide
  exact s_cons (s_expr (d_call c_check_signs hr hgd (g_v (e_vr (pv 0)) (g_v (e_vr (pv 1)) (g_nil))))) (s_cons (s_expr (d_call c_check_tick hr hgd (g_v (e_vr (pv 2)) (g_nil)))) (s_cons (s_expr (d_call c_check_kind hr hgd (g_v (e_vr (pv 3)) (g_nil)))) (s_cons (s_expr (d_call c_check_feasts hr hgd (g_v (e_vr (pv 4)) (g_nil)))) (s_cons (s_setO (i := 5) nd rfl (.inl rfl) (hio 5 (by decide)) (e_lst (a_nil))) (s_cons (s_for pNever rfl (i_any (d_call c_exposed_begins hr hgd (g_v (e_vr (pv 0)) (g_v (e_vr (pv 1)) (g_v (e_vr (pv 2)) (g_v (e_vr (pv 3)) (g_v (e_vr (pv 4)) (g_nil)))))))) (pg_name (i := 6) nd rfl (.inl rfl)) (tg_n (hio 6 (by decide))) (s_one (s_if (PW.pt (w_and (c_cmpL (o_ne (hu64 hr)) b_ne (pv 5) (e_om (e_lst (a_nil))) rfl) (w_1a (c_cmp (o_eq (hu64 hr)) b_eq (e_ix (hu66 hr) (e_ixL (hu66 hr) (pv 5) (e_neg (e_int))) (e_int)) (e_q (e_sub (e_vr (pv 6)) (e_int))) rfl)))) (s_one (s_setIx (pv 5) (e_neg (e_int)) (e_tup (a_cons (e_ix (hu66 hr) (e_ixL (hu66 hr) (pv 5) (e_neg (e_int))) (e_int)) (a_cons (e_vr (pv 6)) (a_nil)))))) (s_one (s_app (i := 5) (pv 5) (e_tup (a_cons (e_vr (pv 6)) (a_cons (e_vr (pv 6)) (a_nil))))))))) (s_one (s_ret (e_tuple rfl fx.z_tuple (e_vq (pv 5))))))))))
theorem cal__law_stretches (fx : Fx K mg) (Fn : Fun K "_law_stretches" "_law_stretches" st__law_stretches f (PySem.W.fnOf "_law_stretches" "_law_stretches" (defArgs st__law_stretches) (defBody st__law_stretches) (defScope st__law_stretches) .none kV doc pm an cdv ct)) (hm : mg "_law_stretches" = some (.ref f)) :
    CalF P w K mg base 1 "_law_stretches" st__law_stretches ["begins"] [false] false F__law_stretches := by
  unfold F__law_stretches
  refine cal0 (N := ["begins", "found", "begin"]) Fn hm ⟨rfl, rfl, rfl, by decide +kernel, rfl, by decide +kernel, by decide +kernel⟩ rfl rfl (fun _ _ _ _ _ _ us hl => match us, hl with | [_], _ => rfl) fun cdv A outer s H E Z hz hr hgd => ?_
  obtain ⟨hz, hpw⟩ := hz
  have hio : ∀ i, i ∉ posT [false] 0 → i ∉ Z.ios := by rw [hz]; exact fun _ h => h
  have nd : (["begins", "found", "begin"] : List Str).Nodup := by decide
  exact s_cons (s_setO (i := 1) nd rfl (.inl rfl) (hio 1 (by decide)) (e_lst (a_nil))) (s_cons (s_for pNever rfl (i_any (e_vr (pv 0))) (pg_name (i := 2) nd rfl (.inl rfl)) (tg_n (hio 2 (by decide))) (s_one (s_if (PW.pt (w_and (c_cmpL (o_ne (hu64 hr)) b_ne (pv 1) (e_om (e_lst (a_nil))) rfl) (w_1a (c_cmp (o_eq (hu64 hr)) b_eq (e_ix (hu66 hr) (e_ixL (hu66 hr) (pv 1) (e_neg (e_int))) (e_int)) (e_q (e_sub (e_vr (pv 2)) (e_int))) rfl)))) (s_one (s_setIx (pv 1) (e_neg (e_int)) (e_tup (a_cons (e_ix (hu66 hr) (e_ixL (hu66 hr) (pv 1) (e_neg (e_int))) (e_int)) (a_cons (e_int1 rfl fx.z_int (e_vr (pv 2))) (a_nil)))))) (s_one (s_app (i := 1) (pv 1) (e_tup (a_cons (e_int1 rfl fx.z_int (e_vr (pv 2))) (a_cons (e_int1 rfl fx.z_int (e_vr (pv 2))) (a_nil))))))))) (s_one (s_ret (e_tuple rfl fx.z_tuple (e_vq (pv 1))))))
theorem cal_lawful_end (fx : Fx K mg) (c_check_sign : CalF P w K mg base 7 "check_sign" st_check_sign ["sign"] [false] false F_check_sign) (c_check_kind : CalF P w K mg base 3 "check_kind" st_check_kind ["kind"] [false] false F_check_kind) (c_check_feasts : CalF P w K mg base 4 "check_feasts" st_check_feasts ["feasts"] [false] false F_check_feasts) (c_check_tick : CalF P w K mg base 4 "check_tick" st_check_tick ["tick"] [false] false F_check_tick) (c_ends_of : CalF P w K mg base 5 "ends_of" st_ends_of ["old", "kind", "feasts", "low", "high"] [false, false, false, false, false] false F_ends_of) (Fn : Fun K "lawful_end" "lawful_end" st_lawful_end f (PySem.W.fnOf "lawful_end" "lawful_end" (defArgs st_lawful_end) (defBody st_lawful_end) (defScope st_lawful_end) .none kV doc pm an cdv ct)) (hm : mg "lawful_end" = some (.ref f)) :
    CalF P w K mg base 8 "lawful_end" st_lawful_end ["old", "kind", "begin", "feasts"] [false, false, false, false] false F_lawful_end := by
  unfold F_lawful_end
  refine cal0 (N := ["old", "kind", "begin", "feasts"]) Fn hm ⟨rfl, rfl, rfl, by decide +kernel, rfl, by decide +kernel, by decide +kernel⟩ rfl rfl (fun _ _ _ _ _ _ us hl => match us, hl with | [_, _, _, _], _ => rfl) fun cdv A outer s H E Z hz hr hgd => ?_
  obtain ⟨hz, hpw⟩ := hz
  have hio : ∀ i, i ∉ posT [false, false, false, false] 0 → i ∉ Z.ios := by rw [hz]; exact fun _ h => h
  have nd : (["old", "kind", "begin", "feasts"] : List Str).Nodup := by decide
  exact s_cons (s_expr (d_call c_check_sign hr hgd (g_v (e_vr (pv 0)) (g_nil)))) (s_cons (s_expr (d_call c_check_kind hr hgd (g_v (e_vr (pv 1)) (g_nil)))) (s_cons (s_expr (d_call c_check_feasts hr hgd (g_v (e_vr (pv 3)) (g_nil)))) (s_cons (s_expr (d_call c_check_tick hr hgd (g_v (e_vr (pv 2)) (g_nil)))) (s_one (s_ret (e_ix (hu66 hr) (d_call c_ends_of hr hgd (g_v (e_vr (pv 0)) (g_v (e_vr (pv 1)) (g_v (e_vr (pv 3)) (g_v (e_vr (pv 2)) (g_v (e_lk (e_add (e_vr (pv 2)) (e_q (e_int)))) (g_nil))))))) (e_vr (pv 2))))))))
theorem cal__law_is_wide_right (fx : Fx K mg) (c__law_sign : CalF P w K mg base 5 "_law_sign" st__law_sign ["pot", "hours", "most"] [true, false, false] false F__law_sign) (c__law_feasts : CalF P w K mg base 2 "_law_feasts" st__law_feasts ["pot", "days"] [true, false] false F__law_feasts) (c__law_take : CalF P w K mg base 1 "_law_take" st__law_take ["pot", "upto"] [true, false] false F__law_take) (c__law_of : CalF P w K mg base 2 "_law_of" st__law_of ["pot", "some"] [true, false] false F__law_of) (c__law_end : CalF P w K mg base 2 "_law_end" st__law_end ["old", "kind", "begin", "feasts"] [false, false, false, false] false F__law_end) (c__law_exposed : CalF P w K mg base 2 "_law_exposed" st__law_exposed ["old", "new", "tick", "kind", "feasts", "ends"] [false, false, false, false, false, false] false F__law_exposed) (c_exposed : CalF P w K mg base 9 "exposed" st_exposed ["old", "new", "tick", "kind", "feasts"] [false, false, false, false, false] false F_exposed) (c__law_stretches : CalF P w K mg base 1 "_law_stretches" st__law_stretches ["begins"] [false] false F__law_stretches) (c_lawful_end : CalF P w K mg base 8 "lawful_end" st_lawful_end ["old", "kind", "begin", "feasts"] [false, false, false, false] false F_lawful_end) (Fn : Fun K "_law_is_wide_right" "_law_is_wide_right" st__law_is_wide_right f (PySem.W.fnOf "_law_is_wide_right" "_law_is_wide_right" (defArgs st__law_is_wide_right) (defBody st__law_is_wide_right) (defScope st__law_is_wide_right) .none kV doc pm an cdv ct)) (hm : mg "_law_is_wide_right" = some (.ref f)) :
    CalF P w K mg base 10 "_law_is_wide_right" st__law_is_wide_right ["pot"] [true] false F__law_is_wide_right := by
  unfold F__law_is_wide_right
  refine cal0 (N := ["pot", "old", "new", "feasts", "tick", "kind", "ends", "begin", "begins"]) Fn hm ⟨rfl, rfl, rfl, by decide +kernel, rfl, by decide +kernel, by decide +kernel⟩ rfl rfl (fun _ _ _ _ _ _ us hl => match us, hl with | [_], _ => rfl) fun cdv A outer s H E Z hz hr hgd => ?_
  obtain ⟨hz, hpw⟩ := hz
  have hio : ∀ i, i ∉ posT [true] 0 → i ∉ Z.ios := by rw [hz]; exact fun _ h => h
  have nd : (["pot", "old", "new", "feasts", "tick", "kind", "ends", "begin", "begins"] : List Str).Nodup := by decide
  exact s_cons (s_tup (pg_seq rfl (pgs_cons (pg_name (i := 1) nd rfl (.inr rfl)) (pgs_cons (pg_name (i := 2) nd rfl (.inl rfl)) (pgs_cons (pg_name (i := 3) nd rfl (.inr rfl)) (pgs_nil))))) (by intro i hi; exact hio i (by revert i; decide)) (e_tup (a_cons (d_call c__law_sign hr hgd (g_io (pv 0) (g_v (e_int) (g_v (e_int) (g_nil))))) (a_cons (d_call c__law_sign hr hgd (g_io (pv 0) (g_v (e_int) (g_v (e_int) (g_nil))))) (a_cons (d_call c__law_feasts hr hgd (g_io (pv 0) (g_v (e_int) (g_nil)))) (a_nil)))))) (s_cons (s_tup (pg_seq rfl (pgs_cons (pg_name (i := 4) nd rfl (.inl rfl)) (pgs_cons (pg_name (i := 5) nd rfl (.inr rfl)) (pgs_nil)))) (by intro i hi; exact hio i (by revert i; decide)) (e_tup (a_cons (e_int1 rfl fx.z_int (d_call c__law_take hr hgd (g_io (pv 0) (g_v (e_int) (g_nil))))) (a_cons (d_call c__law_of hr hgd (g_io (pv 0) (g_v (e_om (e_lst (a_cons (e_non) (a_cons (e_str) (a_nil))))) (g_nil)))) (a_nil))))) (s_cons (s_set (i := 6) nd rfl (.inr rfl) (hio 6 (by decide)) (e_om (e_lc rfl nd (i_rg1 rfl fx.z_range (a_cons (e_vr (pv 4)) (a_nil))) (own := [("begin", 7)]) (is := [7]) rfl rfl (by decide) (by rw [hz]; decide) (fun _ _ => tw_n (hio 7 (by decide))) (fun _ _ _ _ _ => pg_name (i := 7) nd rfl (by first | exact .inl rfl | exact .inr rfl)) (fun _ _ _ _ _ => k_nil) (fun _ _ _ _ _ _ _ => d_call c__law_end hr hgd (g_v (e_vr (pv 1)) (g_v (e_vr (pv 5)) (g_v (e_vr (pv 7)) (g_v (e_vr (pv 3)) (g_nil))))))))) (s_cons (s_set (i := 8) nd rfl (.inl rfl) (hio 8 (by decide)) (d_call c__law_exposed hr hgd (g_v (e_vr (pv 1)) (g_v (e_vr (pv 2)) (g_v (e_vr (pv 4)) (g_v (e_vr (pv 5)) (g_v (e_vr (pv 3)) (g_v (e_vr (pv 6)) (g_nil))))))))) (s_cons (s_if (c_cmp (o_ne (hu64 hr)) b_ne (e_repr hgd (hu66 hr) rfl fx.z_repr (e_q (d_call c_exposed hr hgd (g_v (e_vr (pv 1)) (g_v (e_vr (pv 2)) (g_v (e_vr (pv 4)) (g_v (e_vr (pv 5)) (g_v (e_vr (pv 3)) (g_nil))))))))) (e_q (e_repr hgd (hu66 hr) rfl fx.z_repr (e_q (d_call c__law_stretches hr hgd (g_v (e_vr (pv 8)) (g_nil)))))) rfl) (s_one (s_ret (e_bl))) (s_nil)) (s_one (s_ret (e_all rfl rfl fx.z_all (e_q (e_om (e_lc rfl nd (i_rg3p rfl fx.z_range (a_cons (e_int) (a_cons (e_vr (pv 4)) (a_cons (e_int) (a_nil))))) (own := [("begin", 7)]) (is := [7]) rfl rfl (by decide) (by rw [hz]; decide) (fun _ _ => tw_n (hio 7 (by decide))) (fun _ _ _ _ _ => pg_name (i := 7) nd rfl (by first | exact .inl rfl | exact .inr rfl)) (fun _ _ _ _ _ => k_nil) (fun _ _ _ _ _ _ _ => e_cmp (o_eq (hu64 hr)) b_eq (e_repr hgd (hu66 hr) rfl fx.z_repr (e_q (d_call c_lawful_end hr hgd (g_v (e_vr (pv 1)) (g_v (e_vr (pv 5)) (g_v (e_vr (pv 7)) (g_v (e_vr (pv 3)) (g_nil)))))))) (e_q (e_repr hgd (hu66 hr) rfl fx.z_repr (e_q (e_ix (hu66 hr) (e_vr (pv 6)) (e_vr (pv 7)))))) rfl)))))))))))
theorem cal_check_change (fx : Fx K mg) (c_check_signs : CalF P w K mg base 8 "check_signs" st_check_signs ["one", "other"] [false, false] false F_check_signs) (c_check_tick : CalF P w K mg base 4 "check_tick" st_check_tick ["tick"] [false] false F_check_tick) (c_check_feasts : CalF P w K mg base 4 "check_feasts" st_check_feasts ["feasts"] [false] false F_check_feasts) (Fn : Fun K "check_change" "check_change" st_check_change f (PySem.W.fnOf "check_change" "check_change" (defArgs st_check_change) (defBody st_check_change) (defScope st_check_change) .none kV doc pm an cdv ct)) (hm : mg "check_change" = some (.ref f)) :
    CalF P w K mg base 9 "check_change" st_check_change ["old", "new", "tick", "feasts"] [false, false, false, false] false F_check_change := by
  unfold F_check_change
  refine cal0 (N := ["old", "new", "tick", "feasts"]) Fn hm ⟨rfl, rfl, rfl, by decide +kernel, rfl, by decide +kernel, by decide +kernel⟩ rfl rfl (fun _ _ _ _ _ _ us hl => match us, hl with | [_, _, _, _], _ => rfl) fun cdv A outer s H E Z hz hr hgd => ?_
  obtain ⟨hz, hpw⟩ := hz
  have hio : ∀ i, i ∉ posT [false, false, false, false] 0 → i ∉ Z.ios := by rw [hz]; exact fun _ h => h
  have nd : (["old", "new", "tick", "feasts"] : List Str).Nodup := by decide
  exact s_cons (s_expr (d_call c_check_signs hr hgd (g_v (e_vr (pv 0)) (g_v (e_vr (pv 1)) (g_nil))))) (s_cons (s_expr (d_call c_check_tick hr hgd (g_v (e_vr (pv 2)) (g_nil)))) (s_one (s_expr (d_call c_check_feasts hr hgd (g_v (e_vr (pv 3)) (g_nil))))))
theorem cal_named (fx : Fx K mg) (Fn : Fun K "named" "named" st_named f (PySem.W.fnOf "named" "named" (defArgs st_named) (defBody st_named) (defScope st_named) .none kV doc pm an cdv ct)) (hm : mg "named" = some (.ref f)) :
    CalS P w K mg base 1 "named" F_named := by
  unfold F_named
  refine calS (N := ["signs", "found", "hours", "rows", "row", "kind"]) Fn hm ⟨rfl, rfl, rfl, by decide +kernel, rfl, by decide +kernel, by decide +kernel⟩ rfl (fun _ _ _ _ _ _ rest => match rest with | [] => rfl | _ :: _ => rfl) fun cdv A outer s H E Z hz hr => ?_
  obtain ⟨hz, hpw⟩ := hz
  have hio : ∀ i, i ∉ posT [false] 0 → i ∉ Z.ios := by rw [hz]; exact fun _ h => h
  have nd : (["signs", "found", "hours", "rows", "row", "kind"] : List Str).Nodup := by decide
  exact s_cons (s_setO (i := 1) nd rfl (.inl rfl) (hio 1 (by decide)) (e_dsp0)) (s_cons (s_for pNever rfl (i_any (e_vr (pv 0))) (pg_seq rfl (pgs_cons (pg_name (i := 2) nd rfl (.inl rfl)) (pgs_cons (pg_name (i := 3) nd rfl (.inl rfl)) (pgs_nil)))) (tg_t (by intro i hi; exact hio i (by revert i; decide))) (s_one (s_for pNever rfl (i_any (e_vr (pv 3))) (pg_name (i := 4) nd rfl (.inl rfl)) (tg_n (hio 4 (by decide))) (s_one (s_for pNever rfl (i_any (e_ix (hu66 hr) (e_vr (pv 4)) (e_int))) (pg_name (i := 5) nd rfl (.inl rfl)) (tg_n (hio 5 (by decide))) (s_one (s_setK (hu66 hr) (pv 1) (e_vr (pv 5)) (e_bl)))))))) (s_one (s_ret (e_lk (e_add (e_om (e_lst (a_cons (e_non) (a_nil)))) (e_q (e_om (e_sortedK rfl rfl fx.z_sorted (e_vq (pv 1))))))))))
theorem cal_unsafe_ticks (fx : Fx K mg) (c_next_barred : CalF P w K mg base 4 "next_barred" st_next_barred ["sign", "kind", "feasts", "low", "high"] [false, false, false, false, false] false F_next_barred) (c_ends_of : CalF P w K mg base 5 "ends_of" st_ends_of ["old", "kind", "feasts", "low", "high"] [false, false, false, false, false] false F_ends_of) (Fn : Fun K "unsafe_ticks" "unsafe_ticks" st_unsafe_ticks f (PySem.W.fnOf "unsafe_ticks" "unsafe_ticks" (defArgs st_unsafe_ticks) (defBody st_unsafe_ticks) (defScope st_unsafe_ticks) .none kV doc pm an cdv ct)) (hm : mg "unsafe_ticks" = some (.ref f)) :
    CalF P w K mg base 6 "unsafe_ticks" st_unsafe_ticks ["old", "new", "kind", "feasts", "low", "high"] [false, false, false, false, false, false] false F_unsafe_ticks := by
  obtain ⟨t_DAYS, h_DAYS⟩ := fx.c_DAYS
  unfold F_unsafe_ticks
  refine cal0 (N := ["old", "new", "kind", "feasts", "low", "high", "week", "bars", "ends", "found", "last", "begin"]) Fn hm ⟨rfl, rfl, rfl, by decide +kernel, rfl, by decide +kernel, by decide +kernel⟩ rfl rfl (fun _ _ _ _ _ _ us hl => match us, hl with | [_, _, _, _, _, _], _ => rfl) fun cdv A outer s H E Z hz hr hgd => ?_
  obtain ⟨hz, hpw⟩ := hz
  have hio : ∀ i, i ∉ posT [false, false, false, false, false, false] 0 → i ∉ Z.ios := by rw [hz]; exact fun _ h => h
  have nd : (["old", "new", "kind", "feasts", "low", "high", "week", "bars", "ends", "found", "last", "begin"] : List Str).Nodup := by decide
  exact s_cons (s_set (i := 6) nd rfl (.inl rfl) (hio 6 (by decide)) (e_mul (e_gl (v := .int 7) rfl h_DAYS ⟨_, rfl⟩ (fun _ => .int _)) (e_ix (hu66 hr) (e_vr (pv 0)) (e_int)))) (s_cons (s_set (i := 7) nd rfl (.inl rfl) (hio 7 (by decide)) (d_call c_next_barred hr hgd (g_v (e_vr (pv 1)) (g_v (e_vr (pv 2)) (g_v (e_vr (pv 3)) (g_v (e_vr (pv 4)) (g_v (e_lk (e_add (e_vr (pv 5)) (e_q (e_mul (e_int) (e_vr (pv 6)))))) (g_nil)))))))) (s_cons (s_set (i := 8) nd rfl (.inl rfl) (hio 8 (by decide)) (d_call c_ends_of hr hgd (g_v (e_vr (pv 0)) (g_v (e_vr (pv 2)) (g_v (e_vr (pv 3)) (g_v (e_max2 rfl rfl fx.z_max (e_int) (e_sub (e_vr (pv 4)) (e_mul (e_int) (e_vr (pv 6))))) (g_v (e_vr (pv 5)) (g_nil)))))))) (s_cons (s_parO (xs := ["found", "last"]) rfl nd rfl (by intro i hi; exact hio i (by revert i; decide)) (q_o (e_lst (a_nil)) (fun _ _ => q_v (e_int) (q_nil)))) (s_cons (s_for pNever rfl (i_rg2 rfl fx.z_range (a_cons (e_max2 rfl rfl fx.z_max (e_int) (e_sub (e_vr (pv 4)) (e_mul (e_int) (e_vr (pv 6))))) (a_cons (e_vr (pv 5)) (a_nil)))) (pg_name (i := 11) nd rfl (.inl rfl)) (tg_n (hio 11 (by decide))) (s_cons (s_if (PW.pt (w_and (c_cmp op_ge b_ge (e_vr (pv 11)) (e_q (e_vr (pv 4))) rfl) (w_1a (c_cmp op_gt b_gt (e_vr (pv 10)) (e_q (e_ix (hu66 hr) (e_vr (pv 7)) (e_vr (pv 11)))) rfl)))) (s_one (s_app (i := 9) (pv 9) (e_vr (pv 11)))) (s_nil)) (s_one (s_set (i := 10) nd rfl (.inl rfl) (hio 10 (by decide)) (e_max2 rfl rfl fx.z_max (e_vr (pv 10)) (e_ix (hu66 hr) (e_vr (pv 8)) (e_vr (pv 11)))))))) (s_one (s_ret (e_vl (pv 9))))))))
theorem cal_safe_tick (fx : Fx K mg) (c_check_change : CalF P w K mg base 9 "check_change" st_check_change ["old", "new", "tick", "feasts"] [false, false, false, false] false F_check_change) (c_is_between : CalF P w K mg base 2 "is_between" st_is_between ["value", "low", "high"] [false, false, false] false F_is_between) (c_named : CalS P w K mg base 1 "named" F_named) (c_unsafe_ticks : CalF P w K mg base 6 "unsafe_ticks" st_unsafe_ticks ["old", "new", "kind", "feasts", "low", "high"] [false, false, false, false, false, false] false F_unsafe_ticks) (Fn : Fun K "safe_tick" "safe_tick" st_safe_tick f (PySem.W.fnOf "safe_tick" "safe_tick" (defArgs st_safe_tick) (defBody st_safe_tick) (defScope st_safe_tick) .none kV doc pm an cdv ct)) (hm : mg "safe_tick" = some (.ref f)) :
    CalF P w K mg base 10 "safe_tick" st_safe_tick ["old", "new", "tick", "feasts", "days"] [false, false, false, false, false] false F_safe_tick := by
  obtain ⟨t_MOST_DAYS, h_MOST_DAYS⟩ := fx.c_MOST_DAYS
  unfold F_safe_tick
  refine cal0 (N := ["old", "new", "tick", "feasts", "days", "high", "bad", "kind", "one", "fine"]) Fn hm ⟨rfl, rfl, rfl, by decide +kernel, rfl, by decide +kernel, by decide +kernel⟩ rfl rfl (fun _ _ _ _ _ _ us hl => match us, hl with | [_, _, _, _, _], _ => rfl) fun cdv A outer s H E Z hz hr hgd => ?_
  obtain ⟨hz, hpw⟩ := hz
  have hio : ∀ i, i ∉ posT [false, false, false, false, false] 0 → i ∉ Z.ios := by rw [hz]; exact fun _ h => h
  have nd : (["old", "new", "tick", "feasts", "days", "high", "bad", "kind", "one", "fine"] : List Str).Nodup := by decide
  exact s_cons (s_expr (d_call c_check_change hr hgd (g_v (e_vr (pv 0)) (g_v (e_vr (pv 1)) (g_v (e_vr (pv 2)) (g_v (e_vr (pv 3)) (g_nil))))))) (s_cons (s_if (c_not (c_tru (e_q (d_call c_is_between hr hgd (g_v (e_vr (pv 4)) (g_v (e_int) (g_v (e_gl (v := .int 60) rfl h_MOST_DAYS ⟨_, rfl⟩ (fun _ => .int _)) (g_nil)))))) (fun _ => rfl))) (s_one (s_no)) (s_nil)) (s_cons (s_parN rfl (pgs_cons (pg_name (i := 5) nd rfl (.inl rfl)) (pgs_cons (pg_name (i := 6) nd rfl (.inr rfl)) (pgs_nil))) (by intro i hi; exact hio i (by revert i; decide)) (q_v (e_lk (e_add (e_vr (pv 2)) (e_q (e_mul (e_vr (pv 4)) (e_ix (hu66 hr) (e_vr (pv 0)) (e_int)))))) (q_o (e_dsp0) (fun _ _ => q_nil)))) (s_cons (s_for pNever rfl (i_any (d_callS c_named hr (a_cons (e_vr (pv 0)) (a_cons (e_vr (pv 1)) (a_nil))))) (pg_name (i := 7) nd rfl (.inl rfl)) (tg_n (hio 7 (by decide))) (s_one (s_for pNever rfl (i_any (d_call c_unsafe_ticks hr hgd (g_v (e_vr (pv 0)) (g_v (e_vr (pv 1)) (g_v (e_vr (pv 7)) (g_v (e_vr (pv 3)) (g_v (e_vr (pv 2)) (g_v (e_vr (pv 5)) (g_nil))))))))) (pg_name (i := 8) nd rfl (.inl rfl)) (tg_n (hio 8 (by decide))) (s_one (s_setK (hu66 hr) (pv 6) (e_vr (pv 8)) (e_bl)))))) (s_cons (s_lcL (i := 9) rfl nd rfl rfl (hio 9 (by decide)) rfl (i_rg2 rfl fx.z_range (a_cons (e_vr (pv 2)) (a_cons (e_vr (pv 5)) (a_nil)))) (own := [("one", 8)]) (is := [8]) rfl rfl (by decide) (by rw [hz]; decide) (fun _ _ => tw_n (hio 8 (by decide))) (fun _ _ _ _ _ => pg_name (i := 8) nd rfl (by first | exact .inl rfl | exact .inr rfl)) (fun _ _ _ _ _ => k_one fun _ _ => c_cmp (o_ninA (hu66 hr)) b_nin (e_vr (pv 8)) (e_vq (pv 6)) rfl) (fun _ _ _ _ _ _ _ => e_vr (pv 8))) (s_one (s_ret (e_ite (c_cmp (o_ne (hu64 hr)) b_ne (e_vr (pv 9)) (e_q (e_om (e_lst (a_nil)))) rfl) (e_ix (hu66 hr) (e_vr (pv 9)) (e_int)) (e_non))))))))
theorem cal__law_right (fx : Fx K mg) (c__law_take : CalF P w K mg base 1 "_law_take" st__law_take ["pot", "upto"] [true, false] false F__law_take) (c__law_sign : CalF P w K mg base 5 "_law_sign" st__law_sign ["pot", "hours", "most"] [true, false, false] false F__law_sign) (c__law_feasts : CalF P w K mg base 2 "_law_feasts" st__law_feasts ["pot", "days"] [true, false] false F__law_feasts) (c__law_end : CalF P w K mg base 2 "_law_end" st__law_end ["old", "kind", "begin", "feasts"] [false, false, false, false] false F__law_end) (c_lawful_end : CalF P w K mg base 8 "lawful_end" st_lawful_end ["old", "kind", "begin", "feasts"] [false, false, false, false] false F_lawful_end) (c__law_exposed : CalF P w K mg base 2 "_law_exposed" st__law_exposed ["old", "new", "tick", "kind", "feasts", "ends"] [false, false, false, false, false, false] false F__law_exposed) (c_exposed : CalF P w K mg base 9 "exposed" st_exposed ["old", "new", "tick", "kind", "feasts"] [false, false, false, false, false] false F_exposed) (c__law_stretches : CalF P w K mg base 1 "_law_stretches" st__law_stretches ["begins"] [false] false F__law_stretches) (c_safe_tick : CalF P w K mg base 10 "safe_tick" st_safe_tick ["old", "new", "tick", "feasts", "days"] [false, false, false, false, false] false F_safe_tick) (hT : TabC.T = []) (Fn : Fun K "_law_right" "_law_right" st__law_right f (PySem.W.fnOf "_law_right" "_law_right" (defArgs st__law_right) (defBody st__law_right) (defScope st__law_right) .none kV doc pm an cdv ct)) (hm : mg "_law_right" = some (.ref f)) :
    CalF P w K mg base 11 "_law_right" st__law_right ["pot"] [true] false F__law_right := by
  unfold F__law_right
  refine cal0 (N := ["pot", "hours", "old", "new", "feasts", "tick", "days", "kinds", "ends", "kind", "lap", "begins", "barred", "free", "begin", "due", "one"]) Fn hm ⟨rfl, rfl, rfl, by decide +kernel, rfl, by decide +kernel, by decide +kernel⟩ rfl rfl (fun _ _ _ _ _ _ us hl => match us, hl with | [_], _ => rfl) fun cdv A outer s H E Z hz hr hgd => ?_
  obtain ⟨hz, hpw⟩ := hz
  have hio : ∀ i, i ∉ posT [true] 0 → i ∉ Z.ios := by rw [hz]; exact fun _ h => h
  have nd : (["pot", "hours", "old", "new", "feasts", "tick", "days", "kinds", "ends", "kind", "lap", "begins", "barred", "free", "begin", "due", "one"] : List Str).Nodup := by decide
  exact s_cons (s_set (i := 1) nd rfl (.inl rfl) (hio 1 (by decide)) (e_int1 rfl fx.z_int (e_lk (e_add (e_int) (e_q (d_call c__law_take hr hgd (g_io (pv 0) (g_v (e_int) (g_nil))))))))) (s_cons (s_tup (pg_seq rfl (pgs_cons (pg_name (i := 2) nd rfl (.inr rfl)) (pgs_cons (pg_name (i := 3) nd rfl (.inr rfl)) (pgs_cons (pg_name (i := 4) nd rfl (.inr rfl)) (pgs_nil))))) (by intro i hi; exact hio i (by revert i; decide)) (e_tup (a_cons (d_call c__law_sign hr hgd (g_io (pv 0) (g_v (e_vr (pv 1)) (g_v (e_int) (g_nil))))) (a_cons (d_call c__law_sign hr hgd (g_io (pv 0) (g_v (e_vr (pv 1)) (g_v (e_int) (g_nil))))) (a_cons (d_call c__law_feasts hr hgd (g_io (pv 0) (g_v (e_int) (g_nil)))) (a_nil)))))) (s_cons (s_par (xs := ["tick", "days"]) rfl nd rfl (by intro i hi; exact hio i (by revert i; decide)) (e_tup (a_cons (e_int1 rfl fx.z_int (d_call c__law_take hr hgd (g_io (pv 0) (g_v (e_mul (e_int) (e_vr (pv 1))) (g_nil))))) (a_cons (e_int1 rfl fx.z_int (e_lk (e_add (e_int) (e_q (d_call c__law_take hr hgd (g_io (pv 0) (g_v (e_int) (g_nil)))))))) (a_nil))))) (s_cons (s_set (i := 6) nd rfl (.inl rfl) (hio 6 (by decide)) (e_ite (PW.pt (w_and (c_cmp (o_eq (hu64 hr)) b_eq (e_vr (pv 1)) (e_q (e_int)) rfl) (w_1a (c_cmp (o_eq (hu64 hr)) b_eq (d_call c__law_take hr hgd (g_io (pv 0) (g_v (e_int) (g_nil)))) (e_q (e_int)) rfl)))) (e_int) (e_vr (pv 6)))) (s_cons (s_parN rfl (pgs_cons (pg_name (i := 7) nd rfl (.inl rfl)) (pgs_cons (pg_name (i := 8) nd rfl (.inr rfl)) (pgs_nil))) (by intro i hi; exact hio i (by revert i; decide)) (q_v (e_om (e_lst (a_cons (e_non) (a_cons (e_str) (a_cons (e_str) (a_nil)))))) (q_o (e_dsp0) (fun _ _ => q_nil)))) (s_cons (s_for pNever rfl (i_any (e_vr (pv 7))) (pg_name (i := 9) nd rfl (.inr rfl)) (tg_n (hio 9 (by decide))) (s_cons (s_setN hT hpw (hio 8 (by decide)) (pv 8) (e_vr (pv 9)) (e_om (e_lc rfl nd (i_rg1 rfl fx.z_range (a_cons (e_lk (e_add (e_vr (pv 5)) (e_q (e_mul (e_vr (pv 6)) (e_vr (pv 1)))))) (a_nil))) (own := [("begin", 14)]) (is := [14]) rfl rfl (by decide) (by rw [hz]; decide) (fun _ _ => tw_n (hio 14 (by decide))) (fun _ _ _ _ _ => pg_name (i := 14) nd rfl (by first | exact .inl rfl | exact .inr rfl)) (fun _ _ _ _ _ => k_nil) (fun _ _ _ _ _ _ _ => d_call c__law_end hr hgd (g_v (e_vr (pv 2)) (g_v (e_vr (pv 9)) (g_v (e_vr (pv 14)) (g_v (e_vr (pv 4)) (g_nil))))))))) (s_cons (s_for pNever rfl (i_rg1 rfl fx.z_range (a_cons (e_int) (a_nil))) (pg_name (i := 10) nd rfl (.inl rfl)) (tg_n (hio 10 (by decide))) (s_cons (s_set (i := 14) nd rfl (.inl rfl) (hio 14 (by decide)) (e_int1 rfl fx.z_int (d_call c__law_take hr hgd (g_io (pv 0) (g_v (e_lk (e_add (e_vr (pv 5)) (e_q (e_int)))) (g_nil)))))) (s_cons (s_set (i := 15) nd rfl (.inl rfl) (hio 15 (by decide)) (d_call c__law_end hr hgd (g_v (e_vr (pv 2)) (g_v (e_vr (pv 9)) (g_v (e_vr (pv 14)) (g_v (e_vr (pv 4)) (g_nil))))))) (s_one (s_if (c_cmp (o_ne (hu64 hr)) b_ne (e_repr hgd (hu66 hr) rfl fx.z_repr (e_q (d_callK c_lawful_end hr hgd (ks := ["old", "kind", "begin", "feasts"]) (fun _ _ _ _ _ _ us hl => match us, hl with | [_, _, _, _], _ => rfl) (kk_cons (e_vr (pv 2)) (kk_cons (e_vr (pv 9)) (kk_cons (e_vr (pv 14)) (kk_cons (e_vr (pv 4)) (kk_nil)))))))) (e_q (e_repr hgd (hu66 hr) rfl fx.z_repr (e_q (e_vr (pv 15))))) rfl) (s_one (s_ret (e_bl))) (s_nil)))))) (s_cons (s_set (i := 11) nd rfl (.inl rfl) (hio 11 (by decide)) (d_call c__law_exposed hr hgd (g_v (e_vr (pv 2)) (g_v (e_vr (pv 3)) (g_v (e_vr (pv 5)) (g_v (e_vr (pv 9)) (g_v (e_vr (pv 4)) (g_v (e_getN hT hpw (hio 8 (by decide)) (pv 8) (e_vr (pv 9))) (g_nil))))))))) (s_cons (s_if (c_cmp (o_ne (hu64 hr)) b_ne (e_repr hgd (hu66 hr) rfl fx.z_repr (e_q (d_callK c_exposed hr hgd (ks := ["old", "new", "tick", "kind", "feasts"]) (fun _ _ _ _ _ _ us hl => match us, hl with | [_, _, _, _, _], _ => rfl) (kk_cons (e_vr (pv 2)) (kk_cons (e_vr (pv 3)) (kk_cons (e_vr (pv 5)) (kk_cons (e_vr (pv 9)) (kk_cons (e_vr (pv 4)) (kk_nil))))))))) (e_q (e_repr hgd (hu66 hr) rfl fx.z_repr (e_q (d_call c__law_stretches hr hgd (g_v (e_vr (pv 11)) (g_nil)))))) rfl) (s_one (s_ret (e_bl))) (s_nil)) (s_cons (s_if (PW.pt (w_or (PW.pt (w_and (c_cmp (o_ne (hu64 hr)) b_ne (e_vr (pv 11)) (e_q (e_om (e_lst (a_nil)))) rfl) (w_1a (c_cmp op_le b_le (e_ix (hu66 hr) (e_vr (pv 11)) (e_int)) (e_q (e_sub (e_vr (pv 5)) (e_mul (e_int) (e_vr (pv 1))))) rfl)))) (w_1o (c_cmp (o_ne (hu64 hr)) b_ne (d_call c_exposed hr hgd (g_v (e_vr (pv 2)) (g_v (e_vr (pv 2)) (g_v (e_vr (pv 5)) (g_v (e_vr (pv 9)) (g_v (e_vr (pv 4)) (g_nil))))))) (e_q (e_tup (a_nil))) rfl)))) (s_one (s_ret (e_bl))) (s_nil)) (s_cons (s_set (i := 12) nd rfl (.inl rfl) (hio 12 (by decide)) (e_tup (a_cons (e_vr (pv 1)) (a_cons (e_lk (e_add (e_lk (e_sl (e_ix (hu66 hr) (e_vr (pv 2)) (e_int)) po_0 (po_1 (e_int)))) (e_q (e_tup (a_cons (e_tup (a_cons (e_int) (a_cons (e_int) (a_cons (e_str) (a_cons (e_tup (a_nil)) (a_cons (e_str) (a_nil))))))) (a_nil)))))) (a_nil))))) (s_cons (s_set (i := 13) nd rfl (.inl rfl) (hio 13 (by decide)) (e_tup (a_cons (e_vr (pv 1)) (a_cons (e_lk (e_add (e_lk (e_sl (e_ix (hu66 hr) (e_vr (pv 3)) (e_int)) po_0 (po_1 (e_int)))) (e_q (e_tup (a_cons (e_tup (a_cons (e_int) (a_cons (e_int) (a_cons (e_str) (a_cons (e_tup (a_nil)) (a_cons (e_str) (a_nil))))))) (a_nil)))))) (a_nil))))) (s_one (s_if (PW.pt (w_or (c_cmp (o_ne (hu64 hr)) b_ne (d_call c_exposed hr hgd (g_v (e_vr (pv 12)) (g_v (e_vr (pv 3)) (g_v (e_vr (pv 5)) (g_v (e_vr (pv 9)) (g_v (e_vr (pv 4)) (g_nil))))))) (e_q (e_tup (a_nil))) rfl) (w_1o (c_cmp (o_ne (hu64 hr)) b_ne (d_call c_exposed hr hgd (g_v (e_vr (pv 2)) (g_v (e_vr (pv 13)) (g_v (e_vr (pv 5)) (g_v (e_vr (pv 9)) (g_v (e_vr (pv 4)) (g_nil))))))) (e_q (e_tup (a_nil))) rfl)))) (s_one (s_ret (e_bl))) (s_nil))))))))))) (s_cons (s_set (i := 15) nd rfl (.inl rfl) (hio 15 (by decide)) (e_non)) (s_cons (s_for pNever rfl (i_rg2 rfl fx.z_range (a_cons (e_vr (pv 5)) (a_cons (e_lk (e_add (e_vr (pv 5)) (e_q (e_mul (e_vr (pv 6)) (e_vr (pv 1)))))) (a_nil)))) (pg_name (i := 16) nd rfl (.inr rfl)) (tg_n (hio 16 (by decide))) (s_one (s_if (PW.pt (w_and (c_isN (e_vr (pv 15))) (w_1a (c_tru (e_q (e_all rfl rfl fx.z_all (e_q (e_om (e_lc rfl nd (i_any (e_vr (pv 7))) (own := [("kind", 9)]) (is := [9]) rfl rfl (by decide) (by rw [hz]; decide) (fun _ _ => tw_n (hio 9 (by decide))) (fun _ _ _ _ _ => pg_name (i := 9) nd rfl (by first | exact .inl rfl | exact .inr rfl)) (fun _ _ _ _ _ => k_nil) (fun _ _ _ _ _ _ _ => e_cmp (o_eq (hu64 hr)) b_eq (d_call c__law_exposed hr hgd (g_v (e_vr (pv 2)) (g_v (e_vr (pv 3)) (g_v (e_vr (pv 16)) (g_v (e_vr (pv 9)) (g_v (e_vr (pv 4)) (g_v (e_getN hT hpw (hio 8 (by decide)) (pv 8) (e_vr (pv 9))) (g_nil)))))))) (e_q (e_om (e_lst (a_nil)))) rfl)))))) (fun _ => rfl))))) (s_one (s_set (i := 15) nd rfl (.inl rfl) (hio 15 (by decide)) (e_int1 rfl fx.z_int (e_vr (pv 16))))) (s_nil)))) (s_one (s_ret (e_cmp (o_eq (hu64 hr)) b_eq (e_repr hgd (hu66 hr) rfl fx.z_repr (e_q (d_callK c_safe_tick hr hgd (ks := ["old", "new", "tick", "feasts", "days"]) (fun _ _ _ _ _ _ us hl => match us, hl with | [_, _, _, _, _], _ => rfl) (kk_cons (e_vr (pv 2)) (kk_cons (e_vr (pv 3)) (kk_cons (e_vr (pv 5)) (kk_cons (e_vr (pv 4)) (kk_cons (e_vr (pv 6)) (kk_nil))))))))) (e_q (e_repr hgd (hu66 hr) rfl fx.z_repr (e_q (e_vr (pv 15))))) rfl))))))))))
theorem cal_law (fx : Fx K mg) (c__law_cells : CalF P w K mg base 1 "_law_cells" st__law_cells ["script", "most"] [false, false] false F__law_cells) (c__law_pot : CalF P w K mg base 1 "_law_pot" st__law_pot ["script", "place"] [false, false] true F__law_pot) (c__law_right : CalF P w K mg base 11 "_law_right" st__law_right ["pot"] [true] false F__law_right) (c__law_take : CalF P w K mg base 1 "_law_take" st__law_take ["pot", "upto"] [true, false] false F__law_take) (c__law_is_wide_right : CalF P w K mg base 10 "_law_is_wide_right" st__law_is_wide_right ["pot"] [true] false F__law_is_wide_right) (Fn : Fun K "law" "law" st_law f (PySem.W.fnOf "law" "law" (defArgs st_law) (defBody st_law) (defScope st_law) .none kV doc pm an cdv ct)) (hm : mg "law" = some (.ref f)) :
    CalF P w K mg base 12 "law" st_law ["script"] [false] false F_law := by
  unfold F_law
  refine cal0 (N := ["script", "place", "pot", "lap"]) Fn hm ⟨rfl, rfl, rfl, by decide +kernel, rfl, by decide +kernel, by decide +kernel⟩ rfl rfl (fun _ _ _ _ _ _ us hl => match us, hl with | [_], _ => rfl) fun cdv A outer s H E Z hz hr hgd => ?_
  obtain ⟨hz, hpw⟩ := hz
  have hio : ∀ i, i ∉ posT [false] 0 → i ∉ Z.ios := by rw [hz]; exact fun _ h => h
  have nd : (["script", "place", "pot", "lap"] : List Str).Nodup := by decide
  exact s_cons (s_for pNever rfl (i_any (d_call c__law_cells hr hgd (g_v (e_vr (pv 0)) (g_v (e_int) (g_nil))))) (pg_name (i := 1) nd rfl (.inl rfl)) (tg_n (hio 1 (by decide))) (s_cons (s_setO (i := 2) nd rfl (.inr rfl) (hio 2 (by decide)) (d_callO c__law_pot hr hgd (g_v (e_vr (pv 0)) (g_v (e_vr (pv 1)) (g_nil))))) (s_cons (s_if (c_not (c_tru (e_q (e_all rfl rfl fx.z_all (e_q (e_om (e_lc rfl nd (i_rg1 rfl fx.z_range (a_cons (e_int) (a_nil))) (own := [("lap", 3)]) (is := [3]) rfl rfl (by decide) (by rw [hz]; decide) (fun _ _ => tw_n (hio 3 (by decide))) (fun _ _ _ _ _ => pg_name (i := 3) nd rfl (by first | exact .inl rfl | exact .inr rfl)) (fun _ _ _ _ _ => k_nil) (fun _ _ _ _ _ _ _ => d_call c__law_right hr hgd (g_io (pv 2) (g_nil)))))))) (fun _ => rfl))) (s_one (s_ret (e_bl))) (s_nil)) (s_one (s_if (PW.pt (w_and (c_cmp (o_eq (hu64 hr)) b_eq (d_call c__law_take hr hgd (g_io (pv 2) (g_v (e_int) (g_nil)))) (e_q (e_int)) rfl) (w_1a (c_not (c_tru (e_q (d_call c__law_is_wide_right hr hgd (g_io (pv 2) (g_nil)))) (fun _ => rfl)))))) (s_one (s_ret (e_bl))) (s_nil)))))) (s_one (s_ret (e_bl)))
end
theorem all_mk {l : PySem.W.OpenLaw} {w : World} {K : PySem.W.Frag} {h : Heap} {mg : Str → Option Value} {fa f1 f2 f3 f4 f5 f6 f7 f8 f9 f10 f11 f12 f13 f14 f15 f16 f17 f18 f19 f20 f21 f22 f23 f24 f25 f26 f27 f28 f29 f30 f31 f32 f33 f34 f35 f36 f37 f38 f39 f40 f41 f42 f43 f44 f45 : Addr} (X : K.In h) (G : h.Ns mainGlobals mg) (hfa : mg "law" = some (.ref fa))
    {od1 an1 od2 an2 od3 an3 od4 an4 od5 an5 od6 an6 od7 an7 od8 an8 od9 an9 od10 an10 od11 an11 od12 an12 od13 an13 od14 an14 od15 an15 od16 an16 od17 an17 od18 an18 od19 an19 od20 an20 od21 an21 od22 an22 od23 an23 od24 an24 od25 an25 od26 an26 od27 an27 od28 an28 od29 an29 od30 an30 od31 an31 od32 an32 od33 an33 od34 an34 od35 an35 od36 an36 od37 an37 od38 an38 od39 an39 od40 an40 od41 an41 od42 an42 od43 an43 od44 an44 od45 an45 : Option Addr} {sl1 sl2 sl3 sl4 sl5 sl6 sl7 sl8 sl9 sl10 sl11 sl12 sl13 sl14 sl15 sl16 sl17 sl18 sl19 sl20 sl21 sl22 sl23 sl24 sl25 sl26 sl27 sl28 sl29 sl30 sl31 sl32 sl33 sl34 sl35 sl36 sl37 sl38 sl39 sl40 sl41 sl42 sl43 sl44 sl45 : Array (Option Value)} {oc1 kV1 dc1 pm1 cd1 ct1 oc2 kV2 dc2 pm2 cd2 ct2 oc3 kV3 dc3 pm3 cd3 ct3 oc4 kV4 dc4 pm4 cd4 ct4 oc5 kV5 dc5 pm5 cd5 ct5 oc6 kV6 dc6 pm6 cd6 ct6 oc7 kV7 dc7 pm7 cd7 ct7 oc8 kV8 dc8 pm8 cd8 ct8 oc9 kV9 dc9 pm9 cd9 ct9 oc10 kV10 dc10 pm10 cd10 ct10 oc11 kV11 dc11 pm11 cd11 ct11 oc12 kV12 dc12 pm12 cd12 ct12 oc13 kV13 dc13 pm13 cd13 ct13 oc14 kV14 dc14 pm14 cd14 ct14 oc15 kV15 dc15 pm15 cd15 ct15 oc16 kV16 dc16 pm16 cd16 ct16 oc17 kV17 dc17 pm17 cd17 ct17 oc18 kV18 dc18 pm18 cd18 ct18 oc19 kV19 dc19 pm19 cd19 ct19 oc20 kV20 dc20 pm20 cd20 ct20 oc21 kV21 dc21 pm21 cd21 ct21 oc22 kV22 dc22 pm22 cd22 ct22 oc23 kV23 dc23 pm23 cd23 ct23 oc24 kV24 dc24 pm24 cd24 ct24 oc25 kV25 dc25 pm25 cd25 ct25 oc26 kV26 dc26 pm26 cd26 ct26 oc27 kV27 dc27 pm27 cd27 ct27 oc28 kV28 dc28 pm28 cd28 ct28 oc29 kV29 dc29 pm29 cd29 ct29 oc30 kV30 dc30 pm30 cd30 ct30 oc31 kV31 dc31 pm31 cd31 ct31 oc32 kV32 dc32 pm32 cd32 ct32 oc33 kV33 dc33 pm33 cd33 ct33 oc34 kV34 dc34 pm34 cd34 ct34 oc35 kV35 dc35 pm35 cd35 ct35 oc36 kV36 dc36 pm36 cd36 ct36 oc37 kV37 dc37 pm37 cd37 ct37 oc38 kV38 dc38 pm38 cd38 ct38 oc39 kV39 dc39 pm39 cd39 ct39 oc40 kV40 dc40 pm40 cd40 ct40 oc41 kV41 dc41 pm41 cd41 ct41 oc42 kV42 dc42 pm42 cd42 ct42 oc43 kV43 dc43 pm43 cd43 ct43 oc44 kV44 dc44 pm44 cd44 ct44 oc45 kV45 dc45 pm45 cd45 ct45 : Value}
    {t_MOST_SIGNS t_LETTERS t_FIGURES t_MOST_KINDS t_MOST_LIMIT t_MOST_GONE t_DAYS t_ANY t_PLAIN t_FEAST t_EVE t_MOST_HOURS t_MOST_ROWS t_LAST_TICK t_MOST_FEASTS t_LAST_DAY t_FREE t_BARRED t_MOST_DAYS : Tok}
    (a1 : PySem.W.nsIn K mainGlobals "_law_cells" = some (some (.ref f1))) (l1 : K.lookup f1 = some ⟨oc1, od1, .func (PySem.W.fnOf "_law_cells" "_law_cells" (defArgs st__law_cells) (defBody st__law_cells) (defScope st__law_cells) .none kV1 dc1 pm1 an1 cd1 ct1), sl1⟩) (c1 : PySem.W.codeIn K cd1 "_law_cells" = true) (k1 : PySem.W.keepIn K (.ref f1) = true)
    (a2 : PySem.W.nsIn K mainGlobals "_law_pot" = some (some (.ref f2))) (l2 : K.lookup f2 = some ⟨oc2, od2, .func (PySem.W.fnOf "_law_pot" "_law_pot" (defArgs st__law_pot) (defBody st__law_pot) (defScope st__law_pot) .none kV2 dc2 pm2 an2 cd2 ct2), sl2⟩) (c2 : PySem.W.codeIn K cd2 "_law_pot" = true) (k2 : PySem.W.keepIn K (.ref f2) = true)
    (a3 : PySem.W.nsIn K mainGlobals "_law_take" = some (some (.ref f3))) (l3 : K.lookup f3 = some ⟨oc3, od3, .func (PySem.W.fnOf "_law_take" "_law_take" (defArgs st__law_take) (defBody st__law_take) (defScope st__law_take) .none kV3 dc3 pm3 an3 cd3 ct3), sl3⟩) (c3 : PySem.W.codeIn K cd3 "_law_take" = true) (k3 : PySem.W.keepIn K (.ref f3) = true)
    (a4 : PySem.W.nsIn K mainGlobals "_law_told" = some (some (.ref f4))) (l4 : K.lookup f4 = some ⟨oc4, od4, .func (PySem.W.fnOf "_law_told" "_law_told" (defArgs st__law_told) (defBody st__law_told) (defScope st__law_told) .none kV4 dc4 pm4 an4 cd4 ct4), sl4⟩) (c4 : PySem.W.codeIn K cd4 "_law_told" = true) (k4 : PySem.W.keepIn K (.ref f4) = true)
    (a5 : PySem.W.nsIn K mainGlobals "_law_exposed" = some (some (.ref f5))) (l5 : K.lookup f5 = some ⟨oc5, od5, .func (PySem.W.fnOf "_law_exposed" "_law_exposed" (defArgs st__law_exposed) (defBody st__law_exposed) (defScope st__law_exposed) .none kV5 dc5 pm5 an5 cd5 ct5), sl5⟩) (c5 : PySem.W.codeIn K cd5 "_law_exposed" = true) (k5 : PySem.W.keepIn K (.ref f5) = true)
    (a6 : PySem.W.nsIn K mainGlobals "_law_of" = some (some (.ref f6))) (l6 : K.lookup f6 = some ⟨oc6, od6, .func (PySem.W.fnOf "_law_of" "_law_of" (defArgs st__law_of) (defBody st__law_of) (defScope st__law_of) .none kV6 dc6 pm6 an6 cd6 ct6), sl6⟩) (c6 : PySem.W.codeIn K cd6 "_law_of" = true) (k6 : PySem.W.keepIn K (.ref f6) = true)
    (a7 : PySem.W.nsIn K mainGlobals "_law_answer" = some (some (.ref f7))) (l7 : K.lookup f7 = some ⟨oc7, od7, .func (PySem.W.fnOf "_law_answer" "_law_answer" (defArgs st__law_answer) (defBody st__law_answer) (defScope st__law_answer) .none kV7 dc7 pm7 an7 cd7 ct7), sl7⟩) (c7 : PySem.W.codeIn K cd7 "_law_answer" = true) (k7 : PySem.W.keepIn K (.ref f7) = true)
    (a8 : PySem.W.nsIn K mainGlobals "_law_row" = some (some (.ref f8))) (l8 : K.lookup f8 = some ⟨oc8, od8, .func (PySem.W.fnOf "_law_row" "_law_row" (defArgs st__law_row) (defBody st__law_row) (defScope st__law_row) .none kV8 dc8 pm8 an8 cd8 ct8), sl8⟩) (c8 : PySem.W.codeIn K cd8 "_law_row" = true) (k8 : PySem.W.keepIn K (.ref f8) = true)
    (a9 : PySem.W.nsIn K mainGlobals "_law_sign" = some (some (.ref f9))) (l9 : K.lookup f9 = some ⟨oc9, od9, .func (PySem.W.fnOf "_law_sign" "_law_sign" (defArgs st__law_sign) (defBody st__law_sign) (defScope st__law_sign) .none kV9 dc9 pm9 an9 cd9 ct9), sl9⟩) (c9 : PySem.W.codeIn K cd9 "_law_sign" = true) (k9 : PySem.W.keepIn K (.ref f9) = true)
    (a10 : PySem.W.nsIn K mainGlobals "_law_feasts" = some (some (.ref f10))) (l10 : K.lookup f10 = some ⟨oc10, od10, .func (PySem.W.fnOf "_law_feasts" "_law_feasts" (defArgs st__law_feasts) (defBody st__law_feasts) (defScope st__law_feasts) .none kV10 dc10 pm10 an10 cd10 ct10), sl10⟩) (c10 : PySem.W.codeIn K cd10 "_law_feasts" = true) (k10 : PySem.W.keepIn K (.ref f10) = true)
    (a11 : PySem.W.nsIn K mainGlobals "_law_end" = some (some (.ref f11))) (l11 : K.lookup f11 = some ⟨oc11, od11, .func (PySem.W.fnOf "_law_end" "_law_end" (defArgs st__law_end) (defBody st__law_end) (defScope st__law_end) .none kV11 dc11 pm11 an11 cd11 ct11), sl11⟩) (c11 : PySem.W.codeIn K cd11 "_law_end" = true) (k11 : PySem.W.keepIn K (.ref f11) = true)
    (a12 : PySem.W.nsIn K mainGlobals "is_integer" = some (some (.ref f12))) (l12 : K.lookup f12 = some ⟨oc12, od12, .func (PySem.W.fnOf "is_integer" "is_integer" (defArgs st_is_integer) (defBody st_is_integer) (defScope st_is_integer) .none kV12 dc12 pm12 an12 cd12 ct12), sl12⟩) (c12 : PySem.W.codeIn K cd12 "is_integer" = true) (k12 : PySem.W.keepIn K (.ref f12) = true)
    (a13 : PySem.W.nsIn K mainGlobals "is_between" = some (some (.ref f13))) (l13 : K.lookup f13 = some ⟨oc13, od13, .func (PySem.W.fnOf "is_between" "is_between" (defArgs st_is_between) (defBody st_is_between) (defScope st_is_between) .none kV13 dc13 pm13 an13 cd13 ct13), sl13⟩) (c13 : PySem.W.codeIn K cd13 "is_between" = true) (k13 : PySem.W.keepIn K (.ref f13) = true)
    (a14 : PySem.W.nsIn K mainGlobals "is_ascending" = some (some (.ref f14))) (l14 : K.lookup f14 = some ⟨oc14, od14, .func (PySem.W.fnOf "is_ascending" "is_ascending" (defArgs st_is_ascending) (defBody st_is_ascending) (defScope st_is_ascending) .none kV14 dc14 pm14 an14 cd14 ct14), sl14⟩) (c14 : PySem.W.codeIn K cd14 "is_ascending" = true) (k14 : PySem.W.keepIn K (.ref f14) = true)
    (a15 : PySem.W.nsIn K mainGlobals "is_name" = some (some (.ref f15))) (l15 : K.lookup f15 = some ⟨oc15, od15, .func (PySem.W.fnOf "is_name" "is_name" (defArgs st_is_name) (defBody st_is_name) (defScope st_is_name) .none kV15 dc15 pm15 an15 cd15 ct15), sl15⟩) (c15 : PySem.W.codeIn K cd15 "is_name" = true) (k15 : PySem.W.keepIn K (.ref f15) = true)
    (a16 : PySem.W.nsIn K mainGlobals "are_kinds" = some (some (.ref f16))) (l16 : K.lookup f16 = some ⟨oc16, od16, .func (PySem.W.fnOf "are_kinds" "are_kinds" (defArgs st_are_kinds) (defBody st_are_kinds) (defScope st_are_kinds) .none kV16 dc16 pm16 an16 cd16 ct16), sl16⟩) (c16 : PySem.W.codeIn K cd16 "are_kinds" = true) (k16 : PySem.W.keepIn K (.ref f16) = true)
    (a17 : PySem.W.nsIn K mainGlobals "is_bound" = some (some (.ref f17))) (l17 : K.lookup f17 = some ⟨oc17, od17, .func (PySem.W.fnOf "is_bound" "is_bound" (defArgs st_is_bound) (defBody st_is_bound) (defScope st_is_bound) .none kV17 dc17 pm17 an17 cd17 ct17), sl17⟩) (c17 : PySem.W.codeIn K cd17 "is_bound" = true) (k17 : PySem.W.keepIn K (.ref f17) = true)
    (a18 : PySem.W.nsIn K mainGlobals "is_answer" = some (some (.ref f18))) (l18 : K.lookup f18 = some ⟨oc18, od18, .func (PySem.W.fnOf "is_answer" "is_answer" (defArgs st_is_answer) (defBody st_is_answer) (defScope st_is_answer) .none kV18 dc18 pm18 an18 cd18 ct18), sl18⟩) (c18 : PySem.W.codeIn K cd18 "is_answer" = true) (k18 : PySem.W.keepIn K (.ref f18) = true)
    (a19 : PySem.W.nsIn K mainGlobals "is_row" = some (some (.ref f19))) (l19 : K.lookup f19 = some ⟨oc19, od19, .func (PySem.W.fnOf "is_row" "is_row" (defArgs st_is_row) (defBody st_is_row) (defScope st_is_row) .none kV19 dc19 pm19 an19 cd19 ct19), sl19⟩) (c19 : PySem.W.codeIn K cd19 "is_row" = true) (k19 : PySem.W.keepIn K (.ref f19) = true)
    (a20 : PySem.W.nsIn K mainGlobals "is_sign" = some (some (.ref f20))) (l20 : K.lookup f20 = some ⟨oc20, od20, .func (PySem.W.fnOf "is_sign" "is_sign" (defArgs st_is_sign) (defBody st_is_sign) (defScope st_is_sign) .none kV20 dc20 pm20 an20 cd20 ct20), sl20⟩) (c20 : PySem.W.codeIn K cd20 "is_sign" = true) (k20 : PySem.W.keepIn K (.ref f20) = true)
    (a21 : PySem.W.nsIn K mainGlobals "check_sign" = some (some (.ref f21))) (l21 : K.lookup f21 = some ⟨oc21, od21, .func (PySem.W.fnOf "check_sign" "check_sign" (defArgs st_check_sign) (defBody st_check_sign) (defScope st_check_sign) .none kV21 dc21 pm21 an21 cd21 ct21), sl21⟩) (c21 : PySem.W.codeIn K cd21 "check_sign" = true) (k21 : PySem.W.keepIn K (.ref f21) = true)
    (a22 : PySem.W.nsIn K mainGlobals "check_signs" = some (some (.ref f22))) (l22 : K.lookup f22 = some ⟨oc22, od22, .func (PySem.W.fnOf "check_signs" "check_signs" (defArgs st_check_signs) (defBody st_check_signs) (defScope st_check_signs) .none kV22 dc22 pm22 an22 cd22 ct22), sl22⟩) (c22 : PySem.W.codeIn K cd22 "check_signs" = true) (k22 : PySem.W.keepIn K (.ref f22) = true)
    (a23 : PySem.W.nsIn K mainGlobals "is_tick" = some (some (.ref f23))) (l23 : K.lookup f23 = some ⟨oc23, od23, .func (PySem.W.fnOf "is_tick" "is_tick" (defArgs st_is_tick) (defBody st_is_tick) (defScope st_is_tick) .none kV23 dc23 pm23 an23 cd23 ct23), sl23⟩) (c23 : PySem.W.codeIn K cd23 "is_tick" = true) (k23 : PySem.W.keepIn K (.ref f23) = true)
    (a24 : PySem.W.nsIn K mainGlobals "check_tick" = some (some (.ref f24))) (l24 : K.lookup f24 = some ⟨oc24, od24, .func (PySem.W.fnOf "check_tick" "check_tick" (defArgs st_check_tick) (defBody st_check_tick) (defScope st_check_tick) .none kV24 dc24 pm24 an24 cd24 ct24), sl24⟩) (c24 : PySem.W.codeIn K cd24 "check_tick" = true) (k24 : PySem.W.keepIn K (.ref f24) = true)
    (a25 : PySem.W.nsIn K mainGlobals "is_kind" = some (some (.ref f25))) (l25 : K.lookup f25 = some ⟨oc25, od25, .func (PySem.W.fnOf "is_kind" "is_kind" (defArgs st_is_kind) (defBody st_is_kind) (defScope st_is_kind) .none kV25 dc25 pm25 an25 cd25 ct25), sl25⟩) (c25 : PySem.W.codeIn K cd25 "is_kind" = true) (k25 : PySem.W.keepIn K (.ref f25) = true)
    (a26 : PySem.W.nsIn K mainGlobals "check_kind" = some (some (.ref f26))) (l26 : K.lookup f26 = some ⟨oc26, od26, .func (PySem.W.fnOf "check_kind" "check_kind" (defArgs st_check_kind) (defBody st_check_kind) (defScope st_check_kind) .none kV26 dc26 pm26 an26 cd26 ct26), sl26⟩) (c26 : PySem.W.codeIn K cd26 "check_kind" = true) (k26 : PySem.W.keepIn K (.ref f26) = true)
    (a27 : PySem.W.nsIn K mainGlobals "are_feasts" = some (some (.ref f27))) (l27 : K.lookup f27 = some ⟨oc27, od27, .func (PySem.W.fnOf "are_feasts" "are_feasts" (defArgs st_are_feasts) (defBody st_are_feasts) (defScope st_are_feasts) .none kV27 dc27 pm27 an27 cd27 ct27), sl27⟩) (c27 : PySem.W.codeIn K cd27 "are_feasts" = true) (k27 : PySem.W.keepIn K (.ref f27) = true)
    (a28 : PySem.W.nsIn K mainGlobals "check_feasts" = some (some (.ref f28))) (l28 : K.lookup f28 = some ⟨oc28, od28, .func (PySem.W.fnOf "check_feasts" "check_feasts" (defArgs st_check_feasts) (defBody st_check_feasts) (defScope st_check_feasts) .none kV28 dc28 pm28 an28 cd28 ct28), sl28⟩) (c28 : PySem.W.codeIn K cd28 "check_feasts" = true) (k28 : PySem.W.keepIn K (.ref f28) = true)
    (a29 : PySem.W.nsIn K mainGlobals "does_fit" = some (some (.ref f29))) (l29 : K.lookup f29 = some ⟨oc29, od29, .func (PySem.W.fnOf "does_fit" "does_fit" (defArgs st_does_fit) (defBody st_does_fit) (defScope st_does_fit) .none kV29 dc29 pm29 an29 cd29 ct29), sl29⟩) (c29 : PySem.W.codeIn K cd29 "does_fit" = true) (k29 : PySem.W.keepIn K (.ref f29) = true)
    (a30 : PySem.W.nsIn K mainGlobals "does_bear" = some (some (.ref f30))) (l30 : K.lookup f30 = some ⟨oc30, od30, .func (PySem.W.fnOf "does_bear" "does_bear" (defArgs st_does_bear) (defBody st_does_bear) (defScope st_does_bear) .none kV30 dc30 pm30 an30 cd30 ct30), sl30⟩) (c30 : PySem.W.codeIn K cd30 "does_bear" = true) (k30 : PySem.W.keepIn K (.ref f30) = true)
    (a31 : PySem.W.nsIn K mainGlobals "told_at" = some (some (.ref f31))) (l31 : K.lookup f31 = some ⟨oc31, od31, .func (PySem.W.fnOf "told_at" "told_at" (defArgs st_told_at) (defBody st_told_at) (defScope st_told_at) .none kV31 dc31 pm31 an31 cd31 ct31), sl31⟩) (c31 : PySem.W.codeIn K cd31 "told_at" = true) (k31 : PySem.W.keepIn K (.ref f31) = true)
    (a32 : PySem.W.nsIn K mainGlobals "next_barred" = some (some (.ref f32))) (l32 : K.lookup f32 = some ⟨oc32, od32, .func (PySem.W.fnOf "next_barred" "next_barred" (defArgs st_next_barred) (defBody st_next_barred) (defScope st_next_barred) .none kV32 dc32 pm32 an32 cd32 ct32), sl32⟩) (c32 : PySem.W.codeIn K cd32 "next_barred" = true) (k32 : PySem.W.keepIn K (.ref f32) = true)
    (a33 : PySem.W.nsIn K mainGlobals "end_of" = some (some (.ref f33))) (l33 : K.lookup f33 = some ⟨oc33, od33, .func (PySem.W.fnOf "end_of" "end_of" (defArgs st_end_of) (defBody st_end_of) (defScope st_end_of) .none kV33 dc33 pm33 an33 cd33 ct33), sl33⟩) (c33 : PySem.W.codeIn K cd33 "end_of" = true) (k33 : PySem.W.keepIn K (.ref f33) = true)
    (a34 : PySem.W.nsIn K mainGlobals "ends_of" = some (some (.ref f34))) (l34 : K.lookup f34 = some ⟨oc34, od34, .func (PySem.W.fnOf "ends_of" "ends_of" (defArgs st_ends_of) (defBody st_ends_of) (defScope st_ends_of) .none kV34 dc34 pm34 an34 cd34 ct34), sl34⟩) (c34 : PySem.W.codeIn K cd34 "ends_of" = true) (k34 : PySem.W.keepIn K (.ref f34) = true)
    (a35 : PySem.W.nsIn K mainGlobals "exposed_begins" = some (some (.ref f35))) (l35 : K.lookup f35 = some ⟨oc35, od35, .func (PySem.W.fnOf "exposed_begins" "exposed_begins" (defArgs st_exposed_begins) (defBody st_exposed_begins) (defScope st_exposed_begins) .none kV35 dc35 pm35 an35 cd35 ct35), sl35⟩) (c35 : PySem.W.codeIn K cd35 "exposed_begins" = true) (k35 : PySem.W.keepIn K (.ref f35) = true)
    (a36 : PySem.W.nsIn K mainGlobals "exposed" = some (some (.ref f36))) (l36 : K.lookup f36 = some ⟨oc36, od36, .func (PySem.W.fnOf "exposed" "exposed" (defArgs st_exposed) (defBody st_exposed) (defScope st_exposed) .none kV36 dc36 pm36 an36 cd36 ct36), sl36⟩) (c36 : PySem.W.codeIn K cd36 "exposed" = true) (k36 : PySem.W.keepIn K (.ref f36) = true)
    (a37 : PySem.W.nsIn K mainGlobals "_law_stretches" = some (some (.ref f37))) (l37 : K.lookup f37 = some ⟨oc37, od37, .func (PySem.W.fnOf "_law_stretches" "_law_stretches" (defArgs st__law_stretches) (defBody st__law_stretches) (defScope st__law_stretches) .none kV37 dc37 pm37 an37 cd37 ct37), sl37⟩) (c37 : PySem.W.codeIn K cd37 "_law_stretches" = true) (k37 : PySem.W.keepIn K (.ref f37) = true)
    (a38 : PySem.W.nsIn K mainGlobals "lawful_end" = some (some (.ref f38))) (l38 : K.lookup f38 = some ⟨oc38, od38, .func (PySem.W.fnOf "lawful_end" "lawful_end" (defArgs st_lawful_end) (defBody st_lawful_end) (defScope st_lawful_end) .none kV38 dc38 pm38 an38 cd38 ct38), sl38⟩) (c38 : PySem.W.codeIn K cd38 "lawful_end" = true) (k38 : PySem.W.keepIn K (.ref f38) = true)
    (a39 : PySem.W.nsIn K mainGlobals "_law_is_wide_right" = some (some (.ref f39))) (l39 : K.lookup f39 = some ⟨oc39, od39, .func (PySem.W.fnOf "_law_is_wide_right" "_law_is_wide_right" (defArgs st__law_is_wide_right) (defBody st__law_is_wide_right) (defScope st__law_is_wide_right) .none kV39 dc39 pm39 an39 cd39 ct39), sl39⟩) (c39 : PySem.W.codeIn K cd39 "_law_is_wide_right" = true) (k39 : PySem.W.keepIn K (.ref f39) = true)
    (a40 : PySem.W.nsIn K mainGlobals "check_change" = some (some (.ref f40))) (l40 : K.lookup f40 = some ⟨oc40, od40, .func (PySem.W.fnOf "check_change" "check_change" (defArgs st_check_change) (defBody st_check_change) (defScope st_check_change) .none kV40 dc40 pm40 an40 cd40 ct40), sl40⟩) (c40 : PySem.W.codeIn K cd40 "check_change" = true) (k40 : PySem.W.keepIn K (.ref f40) = true)
    (a41 : PySem.W.nsIn K mainGlobals "named" = some (some (.ref f41))) (l41 : K.lookup f41 = some ⟨oc41, od41, .func (PySem.W.fnOf "named" "named" (defArgs st_named) (defBody st_named) (defScope st_named) .none kV41 dc41 pm41 an41 cd41 ct41), sl41⟩) (c41 : PySem.W.codeIn K cd41 "named" = true) (k41 : PySem.W.keepIn K (.ref f41) = true)
    (a42 : PySem.W.nsIn K mainGlobals "unsafe_ticks" = some (some (.ref f42))) (l42 : K.lookup f42 = some ⟨oc42, od42, .func (PySem.W.fnOf "unsafe_ticks" "unsafe_ticks" (defArgs st_unsafe_ticks) (defBody st_unsafe_ticks) (defScope st_unsafe_ticks) .none kV42 dc42 pm42 an42 cd42 ct42), sl42⟩) (c42 : PySem.W.codeIn K cd42 "unsafe_ticks" = true) (k42 : PySem.W.keepIn K (.ref f42) = true)
    (a43 : PySem.W.nsIn K mainGlobals "safe_tick" = some (some (.ref f43))) (l43 : K.lookup f43 = some ⟨oc43, od43, .func (PySem.W.fnOf "safe_tick" "safe_tick" (defArgs st_safe_tick) (defBody st_safe_tick) (defScope st_safe_tick) .none kV43 dc43 pm43 an43 cd43 ct43), sl43⟩) (c43 : PySem.W.codeIn K cd43 "safe_tick" = true) (k43 : PySem.W.keepIn K (.ref f43) = true)
    (a44 : PySem.W.nsIn K mainGlobals "_law_right" = some (some (.ref f44))) (l44 : K.lookup f44 = some ⟨oc44, od44, .func (PySem.W.fnOf "_law_right" "_law_right" (defArgs st__law_right) (defBody st__law_right) (defScope st__law_right) .none kV44 dc44 pm44 an44 cd44 ct44), sl44⟩) (c44 : PySem.W.codeIn K cd44 "_law_right" = true) (k44 : PySem.W.keepIn K (.ref f44) = true)
    (a45 : PySem.W.nsIn K mainGlobals "law" = some (some (.ref f45))) (l45 : K.lookup f45 = some ⟨oc45, od45, .func (PySem.W.fnOf "law" "law" (defArgs st_law) (defBody st_law) (defScope st_law) .none kV45 dc45 pm45 an45 cd45 ct45), sl45⟩) (c45 : PySem.W.codeIn K cd45 "law" = true) (k45 : PySem.W.keepIn K (.ref f45) = true)
    (z_abs : PySem.W.nsIn K mainGlobals "abs" = some none)
    (z_all : PySem.W.nsIn K mainGlobals "all" = some none)
    (z_bool : PySem.W.nsIn K mainGlobals "bool" = some none)
    (z_int : PySem.W.nsIn K mainGlobals "int" = some none)
    (z_isinstance : PySem.W.nsIn K mainGlobals "isinstance" = some none)
    (z_len : PySem.W.nsIn K mainGlobals "len" = some none)
    (z_list : PySem.W.nsIn K mainGlobals "list" = some none)
    (z_max : PySem.W.nsIn K mainGlobals "max" = some none)
    (z_min : PySem.W.nsIn K mainGlobals "min" = some none)
    (z_range : PySem.W.nsIn K mainGlobals "range" = some none)
    (z_repr : PySem.W.nsIn K mainGlobals "repr" = some none)
    (z_sorted : PySem.W.nsIn K mainGlobals "sorted" = some none)
    (z_str : PySem.W.nsIn K mainGlobals "str" = some none)
    (z_sum : PySem.W.nsIn K mainGlobals "sum" = some none)
    (z_tuple : PySem.W.nsIn K mainGlobals "tuple" = some none)
    (z_zip : PySem.W.nsIn K mainGlobals "zip" = some none)
    (g_MOST_SIGNS : PySem.W.nsIn K mainGlobals "MOST_SIGNS" = some (some (.int 8 t_MOST_SIGNS)))
    (g_LETTERS : PySem.W.nsIn K mainGlobals "LETTERS" = some (some (.str "abcdefghijklmnopqrstuvwxyz" t_LETTERS)))
    (g_FIGURES : PySem.W.nsIn K mainGlobals "FIGURES" = some (some (.str "0123456789" t_FIGURES)))
    (g_MOST_KINDS : PySem.W.nsIn K mainGlobals "MOST_KINDS" = some (some (.int 12 t_MOST_KINDS)))
    (g_MOST_LIMIT : PySem.W.nsIn K mainGlobals "MOST_LIMIT" = some (some (.int 10000 t_MOST_LIMIT)))
    (g_MOST_GONE : PySem.W.nsIn K mainGlobals "MOST_GONE" = some (some (.int 9999 t_MOST_GONE)))
    (g_DAYS : PySem.W.nsIn K mainGlobals "DAYS" = some (some (.int 7 t_DAYS)))
    (g_ANY : PySem.W.nsIn K mainGlobals "ANY" = some (some (.str "any" t_ANY)))
    (g_PLAIN : PySem.W.nsIn K mainGlobals "PLAIN" = some (some (.str "plain" t_PLAIN)))
    (g_FEAST : PySem.W.nsIn K mainGlobals "FEAST" = some (some (.str "feast" t_FEAST)))
    (g_EVE : PySem.W.nsIn K mainGlobals "EVE" = some (some (.str "eve" t_EVE)))
    (g_MOST_HOURS : PySem.W.nsIn K mainGlobals "MOST_HOURS" = some (some (.int 24 t_MOST_HOURS)))
    (g_MOST_ROWS : PySem.W.nsIn K mainGlobals "MOST_ROWS" = some (some (.int 12 t_MOST_ROWS)))
    (g_LAST_TICK : PySem.W.nsIn K mainGlobals "LAST_TICK" = some (some (.int 9999 t_LAST_TICK)))
    (g_MOST_FEASTS : PySem.W.nsIn K mainGlobals "MOST_FEASTS" = some (some (.int 400 t_MOST_FEASTS)))
    (g_LAST_DAY : PySem.W.nsIn K mainGlobals "LAST_DAY" = some (some (.int 10000 t_LAST_DAY)))
    (g_FREE : PySem.W.nsIn K mainGlobals "FREE" = some (some (.str "free" t_FREE)))
    (g_BARRED : PySem.W.nsIn K mainGlobals "BARRED" = some (some (.str "barred" t_BARRED)))
    (g_MOST_DAYS : PySem.W.nsIn K mainGlobals "MOST_DAYS" = some (some (.int 60 t_MOST_DAYS)))
    : mg "law" = some (.ref fa) ∧ ∀ base : Heap, K.In base → base.Ns mainGlobals mg → CalF l.prog w K mg base 12 "law" st_law ["script"] [false] false F_law := by
  have fx : Fx K mg := ⟨PySem.W.mg_none_of X G z_abs, PySem.W.mg_none_of X G z_all, PySem.W.mg_none_of X G z_bool, PySem.W.mg_none_of X G z_int, PySem.W.mg_none_of X G z_isinstance, PySem.W.mg_none_of X G z_len, PySem.W.mg_none_of X G z_list, PySem.W.mg_none_of X G z_max, PySem.W.mg_none_of X G z_min, PySem.W.mg_none_of X G z_range, PySem.W.mg_none_of X G z_repr, PySem.W.mg_none_of X G z_sorted, PySem.W.mg_none_of X G z_str, PySem.W.mg_none_of X G z_sum, PySem.W.mg_none_of X G z_tuple, PySem.W.mg_none_of X G z_zip, ⟨t_MOST_SIGNS, PySem.W.mg_of X G g_MOST_SIGNS⟩, ⟨t_LETTERS, PySem.W.mg_of X G g_LETTERS⟩, ⟨t_FIGURES, PySem.W.mg_of X G g_FIGURES⟩, ⟨t_MOST_KINDS, PySem.W.mg_of X G g_MOST_KINDS⟩, ⟨t_MOST_LIMIT, PySem.W.mg_of X G g_MOST_LIMIT⟩, ⟨t_MOST_GONE, PySem.W.mg_of X G g_MOST_GONE⟩, ⟨t_DAYS, PySem.W.mg_of X G g_DAYS⟩, ⟨t_ANY, PySem.W.mg_of X G g_ANY⟩, ⟨t_PLAIN, PySem.W.mg_of X G g_PLAIN⟩, ⟨t_FEAST, PySem.W.mg_of X G g_FEAST⟩, ⟨t_EVE, PySem.W.mg_of X G g_EVE⟩, ⟨t_MOST_HOURS, PySem.W.mg_of X G g_MOST_HOURS⟩, ⟨t_MOST_ROWS, PySem.W.mg_of X G g_MOST_ROWS⟩, ⟨t_LAST_TICK, PySem.W.mg_of X G g_LAST_TICK⟩, ⟨t_MOST_FEASTS, PySem.W.mg_of X G g_MOST_FEASTS⟩, ⟨t_LAST_DAY, PySem.W.mg_of X G g_LAST_DAY⟩, ⟨t_FREE, PySem.W.mg_of X G g_FREE⟩, ⟨t_BARRED, PySem.W.mg_of X G g_BARRED⟩, ⟨t_MOST_DAYS, PySem.W.mg_of X G g_MOST_DAYS⟩⟩
  refine ⟨hfa, fun base _ _ => ?_⟩
  have C1 := cal__law_cells (P := l.prog) (w := w) (base := base) fx (fun_mk (st := st__law_cells) l1 c1 k1) (PySem.W.mg_of X G a1)
  have C2 := cal__law_pot (P := l.prog) (w := w) (base := base) fx (fun_mk (st := st__law_pot) l2 c2 k2) (PySem.W.mg_of X G a2)
  have C3 := cal__law_take (P := l.prog) (w := w) (base := base) fx (fun_mk (st := st__law_take) l3 c3 k3) (PySem.W.mg_of X G a3)
  have C4 := cal__law_told (P := l.prog) (w := w) (base := base) fx (fun_mk (st := st__law_told) l4 c4 k4) (PySem.W.mg_of X G a4)
  have C5 := cal__law_exposed (P := l.prog) (w := w) (base := base) fx C4 (fun_mk (st := st__law_exposed) l5 c5 k5) (PySem.W.mg_of X G a5)
  have C6 := cal__law_of (P := l.prog) (w := w) (base := base) fx C3 (fun_mk (st := st__law_of) l6 c6 k6) (PySem.W.mg_of X G a6)
  have C7 := cal__law_answer (P := l.prog) (w := w) (base := base) fx C3 C6 (fun_mk (st := st__law_answer) l7 c7 k7) (PySem.W.mg_of X G a7)
  have C8 := cal__law_row (P := l.prog) (w := w) (base := base) fx C3 C6 C7 (fun_mk (st := st__law_row) l8 c8 k8) (PySem.W.mg_of X G a8)
  have C9 := cal__law_sign (P := l.prog) (w := w) (base := base) fx C3 C8 (fun_mk (st := st__law_sign) l9 c9 k9) (PySem.W.mg_of X G a9)
  have C10 := cal__law_feasts (P := l.prog) (w := w) (base := base) fx C3 (fun_mk (st := st__law_feasts) l10 c10 k10) (PySem.W.mg_of X G a10)
  have C11 := cal__law_end (P := l.prog) (w := w) (base := base) fx C4 (fun_mk (st := st__law_end) l11 c11 k11) (PySem.W.mg_of X G a11)
  have C12 := cal_is_integer (P := l.prog) (w := w) (base := base) fx (fun_mk (st := st_is_integer) l12 c12 k12) (PySem.W.mg_of X G a12)
  have C13 := cal_is_between (P := l.prog) (w := w) (base := base) fx C12 (fun_mk (st := st_is_between) l13 c13 k13) (PySem.W.mg_of X G a13)
  have C14 := cal_is_ascending (P := l.prog) (w := w) (base := base) fx (fun_mk (st := st_is_ascending) l14 c14 k14) (PySem.W.mg_of X G a14)
  have C15 := cal_is_name (P := l.prog) (w := w) (base := base) fx (fun_mk (st := st_is_name) l15 c15 k15) (PySem.W.mg_of X G a15)
  have C16 := cal_are_kinds (P := l.prog) (w := w) (base := base) fx C15 C14 (fun_mk (st := st_are_kinds) l16 c16 k16) (PySem.W.mg_of X G a16)
  have C17 := cal_is_bound (P := l.prog) (w := w) (base := base) fx C13 (fun_mk (st := st_is_bound) l17 c17 k17) (PySem.W.mg_of X G a17)
  have C18 := cal_is_answer (P := l.prog) (w := w) (base := base) fx C15 C17 (fun_mk (st := st_is_answer) l18 c18 k18) (PySem.W.mg_of X G a18)
  have C19 := cal_is_row (P := l.prog) (w := w) (base := base) fx C13 C16 C18 (fun_mk (st := st_is_row) l19 c19 k19) (PySem.W.mg_of X G a19)
  have C20 := cal_is_sign (P := l.prog) (w := w) (base := base) fx C13 C19 (fun_mk (st := st_is_sign) l20 c20 k20) (PySem.W.mg_of X G a20)
  have C21 := cal_check_sign (P := l.prog) (w := w) (base := base) fx C20 (fun_mk (st := st_check_sign) l21 c21 k21) (PySem.W.mg_of X G a21)
  have C22 := cal_check_signs (P := l.prog) (w := w) (base := base) fx C21 (fun_mk (st := st_check_signs) l22 c22 k22) (PySem.W.mg_of X G a22)
  have C23 := cal_is_tick (P := l.prog) (w := w) (base := base) fx C13 (fun_mk (st := st_is_tick) l23 c23 k23) (PySem.W.mg_of X G a23)
  have C24 := cal_check_tick (P := l.prog) (w := w) (base := base) fx C23 (fun_mk (st := st_check_tick) l24 c24 k24) (PySem.W.mg_of X G a24)
  have C25 := cal_is_kind (P := l.prog) (w := w) (base := base) fx C15 (fun_mk (st := st_is_kind) l25 c25 k25) (PySem.W.mg_of X G a25)
  have C26 := cal_check_kind (P := l.prog) (w := w) (base := base) fx C25 (fun_mk (st := st_check_kind) l26 c26 k26) (PySem.W.mg_of X G a26)
  have C27 := cal_are_feasts (P := l.prog) (w := w) (base := base) fx C13 C14 (fun_mk (st := st_are_feasts) l27 c27 k27) (PySem.W.mg_of X G a27)
  have C28 := cal_check_feasts (P := l.prog) (w := w) (base := base) fx C27 (fun_mk (st := st_check_feasts) l28 c28 k28) (PySem.W.mg_of X G a28)
  have C29 := cal_does_fit (P := l.prog) (w := w) (base := base) fx (fun_mk (st := st_does_fit) l29 c29 k29) (PySem.W.mg_of X G a29)
  have C30 := cal_does_bear (P := l.prog) (w := w) (base := base) fx C29 (fun_mk (st := st_does_bear) l30 c30 k30) (PySem.W.mg_of X G a30)
  have C31 := cal_told_at (P := l.prog) (w := w) (base := base) fx C30 (fun_mk (st := st_told_at) l31 c31 k31) (PySem.W.mg_of X G a31)
  have C32 := cal_next_barred (P := l.prog) (w := w) (base := base) fx C31 (fun_mk (st := st_next_barred) l32 c32 k32) (PySem.W.mg_of X G a32)
  have C33 := cal_end_of (P := l.prog) (w := w) (base := base) fx C31 (fun_mk (st := st_end_of) l33 c33 k33) (PySem.W.mg_of X G a33)
  have C34 := cal_ends_of (P := l.prog) (w := w) (base := base) fx C32 C33 (fun_mk (st := st_ends_of) l34 c34 k34) (PySem.W.mg_of X G a34)
  have C35 := cal_exposed_begins (P := l.prog) (w := w) (base := base) fx C32 C34 (fun_mk (st := st_exposed_begins) l35 c35 k35) (PySem.W.mg_of X G a35)
  have C36 := cal_exposed (P := l.prog) (w := w) (base := base) fx C22 C24 C26 C28 C35 (fun_mk (st := st_exposed) l36 c36 k36) (PySem.W.mg_of X G a36)
  have C37 := cal__law_stretches (P := l.prog) (w := w) (base := base) fx (fun_mk (st := st__law_stretches) l37 c37 k37) (PySem.W.mg_of X G a37)
  have C38 := cal_lawful_end (P := l.prog) (w := w) (base := base) fx C21 C26 C28 C24 C34 (fun_mk (st := st_lawful_end) l38 c38 k38) (PySem.W.mg_of X G a38)
  have C39 := cal__law_is_wide_right (P := l.prog) (w := w) (base := base) fx C9 C10 C3 C6 C11 C5 C36 C37 C38 (fun_mk (st := st__law_is_wide_right) l39 c39 k39) (PySem.W.mg_of X G a39)
  have C40 := cal_check_change (P := l.prog) (w := w) (base := base) fx C22 C24 C28 (fun_mk (st := st_check_change) l40 c40 k40) (PySem.W.mg_of X G a40)
  have C41 := cal_named (P := l.prog) (w := w) (base := base) fx (fun_mk (st := st_named) l41 c41 k41) (PySem.W.mg_of X G a41)
  have C42 := cal_unsafe_ticks (P := l.prog) (w := w) (base := base) fx C32 C34 (fun_mk (st := st_unsafe_ticks) l42 c42 k42) (PySem.W.mg_of X G a42)
  have C43 := cal_safe_tick (P := l.prog) (w := w) (base := base) fx C40 C13 C41 C42 (fun_mk (st := st_safe_tick) l43 c43 k43) (PySem.W.mg_of X G a43)
  have C44 := cal__law_right (P := l.prog) (w := w) (base := base) fx C3 C9 C10 C11 C38 C5 C36 C37 C43 rfl (fun_mk (st := st__law_right) l44 c44 k44) (PySem.W.mg_of X G a44)
  have C45 := cal_law (P := l.prog) (w := w) (base := base) fx C1 C2 C44 C3 C39 (fun_mk (st := st_law) l45 c45 k45) (PySem.W.mg_of X G a45)
  exact C45
end Vk21

namespace ZZ
open PySem PySem.Spec L2

/-! ### the plain side: what a mirror gives, by what is wanted of it; continuations are named, so that simp opens each at its turn alone -/
@[irreducible] def Owp {α : Type} (o : Out α) (Q : α → En → Prop) : Prop := match o with
  | .ok a e => Q a e
  | _ => False
def Wp {α : Type} (m : M α) (e : En) (Q : α → En → Prop) : Prop := Owp (m e) Q
@[irreducible] def Fwp (o : FO) (Q : D → List D → Prop) : Prop := match o with
  | .ok d outs => Q d outs
  | _ => False
@[irreducible] def onS {α : Type} (o : Option α) (K : α → Prop) : Prop := match o with | some e => K e | none => False
def gR (s : Option Sl) (K : D → Prop) : Prop := match s with | some (.fz d) => K d | _ => False
def gQ (s : Option Sl) (K : D → Prop) : Prop := match s with | some (.fz d) => K d | some (.op d) => K d | _ => False
def gL (s : Option Sl) (K J : D → Prop) : Prop := match s with | some (.fz d) => K d | some (.op d) => J d | _ => False
def gO (s : Option Sl) (K : D → Prop) : Prop := match s with | some (.op d) => K d | _ => False
def opL (s : Option Sl) : Option (List D) := match s with
  | some (.op (.list xs)) => some xs
  | _ => none
section
variable {α β : Type}
@[simp] theorem owp_ok (a : α) (e : En) (Q : α → En → Prop) : Owp (.ok a e) Q = Q a e := by unfold Owp; rfl
theorem owp_no (Q : α → En → Prop) : Owp (.no : Out α) Q = False := by unfold Owp; rfl
theorem owp_exc (x : Exn) (e : En) (Q : α → En → Prop) : Owp (.exc x e : Out α) Q = False := by unfold Owp; rfl
@[simp] theorem fwp_ok (d : D) (os : List D) (Q : D → List D → Prop) : Fwp (.ok d os) Q = Q d os := by unfold Fwp; rfl
theorem fwp_no (Q : D → List D → Prop) : Fwp .no Q = False := by unfold Fwp; rfl
theorem fwp_exc (x : Exn) (o : List D) (Q : D → List D → Prop) : Fwp (.exc x o) Q = False := by unfold Fwp; rfl
@[simp] theorem onS_s (a : α) (K : α → Prop) : onS (some a) K = K a := by unfold onS; rfl
@[simp] theorem onS_n (K : α → Prop) : onS none K = False := by unfold onS; rfl
@[simp] theorem gR_f (d : D) (K : D → Prop) : gR (some (.fz d)) K = K d := rfl
@[simp] theorem gQ_f (d : D) (K : D → Prop) : gQ (some (.fz d)) K = K d := rfl
@[simp] theorem gQ_o (d : D) (K : D → Prop) : gQ (some (.op d)) K = K d := rfl
@[simp] theorem gL_f (d : D) (K J : D → Prop) : gL (some (.fz d)) K J = K d := rfl
@[simp] theorem gL_o (d : D) (K J : D → Prop) : gL (some (.op d)) K J = J d := rfl
@[simp] theorem gO_o (d : D) (K : D → Prop) : gO (some (.op d)) K = K d := rfl
@[simp] theorem opL_op (xs : List D) : opL (some (.op (.list xs))) = some xs := rfl
theorem Owp.mono {o : Out α} {Q R : α → En → Prop} (h : Owp o Q) (k : ∀ a e, Q a e → R a e) : Owp o R := by
  unfold Owp at *
  cases o with
  | ok a e => exact k a e h
  | exc x e => exact h
  | no => exact h
theorem Wp.mono {m : M α} {e : En} {Q R : α → En → Prop} (h : Wp m e Q) (k : ∀ a e, Q a e → R a e) : Wp m e R := Owp.mono h k
theorem Fwp.mono {o : FO} {Q R : D → List D → Prop} (h : Fwp o Q) (k : ∀ a e, Q a e → R a e) : Fwp o R := by
  unfold Fwp at *
  cases o with
  | ok a e => exact k a e h
  | exc x e => exact h
  | no => exact h
theorem onS_of {o : Option α} {a : α} {K : α → Prop} (h : o = some a) (k : K a) : onS o K := by rw [h, onS_s]; exact k
theorem Owp.no_ {Q : α → En → Prop} {P : Prop} (h : Owp (.no : Out α) Q) : P := by rw [owp_no] at h; exact h.elim
theorem Owp.exc_ {x : Exn} {e : En} {Q : α → En → Prop} {P : Prop} (h : Owp (.exc x e : Out α) Q) : P := by rw [owp_exc] at h; exact h.elim
theorem wp_bnd (m : M α) (f : α → M β) (e : En) (Q : β → En → Prop) : Wp (bnd m f) e Q = Wp m e fun a e1 => Wp (f a) e1 Q := by
  unfold Wp bnd
  cases m e <;> with_unfolding_all rfl
@[simp] theorem wp_ret (a : α) (e : En) (Q : α → En → Prop) : Wp (ret a) e Q = Q a e := by with_unfolding_all rfl
def kE (Q : α → En → Prop) (e : En) : α → Prop := fun a => Q a e
@[simp] theorem kE_ap (Q : α → En → Prop) (e : En) (a : α) : kE Q e a = Q a e := by with_unfolding_all rfl
theorem wp_lft (o : Option α) (e : En) (Q : α → En → Prop) : Wp (lft o) e Q = onS o (kE Q e) := by
  cases o <;> with_unfolding_all rfl
def kSet (Q : D → En → Prop) (e : En) (i : Nat) : D → Prop := fun d => Q d (e.set i (.fz d))
@[simp] theorem kSet_ap (Q : D → En → Prop) (e : En) (i : Nat) (d : D) : kSet Q e i d = Q d (e.set i (.fz d)) := by with_unfolding_all rfl
/-- a test's two ways -/
def ifM (b : Bool) (s t : M α) (e : En) (Q : α → En → Prop) : Prop := if b = true then Wp s e Q else Wp t e Q
@[simp] theorem ifM_t (s t : M α) (e : En) (Q : α → En → Prop) : ifM true s t e Q = Wp s e Q := by with_unfolding_all rfl
@[simp] theorem ifM_f (s t : M α) (e : En) (Q : α → En → Prop) : ifM false s t e Q = Wp t e Q := by with_unfolding_all rfl
theorem ifM_d {p : Prop} [Decidable p] {s t : M α} {e : En} {Q : α → En → Prop} (h1 : p → Wp s e Q) (h2 : ¬ p → Wp t e Q) : ifM (decide p) s t e Q := by
  by_cases h : p
  · rw [decide_eq_true h]; exact h1 h
  · rw [decide_eq_false h]; exact h2 h
theorem ifM_b {b : Bool} {s t : M α} {e : En} {Q : α → En → Prop} (h1 : b = true → Wp s e Q) (h2 : b = false → Wp t e Q) : ifM b s t e Q := by
  cases b
  · exact h2 rfl
  · exact h1 rfl

@[simp] theorem wp_vr (i : Nat) (e : En) (Q : D → En → Prop) : Wp (vr i) e Q = gR e[i]? (kE Q e) := by
  unfold Wp vr
  generalize e[i]? = t
  cases t with
  | none => with_unfolding_all rfl
  | some s => cases s <;> with_unfolding_all rfl
@[simp] theorem wp_vq (i : Nat) (e : En) (Q : D → En → Prop) : Wp (vq i) e Q = gQ e[i]? (kE Q e) := by
  unfold Wp vq
  generalize e[i]? = t
  cases t with
  | none => with_unfolding_all rfl
  | some s => cases s <;> with_unfolding_all rfl
@[simp] theorem wp_vl (i : Nat) (e : En) (Q : D → En → Prop) : Wp (vl i) e Q = gL e[i]? (kE Q e) (kSet Q e i) := by
  unfold Wp vl
  generalize e[i]? = t
  cases t with
  | none => with_unfolding_all rfl
  | some s => cases s <;> with_unfolding_all rfl
@[simp] theorem wp_vo (i : Nat) (e : En) (Q : D → En → Prop) : Wp (vo i) e Q = gO e[i]? (kE Q e) := by
  unfold Wp vo
  generalize e[i]? = t
  cases t with
  | none => with_unfolding_all rfl
  | some s => cases s <;> with_unfolding_all rfl
/-! operators -/
def kBin2 (op : D → D → Option D) (x : D) (Q : D → En → Prop) : D → En → Prop := fun y e => onS (op x y) (kE Q e)
@[simp] theorem kBin2_ap (op : D → D → Option D) (x : D) (Q : D → En → Prop) (y : D) (e : En) : kBin2 op x Q y e = onS (op x y) (kE Q e) := by with_unfolding_all rfl
def kBin1 (op : D → D → Option D) (b : M D) (Q : D → En → Prop) : D → En → Prop := fun x e => Wp b e (kBin2 op x Q)
@[simp] theorem kBin1_ap (op : D → D → Option D) (b : M D) (Q : D → En → Prop) (x : D) (e : En) : kBin1 op b Q x e = Wp b e (kBin2 op x Q) := by with_unfolding_all rfl
@[simp] theorem wp_bin (op : D → D → Option D) (a b : M D) (e : En) (Q : D → En → Prop) : Wp (bin op a b) e Q = Wp a e (kBin1 op b Q) := by
  simp only [bin, wp_bnd, wp_lft]; with_unfolding_all rfl
def kUna (op : D → Option D) (Q : D → En → Prop) : D → En → Prop := fun x e => onS (op x) (kE Q e)
@[simp] theorem kUna_ap (op : D → Option D) (Q : D → En → Prop) (x : D) (e : En) : kUna op Q x e = onS (op x) (kE Q e) := by with_unfolding_all rfl
@[simp] theorem wp_una (op : D → Option D) (a : M D) (e : En) (Q : D → En → Prop) : Wp (una op a) e Q = Wp a e (kUna op Q) := by
  simp only [una, wp_bnd, wp_lft]; with_unfolding_all rfl
def kBL2 (op : D → D → Option D) (y : D) (e : En) (Q : D → En → Prop) : D → Prop := fun x => onS (op x y) (kE Q e)
@[simp] theorem kBL2_ap (op : D → D → Option D) (y : D) (e : En) (Q : D → En → Prop) (x : D) : kBL2 op y e Q x = onS (op x y) (kE Q e) := by with_unfolding_all rfl
def kBL1 (op : D → D → Option D) (i : Nat) (Q : D → En → Prop) : D → En → Prop := fun y e => gQ e[i]? (kBL2 op y e Q)
@[simp] theorem kBL1_ap (op : D → D → Option D) (i : Nat) (Q : D → En → Prop) (y : D) (e : En) : kBL1 op i Q y e = gQ e[i]? (kBL2 op y e Q) := by with_unfolding_all rfl
def kBL0 (op : D → D → Option D) (i : Nat) (b : M D) (e : En) (Q : D → En → Prop) : D → Prop := fun _ => Wp b e (kBL1 op i Q)
@[simp] theorem kBL0_ap (op : D → D → Option D) (i : Nat) (b : M D) (e : En) (Q : D → En → Prop) (x : D) : kBL0 op i b e Q x = Wp b e (kBL1 op i Q) := by with_unfolding_all rfl
@[simp] theorem wp_binL (op : D → D → Option D) (i : Nat) (b : M D) (e : En) (Q : D → En → Prop) : Wp (binL op i b) e Q = gQ e[i]? (kBL0 op i b e Q) := by
  simp only [binL, wp_bnd, wp_vq, wp_lft]; with_unfolding_all rfl
/-! displays -/
@[simp] theorem wp_seq0 (e : En) (Q : List D → En → Prop) : Wp (seqM []) e Q = Q [] e := by with_unfolding_all rfl
def kS2 (x : D) (Q : List D → En → Prop) : List D → En → Prop := fun xs e => Q (x :: xs) e
@[simp] theorem kS2_ap (x : D) (Q : List D → En → Prop) (xs : List D) (e : En) : kS2 x Q xs e = Q (x :: xs) e := by with_unfolding_all rfl
def kS1 (ms : List (M D)) (Q : List D → En → Prop) : D → En → Prop := fun x e => Wp (seqM ms) e (kS2 x Q)
@[simp] theorem kS1_ap (ms : List (M D)) (Q : List D → En → Prop) (x : D) (e : En) : kS1 ms Q x e = Wp (seqM ms) e (kS2 x Q) := by with_unfolding_all rfl
@[simp] theorem wp_seq1 (m : M D) (ms : List (M D)) (e : En) (Q : List D → En → Prop) : Wp (seqM (m :: ms)) e Q = Wp m e (kS1 ms Q) := by
  simp only [seqM, wp_bnd, wp_ret]; with_unfolding_all rfl
def kTup (Q : D → En → Prop) : List D → En → Prop := fun xs e => Q (.tuple xs) e
@[simp] theorem kTup_ap (Q : D → En → Prop) (xs : List D) (e : En) : kTup Q xs e = Q (.tuple xs) e := by with_unfolding_all rfl
@[simp] theorem wp_tup (ms : List (M D)) (e : En) (Q : D → En → Prop) : Wp (tupM ms) e Q = Wp (seqM ms) e (kTup Q) := by
  simp only [tupM, wp_bnd, wp_ret]; with_unfolding_all rfl
def kLst (Q : D → En → Prop) : List D → En → Prop := fun xs e => Q (.list xs) e
@[simp] theorem kLst_ap (Q : D → En → Prop) (xs : List D) (e : En) : kLst Q xs e = Q (.list xs) e := by with_unfolding_all rfl
@[simp] theorem wp_lst (ms : List (M D)) (e : En) (Q : D → En → Prop) : Wp (lstM ms) e Q = Wp (seqM ms) e (kLst Q) := by
  simp only [lstM, wp_bnd, wp_ret]; with_unfolding_all rfl
@[simp] theorem wp_seqP0 (e : En) (Q : List (D × D) → En → Prop) : Wp (seqP []) e Q = Q [] e := by with_unfolding_all rfl
def kP3 (k v : D) (Q : List (D × D) → En → Prop) : List (D × D) → En → Prop := fun xs e => Q ((k, v) :: xs) e
@[simp] theorem kP3_ap (k v : D) (Q : List (D × D) → En → Prop) (xs : List (D × D)) (e : En) : kP3 k v Q xs e = Q ((k, v) :: xs) e := by with_unfolding_all rfl
def kP2 (k : D) (r : List (M D × M D)) (Q : List (D × D) → En → Prop) : D → En → Prop := fun v e => Wp (seqP r) e (kP3 k v Q)
@[simp] theorem kP2_ap (k : D) (r : List (M D × M D)) (Q : List (D × D) → En → Prop) (v : D) (e : En) : kP2 k r Q v e = Wp (seqP r) e (kP3 k v Q) := by with_unfolding_all rfl
def kP1 (mv : M D) (r : List (M D × M D)) (Q : List (D × D) → En → Prop) : D → En → Prop := fun k e => Wp mv e (kP2 k r Q)
@[simp] theorem kP1_ap (mv : M D) (r : List (M D × M D)) (Q : List (D × D) → En → Prop) (k : D) (e : En) : kP1 mv r Q k e = Wp mv e (kP2 k r Q) := by with_unfolding_all rfl
@[simp] theorem wp_seqP1 (a b : M D) (ms : List (M D × M D)) (e : En) (Q : List (D × D) → En → Prop) : Wp (seqP ((a, b) :: ms)) e Q = Wp a e (kP1 b ms Q) := by
  simp only [seqP, wp_bnd, wp_ret]; with_unfolding_all rfl
@[simp] theorem wp_noX (m : M α) (e : En) (Q : α → En → Prop) : Wp (noX m) e Q = Wp m e Q := by
  unfold Wp noX
  cases m e <;> with_unfolding_all rfl
def kDsp (Q : D → En → Prop) : List (D × D) → En → Prop := fun ps e => onS (dspD ps) (kE Q e)
@[simp] theorem kDsp_ap (Q : D → En → Prop) (ps : List (D × D)) (e : En) : kDsp Q ps e = onS (dspD ps) (kE Q e) := by with_unfolding_all rfl
@[simp] theorem wp_dsp (ms : List (M D × M D)) (e : En) (Q : D → En → Prop) : Wp (dspM ms) e Q = Wp (seqP ms) e (kDsp Q) := by
  simp only [dspM, wp_bnd, wp_lft]; with_unfolding_all rfl
/-! tests -/
def kBool (Q : Bool → En → Prop) : D → En → Prop := fun d e => match d with | .bool b => Q b e | _ => False
@[simp] theorem kBool_ap (Q : Bool → En → Prop) (b : Bool) (e : En) : kBool Q (.bool b) e = Q b e := by with_unfolding_all rfl
@[simp] theorem wp_boolOf (m : M D) (e : En) (Q : Bool → En → Prop) : Wp (boolOf m) e Q = Wp m e (kBool Q) := by
  simp only [boolOf, wp_bnd]
  congr 1
  funext d e1
  cases d <;> with_unfolding_all rfl
def kN (Q : D → En → Prop) : D → En → Prop := fun d e => Q (.bool (isNoneD d)) e
@[simp] theorem kN_ap (Q : D → En → Prop) (d : D) (e : En) : kN Q d e = Q (.bool (isNoneD d)) e := by with_unfolding_all rfl
def kNN (Q : D → En → Prop) : D → En → Prop := fun d e => Q (.bool (!isNoneD d)) e
@[simp] theorem kNN_ap (Q : D → En → Prop) (d : D) (e : En) : kNN Q d e = Q (.bool (!isNoneD d)) e := by with_unfolding_all rfl
@[simp] theorem wp_isN (m : M D) (e : En) (Q : D → En → Prop) : Wp (isN m) e Q = Wp m e (kN Q) := by
  simp only [isN, wp_bnd, wp_ret]; with_unfolding_all rfl
@[simp] theorem wp_isNN (m : M D) (e : En) (Q : D → En → Prop) : Wp (isNN m) e Q = Wp m e (kNN Q) := by
  simp only [isNN, wp_bnd, wp_ret]; with_unfolding_all rfl
def kC4 (op : D → D → Option D) (y : D) (Q : D → En → Prop) : D → En → Prop := fun z e => onS (op y z) (kE Q e)
@[simp] theorem kC4_ap (op : D → D → Option D) (y : D) (Q : D → En → Prop) (z : D) (e : En) : kC4 op y Q z e = onS (op y z) (kE Q e) := by with_unfolding_all rfl
def kC3 (op : D → D → Option D) (y : D) (c : M D) (e : En) (Q : D → En → Prop) : D → Prop := fun z => match z with | .bool true => Wp c e (kC4 op y Q) | .bool false => Q (.bool false) e | _ => False
@[simp] theorem kC3_ap (op : D → D → Option D) (y : D) (c : M D) (e : En) (Q : D → En → Prop) (b : Bool) : kC3 op y c e Q (.bool b) = ifM b (bnd c fun z => lft (op y z)) (ret (.bool false)) e Q := by
  cases b
  · with_unfolding_all rfl
  · simp only [ifM_t, wp_bnd, wp_lft]; with_unfolding_all rfl
@[simp] theorem wp_bl (c : M D) (op : D → Option D) (e : En) (Q : D → En → Prop) : Wp (bnd c fun z => lft (op z)) e Q = Wp c e (kUna op Q) := by
  simp only [wp_bnd, wp_lft]; with_unfolding_all rfl
def kC2 (op op2 : D → D → Option D) (x : D) (c : M D) (Q : D → En → Prop) : D → En → Prop := fun y e => onS (op x y) (kC3 op2 y c e Q)
@[simp] theorem kC2_ap (op op2 : D → D → Option D) (x : D) (c : M D) (Q : D → En → Prop) (y : D) (e : En) : kC2 op op2 x c Q y e = onS (op x y) (kC3 op2 y c e Q) := by with_unfolding_all rfl
def kC1 (op op2 : D → D → Option D) (b c : M D) (Q : D → En → Prop) : D → En → Prop := fun x e => Wp b e (kC2 op op2 x c Q)
@[simp] theorem kC1_ap (op op2 : D → D → Option D) (b c : M D) (Q : D → En → Prop) (x : D) (e : En) : kC1 op op2 b c Q x e = Wp b e (kC2 op op2 x c Q) := by with_unfolding_all rfl
@[simp] theorem wp_chn (op op2 : D → D → Option D) (a b c : M D) (e : En) (Q : D → En → Prop) : Wp (chn op op2 a b c) e Q = Wp a e (kC1 op op2 b c Q) := by
  simp only [chn, wp_bnd, wp_lft]
  congr 1; funext x e1
  show _ = Wp b e1 _
  congr 1; funext y e2
  show _ = onS (op x y) _
  congr 1; funext z
  cases z with
  | bool b =>
    cases b
    · with_unfolding_all rfl
    · exact (wp_bl c (op2 y) e2 Q)
  | _ => with_unfolding_all rfl
def kTru (Q : Bool → En → Prop) : D → En → Prop := fun d e => onS (truD d) (kE Q e)
@[simp] theorem kTru_ap (Q : Bool → En → Prop) (d : D) (e : En) : kTru Q d e = onS (truD d) (kE Q e) := by with_unfolding_all rfl
@[simp] theorem wp_truM (m : M D) (e : En) (Q : Bool → En → Prop) : Wp (truM m) e Q = Wp m e (kTru Q) := by
  simp only [truM, wp_bnd, wp_lft]; with_unfolding_all rfl
def kNot (Q : Bool → En → Prop) : Bool → En → Prop := fun b e => Q (!b) e
@[simp] theorem kNot_ap (Q : Bool → En → Prop) (b : Bool) (e : En) : kNot Q b e = Q (!b) e := by with_unfolding_all rfl
@[simp] theorem wp_notM (m : M Bool) (e : En) (Q : Bool → En → Prop) : Wp (notM m) e Q = Wp m e (kNot Q) := by
  simp only [notM, wp_bnd, wp_ret]; with_unfolding_all rfl
def kIf (s t : M α) (Q : α → En → Prop) : Bool → En → Prop := fun b e => ifM b s t e Q
@[simp] theorem kIf_ap (s t : M α) (Q : α → En → Prop) (b : Bool) (e : En) : kIf s t Q b e = ifM b s t e Q := by with_unfolding_all rfl
@[simp] theorem wp_andM (s t : M Bool) (e : En) (Q : Bool → En → Prop) : Wp (andM s t) e Q = Wp s e (kIf t (ret false) Q) := by
  simp only [andM, wp_bnd]
  congr 1; funext b e1; cases b <;> with_unfolding_all rfl
@[simp] theorem wp_orM (s t : M Bool) (e : En) (Q : Bool → En → Prop) : Wp (orM s t) e Q = Wp s e (kIf (ret true) t Q) := by
  simp only [orM, wp_bnd]
  congr 1; funext b e1; cases b <;> with_unfolding_all rfl
@[simp] theorem wp_ite (c : M Bool) (x y : M α) (e : En) (Q : α → En → Prop) : Wp (iteM c x y) e Q = Wp c e (kIf x y Q) := by
  simp only [iteM, wp_bnd]
  congr 1; funext b e1; cases b <;> with_unfolding_all rfl
@[simp] theorem wp_if (c : M Bool) (s t : M Fl) (e : En) (Q : Fl → En → Prop) : Wp (sIf c s t) e Q = Wp c e (kIf s t Q) := by
  simp only [sIf, wp_bnd]
  congr 1; funext b e1; cases b <;> with_unfolding_all rfl
def kAndV2 (d : D) (y : M D) (e : En) (Q : D → En → Prop) : Bool → Prop := fun b => ifM b y (ret d) e Q
@[simp] theorem kAndV2_ap (d : D) (y : M D) (e : En) (Q : D → En → Prop) (b : Bool) : kAndV2 d y e Q b = ifM b y (ret d) e Q := by with_unfolding_all rfl
def kAndV (y : M D) (Q : D → En → Prop) : D → En → Prop := fun d e => onS (truD d) (kAndV2 d y e Q)
@[simp] theorem kAndV_ap (y : M D) (Q : D → En → Prop) (d : D) (e : En) : kAndV y Q d e = onS (truD d) (kAndV2 d y e Q) := by with_unfolding_all rfl
@[simp] theorem wp_andV (x y : M D) (e : En) (Q : D → En → Prop) : Wp (andV x y) e Q = Wp x e (kAndV y Q) := by
  simp only [andV, wp_bnd, wp_lft]
  congr 1; funext d e1
  show _ = onS (truD d) _
  congr 1; funext b; cases b <;> with_unfolding_all rfl
def kOrV2 (d : D) (y : M D) (e : En) (Q : D → En → Prop) : Bool → Prop := fun b => ifM b (ret d) y e Q
@[simp] theorem kOrV2_ap (d : D) (y : M D) (e : En) (Q : D → En → Prop) (b : Bool) : kOrV2 d y e Q b = ifM b (ret d) y e Q := by with_unfolding_all rfl
def kOrV (y : M D) (Q : D → En → Prop) : D → En → Prop := fun d e => onS (truD d) (kOrV2 d y e Q)
@[simp] theorem kOrV_ap (y : M D) (Q : D → En → Prop) (d : D) (e : En) : kOrV y Q d e = onS (truD d) (kOrV2 d y e Q) := by with_unfolding_all rfl
@[simp] theorem wp_orV (x y : M D) (e : En) (Q : D → En → Prop) : Wp (orV x y) e Q = Wp x e (kOrV y Q) := by
  simp only [orV, wp_bnd, wp_lft]
  congr 1; funext d e1
  show _ = onS (truD d) _
  congr 1; funext b; cases b <;> with_unfolding_all rfl
def kNotV2 (e : En) (Q : D → En → Prop) : Bool → Prop := fun b => Q (.bool !b) e
@[simp] theorem kNotV2_ap (e : En) (Q : D → En → Prop) (b : Bool) : kNotV2 e Q b = Q (.bool !b) e := by with_unfolding_all rfl
def kNotV (Q : D → En → Prop) : D → En → Prop := fun d e => onS (truD d) (kNotV2 e Q)
@[simp] theorem kNotV_ap (Q : D → En → Prop) (d : D) (e : En) : kNotV Q d e = onS (truD d) (kNotV2 e Q) := by with_unfolding_all rfl
@[simp] theorem wp_notV (m : M D) (e : En) (Q : D → En → Prop) : Wp (notV m) e Q = Wp m e (kNotV Q) := by
  simp only [notV, wp_bnd, wp_ret, wp_lft]; with_unfolding_all rfl
/-! slices -/
@[simp] theorem wp_part0 (e : En) (Q : Option Int → En → Prop) : Wp (partM none) e Q = Q none e := by with_unfolding_all rfl
def kPart (Q : Option Int → En → Prop) : D → En → Prop := fun d e => match d with | .int i => Q (some i) e | _ => False
@[simp] theorem kPart_ap (Q : Option Int → En → Prop) (i : Int) (e : En) : kPart Q (.int i) e = Q (some i) e := by with_unfolding_all rfl
@[simp] theorem wp_part1 (m : M D) (e : En) (Q : Option Int → En → Prop) : Wp (partM (some m)) e Q = Wp m e (kPart Q) := by
  simp only [partM, wp_bnd]
  congr 1; funext d e1; cases d <;> with_unfolding_all rfl
def kSl2 (x : D) (i : Option Int) (Q : D → En → Prop) : Option Int → En → Prop := fun j e => onS (slD x i j) (kE Q e)
@[simp] theorem kSl2_ap (x : D) (i : Option Int) (Q : D → En → Prop) (j : Option Int) (e : En) : kSl2 x i Q j e = onS (slD x i j) (kE Q e) := by with_unfolding_all rfl
def kSl1 (x : D) (h : Option (M D)) (Q : D → En → Prop) : Option Int → En → Prop := fun i e => Wp (partM h) e (kSl2 x i Q)
@[simp] theorem kSl1_ap (x : D) (h : Option (M D)) (Q : D → En → Prop) (i : Option Int) (e : En) : kSl1 x h Q i e = Wp (partM h) e (kSl2 x i Q) := by with_unfolding_all rfl
def kSl0 (l h : Option (M D)) (Q : D → En → Prop) : D → En → Prop := fun x e => Wp (partM l) e (kSl1 x h Q)
@[simp] theorem kSl0_ap (l h : Option (M D)) (Q : D → En → Prop) (x : D) (e : En) : kSl0 l h Q x e = Wp (partM l) e (kSl1 x h Q) := by with_unfolding_all rfl
@[simp] theorem wp_sl (m : M D) (l h : Option (M D)) (e : En) (Q : D → En → Prop) : Wp (slM m l h) e Q = Wp m e (kSl0 l h Q) := by
  simp only [slM, wp_bnd, wp_lft]; with_unfolding_all rfl
def kSL3 (i j : Option Int) (e : En) (Q : D → En → Prop) : D → Prop := fun x => onS (slD x i j) (kE Q e)
@[simp] theorem kSL3_ap (i j : Option Int) (e : En) (Q : D → En → Prop) (x : D) : kSL3 i j e Q x = onS (slD x i j) (kE Q e) := by with_unfolding_all rfl
def kSL2 (k : Nat) (i : Option Int) (Q : D → En → Prop) : Option Int → En → Prop := fun j e => gQ e[k]? (kSL3 i j e Q)
@[simp] theorem kSL2_ap (k : Nat) (i : Option Int) (Q : D → En → Prop) (j : Option Int) (e : En) : kSL2 k i Q j e = gQ e[k]? (kSL3 i j e Q) := by with_unfolding_all rfl
def kSL1 (k : Nat) (h : Option (M D)) (Q : D → En → Prop) : Option Int → En → Prop := fun i e => Wp (partM h) e (kSL2 k i Q)
@[simp] theorem kSL1_ap (k : Nat) (h : Option (M D)) (Q : D → En → Prop) (i : Option Int) (e : En) : kSL1 k h Q i e = Wp (partM h) e (kSL2 k i Q) := by with_unfolding_all rfl
def kSL0 (k : Nat) (l h : Option (M D)) (e : En) (Q : D → En → Prop) : D → Prop := fun _ => Wp (partM l) e (kSL1 k h Q)
@[simp] theorem kSL0_ap (k : Nat) (l h : Option (M D)) (e : En) (Q : D → En → Prop) (x : D) : kSL0 k l h e Q x = Wp (partM l) e (kSL1 k h Q) := by with_unfolding_all rfl
@[simp] theorem wp_slL (k : Nat) (l h : Option (M D)) (e : En) (Q : D → En → Prop) : Wp (slL k l h) e Q = gQ e[k]? (kSL0 k l h e Q) := by
  simp only [slL, wp_bnd, wp_vq, wp_lft]; with_unfolding_all rfl
/-! calls -/
@[simp] theorem wp_evA0 (e : En) (Q : List D → En → Prop) : Wp (evA []) e Q = Q [] e := by with_unfolding_all rfl
def kA1 (r : List Arg) (Q : List D → En → Prop) : D → En → Prop := fun d e => Wp (evA r) e (kS2 d Q)
@[simp] theorem kA1_ap (r : List Arg) (Q : List D → En → Prop) (d : D) (e : En) : kA1 r Q d e = Wp (evA r) e (kS2 d Q) := by with_unfolding_all rfl
@[simp] theorem wp_evAv (m : M D) (r : List Arg) (e : En) (Q : List D → En → Prop) : Wp (evA (.v m :: r)) e Q = Wp m e (kA1 r Q) := by
  simp only [evA, wp_bnd, wp_ret]; with_unfolding_all rfl
def kA2 (r : List Arg) (e : En) (Q : List D → En → Prop) : D → Prop := fun _ => Wp (evA r) e (kS2 .none Q)
@[simp] theorem kA2_ap (r : List Arg) (e : En) (Q : List D → En → Prop) (d : D) : kA2 r e Q d = Wp (evA r) e (kS2 .none Q) := by with_unfolding_all rfl
@[simp] theorem wp_evAio (i : Nat) (r : List Arg) (e : En) (Q : List D → En → Prop) : Wp (evA (.io i :: r)) e Q = gO e[i]? (kA2 r e Q) := by
  simp only [evA, wp_bnd, wp_ret]
  show Owp (chkO i e) _ = _
  unfold chkO
  generalize e[i]? = t
  cases t with
  | none => with_unfolding_all rfl
  | some s => cases s <;> with_unfolding_all rfl
def kCall4 (d : D) (Q : D → En → Prop) : En → Prop := fun e => Q d e
@[simp] theorem kCall4_ap (d : D) (Q : D → En → Prop) (e : En) : kCall4 d Q e = Q d e := by with_unfolding_all rfl
def kCall3 (as : List Arg) (e : En) (Q : D → En → Prop) : D → List D → Prop := fun d outs => onS (putA as outs e) (kCall4 d Q)
@[simp] theorem kCall3_ap (as : List Arg) (e : En) (Q : D → En → Prop) (d : D) (outs : List D) : kCall3 as e Q d outs = onS (putA as outs e) (kCall4 d Q) := by with_unfolding_all rfl
def kCall2 (F : List D → FO) (as : List Arg) (e : En) (Q : D → En → Prop) : List D → Prop := fun full => Fwp (F full) (kCall3 as e Q)
@[simp] theorem kCall2_ap (F : List D → FO) (as : List Arg) (e : En) (Q : D → En → Prop) (full : List D) : kCall2 F as e Q full = Fwp (F full) (kCall3 as e Q) := by with_unfolding_all rfl
def kCall1 (F : List D → FO) (as : List Arg) (Q : D → En → Prop) : List D → En → Prop := fun ds e => onS (fillA as e ds) (kCall2 F as e Q)
@[simp] theorem kCall1_ap (F : List D → FO) (as : List Arg) (Q : D → En → Prop) (ds : List D) (e : En) : kCall1 F as Q ds e = onS (fillA as e ds) (kCall2 F as e Q) := by with_unfolding_all rfl
@[simp] theorem wp_call (F : List D → FO) (as : List Arg) (e : En) (Q : D → En → Prop) : Wp (callM F as) e Q = Wp (evA as) e (kCall1 F as Q) := by
  unfold callM
  rw [wp_bnd]
  congr 1; funext ds e1
  show Owp (match fillA as e1 ds with
    | none => .no
    | some full => match F full with
      | .ok d outs => (match putA as outs e1 with | some e2 => .ok d e2 | none => .no)
      | _ => .no) Q = onS (fillA as e1 ds) (kCall2 F as e1 Q)
  cases fillA as e1 ds with
  | none => with_unfolding_all rfl
  | some full =>
    simp only [onS_s, kCall2_ap]
    cases F full with
    | ok d outs =>
      simp only [fwp_ok, kCall3_ap]
      cases putA as outs e1 <;> with_unfolding_all rfl
    | exc x o => with_unfolding_all rfl
    | no => with_unfolding_all rfl
def kK2 (e : En) (Q : D → En → Prop) : D → List D → Prop := fun d outs => match outs with | [] => Q d e | _ => False
@[simp] theorem kK2_ap (e : En) (Q : D → En → Prop) (d : D) : kK2 e Q d [] = Q d e := by with_unfolding_all rfl
def kK1 (F : List D → FO) (pm : List Nat) (Q : D → En → Prop) : List D → En → Prop := fun xs e => Fwp (F (pickD pm xs)) (kK2 e Q)
@[simp] theorem kK1_ap (F : List D → FO) (pm : List Nat) (Q : D → En → Prop) (xs : List D) (e : En) : kK1 F pm Q xs e = Fwp (F (pickD pm xs)) (kK2 e Q) := by with_unfolding_all rfl
@[simp] theorem wp_callK (F : List D → FO) (pm : List Nat) (ms : List (M D)) (e : En) (Q : D → En → Prop) : Wp (callK F pm ms) e Q = Wp (seqM ms) e (kK1 F pm Q) := by
  unfold callK
  rw [wp_bnd]
  congr 1; funext ds e1
  show Owp (match F (pickD pm ds) with
    | .ok d [] => .ok d e1
    | _ => .no) Q = Fwp (F (pickD pm ds)) (kK2 e1 Q)
  cases F (pickD pm ds) with
  | ok d outs => cases outs <;> with_unfolding_all rfl
  | exc x o => with_unfolding_all rfl
  | no => with_unfolding_all rfl
/-! statements -/
@[simp] theorem wp_nx (e : En) (Q : Fl → En → Prop) : Wp sNx e Q = Q .nx e := by with_unfolding_all rfl
@[simp] theorem wp_bk (e : En) (Q : Fl → En → Prop) : Wp sBk e Q = Q .bk e := by with_unfolding_all rfl
@[simp] theorem wp_ct (e : En) (Q : Fl → En → Prop) : Wp sCt e Q = Q .ct e := by with_unfolding_all rfl
@[simp] theorem wp_no (e : En) (Q : Fl → En → Prop) : Wp sNo e Q = False := by with_unfolding_all rfl
def kSeq (t : M Fl) (Q : Fl → En → Prop) : Fl → En → Prop := fun f e => match f with | .nx => Wp t e Q | f => Q f e
@[simp] theorem kSeq_nx (t : M Fl) (Q : Fl → En → Prop) (e : En) : kSeq t Q .nx e = Wp t e Q := by with_unfolding_all rfl
@[simp] theorem kSeq_rt (t : M Fl) (Q : Fl → En → Prop) (d : D) (e : En) : kSeq t Q (.rt d) e = Q (.rt d) e := by with_unfolding_all rfl
@[simp] theorem kSeq_ro (t : M Fl) (Q : Fl → En → Prop) (d : D) (e : En) : kSeq t Q (.ro d) e = Q (.ro d) e := by with_unfolding_all rfl
@[simp] theorem kSeq_bk (t : M Fl) (Q : Fl → En → Prop) (e : En) : kSeq t Q .bk e = Q .bk e := by with_unfolding_all rfl
@[simp] theorem kSeq_ct (t : M Fl) (Q : Fl → En → Prop) (e : En) : kSeq t Q .ct e = Q .ct e := by with_unfolding_all rfl
@[simp] theorem wp_seq (s t : M Fl) (e : En) (Q : Fl → En → Prop) : Wp (sSeq s t) e Q = Wp s e (kSeq t Q) := by
  unfold sSeq
  rw [wp_bnd]
  congr 1; funext f e1
  cases f <;> with_unfolding_all rfl
def kNx (Q : Fl → En → Prop) : En → Prop := fun e => Q .nx e
@[simp] theorem kNx_ap (Q : Fl → En → Prop) (e : En) : kNx Q e = Q .nx e := by with_unfolding_all rfl
def kExp (Q : Fl → En → Prop) : D → En → Prop := fun _ e => Q .nx e
@[simp] theorem kExp_ap (Q : Fl → En → Prop) (d : D) (e : En) : kExp Q d e = Q .nx e := by with_unfolding_all rfl
def kRt (Q : Fl → En → Prop) : D → En → Prop := fun d e => Q (.rt d) e
@[simp] theorem kRt_ap (Q : Fl → En → Prop) (d : D) (e : En) : kRt Q d e = Q (.rt d) e := by with_unfolding_all rfl
def kRo (Q : Fl → En → Prop) : D → En → Prop := fun d e => Q (.ro d) e
@[simp] theorem kRo_ap (Q : Fl → En → Prop) (d : D) (e : En) : kRo Q d e = Q (.ro d) e := by with_unfolding_all rfl
@[simp] theorem wp_expr (m : M D) (e : En) (Q : Fl → En → Prop) : Wp (sExpr m) e Q = Wp m e (kExp Q) := by
  simp only [sExpr, wp_bnd, wp_ret]; with_unfolding_all rfl
@[simp] theorem wp_rt (m : M D) (e : En) (Q : Fl → En → Prop) : Wp (sRet m) e Q = Wp m e (kRt Q) := by
  simp only [sRet, wp_bnd, wp_ret]; with_unfolding_all rfl
@[simp] theorem wp_rtN (e : En) (Q : Fl → En → Prop) : Wp sRetN e Q = Q (.rt .none) e := by with_unfolding_all rfl
@[simp] theorem wp_ro (m : M D) (e : En) (Q : Fl → En → Prop) : Wp (sRetO m) e Q = Wp m e (kRo Q) := by
  simp only [sRetO, wp_bnd, wp_ret]; with_unfolding_all rfl
def kAsg (f : D → En → Option En) (Q : Fl → En → Prop) : D → En → Prop := fun d e => onS (f d e) (kNx Q)
@[simp] theorem kAsg_ap (f : D → En → Option En) (Q : Fl → En → Prop) (d : D) (e : En) : kAsg f Q d e = onS (f d e) (kNx Q) := by with_unfolding_all rfl
@[simp] theorem wp_asg (f : D → En → Option En) (m : M D) (e : En) (Q : Fl → En → Prop) : Wp (sAsg f m) e Q = Wp m e (kAsg f Q) := by
  unfold sAsg
  rw [wp_bnd]
  congr 1; funext d e1
  show Owp (match f d e1 with | some e' => .ok .nx e' | none => .no) Q = onS (f d e1) (kNx Q)
  cases f d e1 <;> with_unfolding_all rfl
@[simp] theorem wp_asgO (i : Nat) (m : M D) (e : En) (Q : Fl → En → Prop) : Wp (sAsgO i m) e Q = Wp m e (kAsg (setO i) Q) := by
  unfold sAsgO
  rw [wp_bnd]
  congr 1; funext d e1
  show Owp (match setO i d e1 with | some e' => .ok .nx e' | none => .no) Q = onS (setO i d e1) (kNx Q)
  cases setO i d e1 <;> with_unfolding_all rfl
def kI3 (i : Nat) (e : En) (Q : Fl → En → Prop) : List D → Prop := fun ys => Q .nx (e.set i (.op (.list ys)))
@[simp] theorem kI3_ap (i : Nat) (e : En) (Q : Fl → En → Prop) (ys : List D) : kI3 i e Q ys = Q .nx (e.set i (.op (.list ys))) := by with_unfolding_all rfl
def kI2 (i : Nat) (k : Int) (v : D) (e : En) (Q : Fl → En → Prop) : List D → Prop := fun xs => onS (setIx xs k v) (kI3 i e Q)
@[simp] theorem kI2_ap (i : Nat) (k : Int) (v : D) (e : En) (Q : Fl → En → Prop) (xs : List D) : kI2 i k v e Q xs = onS (setIx xs k v) (kI3 i e Q) := by with_unfolding_all rfl
def kI1 (i : Nat) (v : D) (Q : Fl → En → Prop) : D → En → Prop := fun k e => match k with | .int k => onS (opL e[i]?) (kI2 i k v e Q) | _ => False
@[simp] theorem kI1_ap (i : Nat) (v : D) (Q : Fl → En → Prop) (k : Int) (e : En) : kI1 i v Q (.int k) e = onS (opL e[i]?) (kI2 i k v e Q) := by with_unfolding_all rfl
def kI0b (i : Nat) (mk : M D) (v : D) (e : En) (Q : Fl → En → Prop) : D → Prop := fun _ => Wp mk e (kI1 i v Q)
@[simp] theorem kI0b_ap (i : Nat) (mk : M D) (v : D) (e : En) (Q : Fl → En → Prop) (d : D) : kI0b i mk v e Q d = Wp mk e (kI1 i v Q) := by with_unfolding_all rfl
def kI0 (i : Nat) (mk : M D) (Q : Fl → En → Prop) : D → En → Prop := fun v e => gO e[i]? (kI0b i mk v e Q)
@[simp] theorem kI0_ap (i : Nat) (mk : M D) (Q : Fl → En → Prop) (v : D) (e : En) : kI0 i mk Q v e = gO e[i]? (kI0b i mk v e Q) := by with_unfolding_all rfl
@[simp] theorem wp_setIx (i : Nat) (mk mv : M D) (e : En) (Q : Fl → En → Prop) : Wp (sSetIx i mk mv) e Q = Wp mv e (kI0 i mk Q) := by
  unfold sSetIx
  rw [wp_bnd]
  congr 1; funext v e1
  rw [wp_bnd]
  show Owp (chkO i e1) _ = gO e1[i]? (kI0b i mk v e1 Q)
  unfold chkO
  have key : ∀ k e2, Owp ((fun (k : D) (e : En) => match k with
      | .int k => (match e[i]? with
        | some (.op (.list xs)) => (match setIx xs k v with | some ys => .ok Fl.nx (e.set i (.op (.list ys))) | none => .no)
        | _ => .no)
      | _ => Out.no) k e2) Q = kI1 i v Q k e2 := fun k e2 => by
    cases k <;> try with_unfolding_all rfl
    rw [kI1_ap]
    dsimp only [kI2]
    generalize e2[i]? = t
    cases t with
    | none => with_unfolding_all rfl
    | some s =>
      cases s with
      | op d =>
        cases d <;> try with_unfolding_all rfl
        rw [opL_op, onS_s]
        dsimp only [kI2]
        generalize setIx _ _ v = u
        cases u <;> with_unfolding_all rfl
      | _ => with_unfolding_all rfl
  generalize e1[i]? = t
  cases t with
  | none => with_unfolding_all rfl
  | some s =>
    cases s with
    | op d =>
      simp only [owp_ok, wp_bnd, gO, kI0b]
      congr 1; funext k e2
      exact key k e2
    | _ => with_unfolding_all rfl
def kM2 (i : Nat) (f : List D → D → Option (List D)) (v : D) (e : En) (Q : Fl → En → Prop) : List D → Prop := fun xs => onS (f xs v) (kI3 i e Q)
@[simp] theorem kM2_ap (i : Nat) (f : List D → D → Option (List D)) (v : D) (e : En) (Q : Fl → En → Prop) (xs : List D) : kM2 i f v e Q xs = onS (f xs v) (kI3 i e Q) := by with_unfolding_all rfl
def kM1 (i : Nat) (f : List D → D → Option (List D)) (Q : Fl → En → Prop) : D → En → Prop := fun v e => onS (opL e[i]?) (kM2 i f v e Q)
@[simp] theorem kM1_ap (i : Nat) (f : List D → D → Option (List D)) (Q : Fl → En → Prop) (v : D) (e : En) : kM1 i f Q v e = onS (opL e[i]?) (kM2 i f v e Q) := by with_unfolding_all rfl
def kM0 (i : Nat) (m : M D) (f : List D → D → Option (List D)) (e : En) (Q : Fl → En → Prop) : List D → Prop := fun _ => Wp m e (kM1 i f Q)
@[simp] theorem kM0_ap (i : Nat) (m : M D) (f : List D → D → Option (List D)) (e : En) (Q : Fl → En → Prop) (xs : List D) : kM0 i m f e Q xs = Wp m e (kM1 i f Q) := by with_unfolding_all rfl
@[simp] theorem wp_mt (i : Nat) (m : M D) (f : List D → D → Option (List D)) (e : En) (Q : Fl → En → Prop) : Wp (sMt i m f) e Q = onS (opL e[i]?) (kM0 i m f e Q) := by
  unfold sMt
  rw [wp_bnd]
  show Owp (chkL i e) _ = _
  unfold chkL
  have key : ∀ v e1, Owp ((fun (v : D) (e : En) => match e[i]? with
      | some (.op (.list xs)) => (match f xs v with | some ys => .ok Fl.nx (e.set i (.op (.list ys))) | none => .no)
      | _ => Out.no) v e1) Q = kM1 i f Q v e1 := fun v e1 => by
    rw [kM1_ap]
    dsimp only
    generalize e1[i]? = t
    cases t with
    | none => with_unfolding_all rfl
    | some s =>
      cases s with
      | op d =>
        cases d <;> try with_unfolding_all rfl
        rw [opL_op, onS_s]
        dsimp only [kM2]
        generalize f _ v = u
        cases u <;> with_unfolding_all rfl
      | _ => with_unfolding_all rfl
  generalize e[i]? = t
  cases t with
  | none => with_unfolding_all rfl
  | some s =>
    cases s with
    | op d =>
      cases d <;> try with_unfolding_all rfl
      simp only [owp_ok, wp_bnd, opL, onS, kM0]
      congr 1; funext v e1
      exact key v e1
    | _ => with_unfolding_all rfl
/-! iterations -/
def kIt (f : D → Option (List D)) (Q : List D → En → Prop) : D → En → Prop := fun d e => onS (f d) (kE Q e)
@[simp] theorem kIt_ap (f : D → Option (List D)) (Q : List D → En → Prop) (d : D) (e : En) : kIt f Q d e = onS (f d) (kE Q e) := by with_unfolding_all rfl
def kIts (f : List D → Option (List D)) (Q : List D → En → Prop) : List D → En → Prop := fun d e => onS (f d) (kE Q e)
@[simp] theorem kIts_ap (f : List D → Option (List D)) (Q : List D → En → Prop) (d : List D) (e : En) : kIts f Q d e = onS (f d) (kE Q e) := by with_unfolding_all rfl
@[simp] theorem wp_walkA (m : M D) (e : En) (Q : List D → En → Prop) : Wp (walkA m) e Q = Wp m e (kIt itemsA Q) := by
  simp only [walkA, wp_bnd, wp_lft]; with_unfolding_all rfl
@[simp] theorem wp_range1 (ms : List (M D)) (e : En) (Q : List D → En → Prop) : Wp (range1 ms) e Q = Wp (seqM ms) e (kIts rg1 Q) := by
  simp only [range1, wp_bnd, wp_lft]; with_unfolding_all rfl
@[simp] theorem wp_range2 (ms : List (M D)) (e : En) (Q : List D → En → Prop) : Wp (range2 ms) e Q = Wp (seqM ms) e (kIts rg2 Q) := by
  simp only [range2, wp_bnd, wp_lft]; with_unfolding_all rfl
@[simp] theorem wp_range3 (ms : List (M D)) (e : En) (Q : List D → En → Prop) : Wp (range3 ms) e Q = Wp (seqM ms) e (kIts rg3 Q) := by
  simp only [range3, wp_bnd, wp_lft]; with_unfolding_all rfl
@[simp] theorem wp_zipM (ms : List (M D)) (e : En) (Q : List D → En → Prop) : Wp (zipM ms) e Q = Wp (seqM ms) e (kIts zpD Q) := by
  simp only [zipM, wp_bnd, wp_lft]; with_unfolding_all rfl
@[simp] theorem wp_enumM (ms : List (M D)) (e : En) (Q : List D → En → Prop) : Wp (enumM ms) e Q = Wp (seqM ms) e (kIts enD Q) := by
  simp only [enumM, wp_bnd, wp_lft]; with_unfolding_all rfl
def kFor (tg : D → En → Option En) (body : M Fl) (Q : Fl → En → Prop) : List D → En → Prop := fun ds e => Wp (forL tg body ds) e Q
@[simp] theorem kFor_ap (tg : D → En → Option En) (body : M Fl) (Q : Fl → En → Prop) (ds : List D) (e : En) : kFor tg body Q ds e = Wp (forL tg body ds) e Q := by with_unfolding_all rfl
@[simp] theorem wp_for (mi : M (List D)) (tg : D → En → Option En) (body : M Fl) (e : En) (Q : Fl → En → Prop) : Wp (sFor mi tg body) e Q = Wp mi e (kFor tg body Q) := by
  simp only [sFor, wp_bnd]; with_unfolding_all rfl
def kTurn (I : En → Prop) (Q : Fl → En → Prop) : Fl → En → Prop := fun f e => match f with | .nx => I e | .ct => I e | .bk => Q .nx e | .rt v => Q (.rt v) e | .ro v => Q (.ro v) e
@[simp] theorem kTurn_nx (I : En → Prop) (Q : Fl → En → Prop) (e : En) : kTurn I Q .nx e = I e := by with_unfolding_all rfl
@[simp] theorem kTurn_ct (I : En → Prop) (Q : Fl → En → Prop) (e : En) : kTurn I Q .ct e = I e := by with_unfolding_all rfl
@[simp] theorem kTurn_bk (I : En → Prop) (Q : Fl → En → Prop) (e : En) : kTurn I Q .bk e = Q .nx e := by with_unfolding_all rfl
@[simp] theorem kTurn_rt (I : En → Prop) (Q : Fl → En → Prop) (v : D) (e : En) : kTurn I Q (.rt v) e = Q (.rt v) e := by with_unfolding_all rfl
@[simp] theorem kTurn_ro (I : En → Prop) (Q : Fl → En → Prop) (v : D) (e : En) : kTurn I Q (.ro v) e = Q (.ro v) e := by with_unfolding_all rfl
/-- a loop by an invariant of what is left -/
theorem wp_forL {tg : D → En → Option En} {body : M Fl} {Q : Fl → En → Prop} (I : List D → En → Prop)
    (step : ∀ d rest e, I (d :: rest) e → onS (tg d e) fun e1 => Wp body e1 (kTurn (I rest) Q))
    (fin : ∀ e, I [] e → Q .nx e) : ∀ (ds : List D) (e : En), I ds e → Wp (forL tg body ds) e Q
  | [], e, h => by
    unfold Wp forL ret
    rw [owp_ok]; exact fin e h
  | d :: ds, e, h => by
    have h2 := step d ds e h
    unfold Wp forL
    cases ht : tg d e with
    | none => rw [ht, onS_n] at h2; exact h2.elim
    | some e1 =>
      rw [ht, onS_s] at h2
      unfold Wp at h2
      dsimp only
      cases hb : body e1 with
      | no => rw [hb] at h2; exact h2.no_
      | exc x e2 => rw [hb] at h2; exact h2.exc_
      | ok f e2 =>
        rw [hb, owp_ok] at h2
        cases f with
        | nx => exact wp_forL I step fin ds e2 h2
        | ct => exact wp_forL I step fin ds e2 h2
        | bk => dsimp only; rw [owp_ok]; exact h2
        | rt v => dsimp only; rw [owp_ok]; exact h2
        | ro v => dsimp only; rw [owp_ok]; exact h2
def kElt (I : List D → En → Prop) (vs : List Nat) (acc : List D) : D → En → Prop := fun y e => I (acc ++ [y]) (wipeE e vs)
@[simp] theorem kElt_ap (I : List D → En → Prop) (vs : List Nat) (acc : List D) (y : D) (e : En) : kElt I vs acc y e = I (acc ++ [y]) (wipeE e vs) := by with_unfolding_all rfl
def kCond (elt : M D) (I : List D → En → Prop) (vs : List Nat) (acc : List D) : Bool → En → Prop := fun b e => if b = true then Wp elt e (kElt I vs acc) else I acc (wipeE e vs)
@[simp] theorem kCond_t (elt : M D) (I : List D → En → Prop) (vs : List Nat) (acc : List D) (e : En) : kCond elt I vs acc true e = Wp elt e (kElt I vs acc) := by with_unfolding_all rfl
@[simp] theorem kCond_f (elt : M D) (I : List D → En → Prop) (vs : List Nat) (acc : List D) (e : En) : kCond elt I vs acc false e = I acc (wipeE e vs) := by with_unfolding_all rfl
theorem wp_cmpL {tg : D → En → Option En} {cond : M Bool} {elt : M D} {vs : List Nat} (I : List D → List D → En → Prop)
    (step : ∀ d rest acc e, I (d :: rest) acc e → onS (tg d e) fun e1 => Wp cond e1 (kCond elt (I rest) vs acc)) :
    ∀ (ds acc : List D) (e : En), I ds acc e → Wp (cmpL tg cond elt vs ds) e fun ys e' => I [] (acc ++ ys) e'
  | [], acc, e, h => by
    unfold Wp cmpL ret
    rw [owp_ok, List.append_nil]; exact h
  | d :: ds, acc, e, h => by
    have h2 := step d ds acc e h
    unfold Wp cmpL
    cases ht : tg d e with
    | none => rw [ht, onS_n] at h2; exact h2.elim
    | some e1 =>
      rw [ht, onS_s] at h2
      unfold Wp at h2
      dsimp only
      cases hc : cond e1 with
      | no => rw [hc] at h2; exact h2.no_
      | exc x e2 => rw [hc] at h2; exact h2.exc_
      | ok b e2 =>
        rw [hc, owp_ok] at h2
        cases b with
        | false =>
          have ih := wp_cmpL I step ds acc _ h2
          unfold Wp at ih
          dsimp only
          cases hr : cmpL tg cond elt vs ds (wipeE e2 vs) with
          | ok ys e4 => rw [hr, owp_ok] at ih; dsimp only; rw [owp_ok]; exact ih
          | exc x e4 => rw [hr] at ih; exact ih.exc_
          | no => rw [hr] at ih; exact ih.no_
        | true =>
          rw [kCond_t] at h2
          unfold Wp at h2
          dsimp only
          cases he : elt e2 with
          | no => rw [he] at h2; exact h2.no_
          | exc x e3 => rw [he] at h2; exact h2.exc_
          | ok y e3 =>
            rw [he, owp_ok] at h2
            have ih := wp_cmpL I step ds _ _ h2
            unfold Wp at ih
            dsimp only
            cases hr : cmpL tg cond elt vs ds (wipeE e3 vs) with
            | ok ys e4 => rw [hr, owp_ok] at ih; dsimp only; rw [owp_ok]; simpa using ih
            | exc x e4 => rw [hr] at ih; exact ih.exc_
            | no => rw [hr] at ih; exact ih.no_
/-- what a comprehension asks, once its source is there -/
def kLc (vs : List Nat) (tg : D → En → Option En) (cond : M Bool) (elt : M D) (Q : D → En → Prop) : List D → En → Prop := fun ds e =>
  Wp (cmpL tg cond elt vs ds) (wipeE e vs) fun ys e1 => ys.length ≤ sizeLine ∧ Q (.list ys) (restE e e1 vs)
@[simp] theorem wp_lc (vs : List Nat) (mi : M (List D)) (tg : D → En → Option En) (cond : M Bool) (elt : M D) (e : En) (Q : D → En → Prop) : Wp (lcM vs mi tg cond elt) e Q = Wp mi e (kLc vs tg cond elt Q) := by
  unfold lcM
  rw [wp_bnd]
  congr 1; funext ds e1
  show Owp (match cmpL tg cond elt vs ds (wipeE e1 vs) with
    | .ok ys e2 => if ys.length ≤ sizeLine then .ok (.list ys) (restE e1 e2 vs) else .no
    | _ => .no) Q = Owp (cmpL tg cond elt vs ds (wipeE e1 vs)) _
  cases cmpL tg cond elt vs ds (wipeE e1 vs) with
  | ok ys e2 =>
    dsimp only
    rw [owp_ok]
    by_cases hl : ys.length ≤ sizeLine
    · rw [if_pos hl]; simp only [hl, true_and, owp_ok]
    · rw [if_neg hl]; simp only [hl, false_and, owp_no]
  | exc x e2 => with_unfolding_all rfl
  | no => with_unfolding_all rfl
theorem kLc_of {vs : List Nat} {tg : D → En → Option En} {cond : M Bool} {elt : M D} {Q : D → En → Prop} {ds : List D} {e : En} (J : List D → List D → En → Prop) (h0 : J ds [] (wipeE e vs))
    (step : ∀ d rest acc e, J (d :: rest) acc e → onS (tg d e) fun e1 => Wp cond e1 (kCond elt (J rest) vs acc))
    (fin : ∀ acc e', J [] acc e' → acc.length ≤ sizeLine ∧ Q (.list acc) (restE e e' vs)) : kLc vs tg cond elt Q ds e :=
  Wp.mono (wp_cmpL J step ds [] _ h0) fun ys e1 h => fin ys e1 (by simpa using h)
end
def endF (mask : List Bool) (Q : D → List D → Prop) : Fl → En → Prop := fun f e => match f with
  | .rt d => onS (getO (posT mask 0) e) (Q d)
  | .nx => onS (getO (posT mask 0) e) (Q .none)
  | _ => False
def endO (mask : List Bool) (Q : D → List D → Prop) : Fl → En → Prop := fun f e => match f with
  | .ro d => onS (getO (posT mask 0) e) (Q d)
  | _ => False
@[simp] theorem endF_rt (mask : List Bool) (Q : D → List D → Prop) (d : D) (e : En) : endF mask Q (.rt d) e = onS (getO (posT mask 0) e) (Q d) := by with_unfolding_all rfl
@[simp] theorem endF_nx (mask : List Bool) (Q : D → List D → Prop) (e : En) : endF mask Q .nx e = onS (getO (posT mask 0) e) (Q .none) := by with_unfolding_all rfl
@[simp] theorem endO_ro (mask : List Bool) (Q : D → List D → Prop) (d : D) (e : En) : endO mask Q (.ro d) e = onS (getO (posT mask 0) e) (Q d) := by with_unfolding_all rfl
def kBody (body : M Fl) (Q : Fl → En → Prop) : En → Prop := fun e => Wp body e Q
@[simp] theorem kBody_ap (body : M Fl) (Q : Fl → En → Prop) (e : En) : kBody body Q e = Wp body e Q := by with_unfolding_all rfl
theorem fwp_mk (mask : List Bool) (n : Nat) (body : M Fl) (ds : List D) (Q : D → List D → Prop) : Fwp (mkF mask n body ds) Q = onS (initE mask ds n) (kBody body (endF mask Q)) := by
  unfold mkF
  cases initE mask ds n with
  | none => with_unfolding_all rfl
  | some e0 =>
    rw [onS_s, kBody_ap]
    dsimp only
    unfold Wp
    cases body e0 with
    | no => with_unfolding_all rfl
    | exc x e =>
      rw [owp_exc]
      dsimp only
      split <;> simp only [fwp_exc, fwp_no]
    | ok f e =>
      rw [owp_ok]
      try dsimp only
      cases f <;> dsimp only [endF] <;> (try cases getO (posT mask 0) e) <;> with_unfolding_all rfl
theorem fwp_mko (mask : List Bool) (n : Nat) (body : M Fl) (ds : List D) (Q : D → List D → Prop) : Fwp (mkFo mask n body ds) Q = onS (initE mask ds n) (kBody body (endO mask Q)) := by
  unfold mkFo
  cases initE mask ds n with
  | none => with_unfolding_all rfl
  | some e0 =>
    rw [onS_s, kBody_ap]
    dsimp only
    unfold Wp
    cases body e0 with
    | no => with_unfolding_all rfl
    | exc x e =>
      rw [owp_exc]
      dsimp only
      split <;> simp only [fwp_exc, fwp_no]
    | ok f e =>
      rw [owp_ok]
      try dsimp only
      cases f <;> dsimp only [endO] <;> (try cases getO (posT mask 0) e) <;> with_unfolding_all rfl
end ZZ

namespace ZZ
open PySem PySem.Spec L2
@[simp] theorem addD_i (i j : Int) : addD (.int i) (.int j) = some (.int (i + j)) := rfl
@[simp] theorem addD_s (i j : Str) : addD (.str i) (.str j) = if i.length + j.length ≤ sizeLine then some (.str (i ++ j)) else none := rfl
@[simp] theorem addD_t (i j : List D) : addD (.tuple i) (.tuple j) = if i.length + j.length ≤ sizeLine then some (.tuple (i ++ j)) else none := rfl
@[simp] theorem addD_l (i j : List D) : addD (.list i) (.list j) = if i.length + j.length ≤ sizeLine then some (.list (i ++ j)) else none := rfl
@[simp] theorem subD_i (i j : Int) : subD (.int i) (.int j) = some (.int (i - j)) := rfl
@[simp] theorem mulD_i (i j : Int) : mulD (.int i) (.int j) = if mulOk i j = true then some (.int (i * j)) else none := rfl
theorem mulOk_l {i j : Int} (h : -18446744073709551616 < i ∧ i < 18446744073709551616) : mulOk i j = true := by
  unfold mulOk
  simp only [Bool.or_eq_true, decide_eq_true_eq]
  left; left; omega
theorem mulOk_r {i j : Int} (h : -18446744073709551616 < j ∧ j < 18446744073709551616) : mulOk i j = true := by
  unfold mulOk
  simp only [Bool.or_eq_true, decide_eq_true_eq]
  left; right; omega
@[simp] theorem modD_i (i j : Int) : modD (.int i) (.int j) = if 0 < j then some (.int (i % j)) else none := rfl
theorem divD_i {i j : Int} (h : 0 < j ∧ j < 1073741824) : divD (.int i) (.int j) = some (.int (i / j)) := by simp only [divD, h, and_self, if_true]
theorem powD_i {i j : Int} (h : powOk i j = true) : powD (.int i) (.int j) = some (.int (i ^ j.toNat)) := by simp only [powD, h, if_true]
theorem powOk_s {i j : Int} (h0 : 0 ≤ j) (h1 : j ≤ 1000000) (h : -18446744073709551616 < i ∧ i < 18446744073709551616) : powOk i j = true := by
  unfold powOk
  have : i.natAbs < 2 ^ 64 := by omega
  simp [h0, h1, this]
theorem intBits_lt {i : Int} {n : Nat} (h0 : 0 < n) (h : i.natAbs < 2 ^ n) : Builtin.Int.intBits i ≤ n := by
  have : i.natAbs.log2 < n := by
    by_cases z : i.natAbs = 0
    · rw [z]; simpa using h0
    · exact (Nat.log2_lt z).mpr h
  unfold Builtin.Int.intBits
  split <;> omega
theorem powOk_b {i j : Int} {n : Nat} (hn : 0 < n) (h0 : 0 ≤ j) (h : i.natAbs < 2 ^ n) (h1 : (n : Int) * j ≤ 134217728) : powOk i j = true := by
  unfold powOk
  have hb := intBits_lt hn h
  have : (Builtin.Int.intBits i : Int) * j ≤ (n : Int) * j := Int.mul_le_mul_of_nonneg_right (by omega) h0
  simp only [Bool.and_eq_true, Bool.or_eq_true, decide_eq_true_eq]
  exact ⟨h0, .inr (by omega)⟩
@[simp] theorem ltD_i (i j : Int) : ltD (.int i) (.int j) = some (.bool (decide (i < j))) := rfl
@[simp] theorem ltD_s (i j : Str) : ltD (.str i) (.str j) = some (.bool (strLt i j)) := rfl
@[simp] theorem leD_i (i j : Int) : leD (.int i) (.int j) = some (.bool (decide (i ≤ j))) := rfl
@[simp] theorem gtD_i (i j : Int) : gtD (.int i) (.int j) = some (.bool (decide (j < i))) := rfl
@[simp] theorem geD_i (i j : Int) : geD (.int i) (.int j) = some (.bool (decide (j ≤ i))) := rfl
@[simp] theorem negD_i (i : Int) : negD (.int i) = some (.int (-i)) := rfl
@[simp] theorem isBD_b (i j : Bool) : isBD (.bool i) (.bool j) = some (.bool (decide (i = j))) := rfl
@[simp] theorem isnBD_b (i j : Bool) : isnBD (.bool i) (.bool j) = some (.bool (!decide (i = j))) := rfl
@[simp] theorem truD_b (b : Bool) : truD (.bool b) = some b := rfl
@[simp] theorem truD_i (i : Int) : truD (.int i) = some (i != 0) := rfl
@[simp] theorem truD_n : truD .none = some false := rfl
@[simp] theorem truD_l (ds : List D) : truD (.list ds) = some (!ds.isEmpty) := rfl
@[simp] theorem truD_t (ds : List D) : truD (.tuple ds) = some (!ds.isEmpty) := rfl
@[simp] theorem lenD_l (ds : List D) : lenD (.list ds) = some (.int ds.length) := rfl
@[simp] theorem lenD_t (ds : List D) : lenD (.tuple ds) = some (.int ds.length) := rfl
@[simp] theorem lenD_s (z : Str) : lenD (.str z) = if z.length ≤ sizeLine then some (.int z.length) else none := rfl
@[simp] theorem intD_i (i : Int) : intD (.int i) = some (.int i) := rfl
@[simp] theorem intD_b (b : Bool) : intD (.bool b) = some (.int (if b then 1 else 0)) := rfl
@[simp] theorem absD_i (i : Int) : absD (.int i) = some (.int (if i < 0 then -i else i)) := rfl
@[simp] theorem listD_l (ds : List D) : listD (.list ds) = some (.list ds) := rfl
@[simp] theorem listD_t (ds : List D) : listD (.tuple ds) = some (.list ds) := rfl
@[simp] theorem tupD_l (ds : List D) : tupD (.list ds) = some (.tuple ds) := rfl
@[simp] theorem tupD_t (ds : List D) : tupD (.tuple ds) = some (.tuple ds) := rfl
@[simp] theorem max2D_i (i j : Int) : max2D (.int i) (.int j) = some (.int (if j > i then j else i)) := rfl
@[simp] theorem min2D_i (i j : Int) : min2D (.int i) (.int j) = some (.int (if j < i then j else i)) := rfl
@[simp] theorem isiD_d (T : String) (d : D) : isiD T d = some (.bool (isiT T (tyD d))) := rfl
@[simp] theorem revD_l (ds : List D) : revD (.list ds) = some (.list ds.reverse) := rfl
@[simp] theorem slD_l (ds : List D) (l h : Option Int) : slD (.list ds) l h = some (.list (cutD ds l h)) := rfl
@[simp] theorem slD_t (ds : List D) (l h : Option Int) : slD (.tuple ds) l h = some (.tuple (cutD ds l h)) := rfl
@[simp] theorem itemsA_l (ds : List D) : itemsA (.list ds) = some ds := rfl
@[simp] theorem itemsA_t (ds : List D) : itemsA (.tuple ds) = some ds := rfl
@[simp] theorem itemsA_s (z : Str) : itemsA (.str z) = some (chrs z) := rfl
@[simp] theorem ixD_l (ds : List D) (i : Int) : ixD (.list ds) (.int i) = atI ds i := rfl
@[simp] theorem ixD_t (ds : List D) (i : Int) : ixD (.tuple ds) (.int i) = atI ds i := rfl
@[simp] theorem zpD_l (xs ys : List D) : zpD [.list xs, .list ys] = some (prs xs ys) := rfl
@[simp] theorem zpD_t (xs ys : List D) : zpD [.tuple xs, .tuple ys] = some (prs xs ys) := rfl
@[simp] theorem setT_t (is : List Nat) (ds : List D) (e : En) : setT is (.tuple ds) e = setNs is ds e := rfl
@[simp] theorem setTr_t (is : List Nat) (ds : List D) (e : En) : setTr is (.tuple ds) e = setNs is ds.reverse e := rfl
@[simp] theorem setNs_0 (e : En) : setNs [] [] e = some e := rfl
@[simp] theorem setNs_1 (i : Nat) (is : List Nat) (d : D) (ds : List D) (e : En) : setNs (i :: is) (d :: ds) e = (setN i d e).bind (setNs is ds) := rfl
theorem setN_of {i : Nat} {d : D} {e : En} (h : i < e.length) : setN i d e = some (e.set i (.fz d)) := by
  unfold setN
  rw [List.getElem?_eq_getElem h]
theorem setO_of {i : Nat} {d : D} {e : En} (h : i < e.length) : setO i d e = some (e.set i (.op d)) := by
  unfold setO
  rw [List.getElem?_eq_getElem h]
theorem atI_nn {α : Type} {xs : List α} {i : Int} {v : α} (h : 0 ≤ i) (hv : xs[i.toNat]? = some v) : atI xs i = some v := by
  have hl := (List.getElem?_eq_some_iff.mp hv).1
  unfold atI ixN
  rw [if_pos h, if_pos (by omega)]
  exact hv
end ZZ
namespace ZZ
open PySem PySem.Spec L2
@[simp] theorem setN_z (d : D) (s : Sl) (e : En) : setN 0 d (s :: e) = some (.fz d :: e) := rfl
@[simp] theorem setN_s (n : Nat) (d : D) (s : Sl) (e : En) : setN (n + 1) d (s :: e) = (setN n d e).map (s :: ·) := by
  unfold setN
  rw [List.getElem?_cons_succ]
  cases e[n]? <;> rfl
@[simp] theorem setO_z (d : D) (s : Sl) (e : En) : setO 0 d (s :: e) = some (.op d :: e) := rfl
@[simp] theorem setO_s (n : Nat) (d : D) (s : Sl) (e : En) : setO (n + 1) d (s :: e) = (setO n d e).map (s :: ·) := by
  unfold setO
  rw [List.getElem?_cons_succ]
  cases e[n]? <;> rfl
@[simp] theorem atI_z {α : Type} (x : α) (xs : List α) : atI (x :: xs) 0 = some x := by
  unfold atI ixN
  rw [if_pos (by omega), if_pos (by rw [List.length_cons]; omega)]
  rfl
end ZZ
namespace ZZ
open PySem PySem.Spec L2
theorem ixN_ok {n k : Nat} (h : k < n) : ixN n (k : Int) = some k := by
  unfold ixN
  rw [if_pos (by omega), if_pos (by omega)]
  rfl
theorem atI_lit {α : Type} {xs : List α} (k : Nat) {v : α} (h : xs[k]? = some v) : atI xs (k : Int) = some v := atI_nn (by omega) (by simpa using h)
@[simp] theorem atI_1 {α : Type} (x y : α) (xs : List α) : atI (x :: y :: xs) 1 = some y := atI_lit 1 rfl
@[simp] theorem atI_2 {α : Type} (x y z : α) (xs : List α) : atI (x :: y :: z :: xs) 2 = some z := atI_lit 2 rfl
@[simp] theorem atI_3 {α : Type} (x y z t : α) (xs : List α) : atI (x :: y :: z :: t :: xs) 3 = some t := atI_lit 3 rfl
@[simp] theorem atI_4 {α : Type} (x y z t u : α) (xs : List α) : atI (x :: y :: z :: t :: u :: xs) 4 = some u := atI_lit 4 rfl
theorem setIx_lit {xs : List D} (k : Nat) (h : k < xs.length) (v : D) : setIx xs (k : Int) v = some (xs.set k v) := by
  unfold setIx
  rw [ixN_ok h]; rfl
@[simp] theorem setIx_0 (x : D) (xs : List D) (v : D) : setIx (x :: xs) 0 v = some (v :: xs) := setIx_lit 0 (by simp) v
@[simp] theorem setIx_1 (x y : D) (xs : List D) (v : D) : setIx (x :: y :: xs) 1 v = some (x :: v :: xs) := setIx_lit 1 (by simp) v
@[simp] theorem setIx_2 (x y z : D) (xs : List D) (v : D) : setIx (x :: y :: z :: xs) 2 v = some (x :: y :: v :: xs) := setIx_lit 2 (by simp) v
/-- some one of a display is taken -/
theorem atI_some {α : Type} {xs : List α} {i : Int} (h0 : 0 ≤ i) (h : i < xs.length) : ∃ v, atI xs i = some v ∧ v ∈ xs := by
  have hl : i.toNat < xs.length := by omega
  exact ⟨xs[i.toNat], atI_nn h0 (List.getElem?_eq_getElem hl), List.getElem_mem hl⟩
end ZZ
namespace ZZ
open PySem PySem.Spec L2
theorem intsD_map : ∀ is : List Int, intsD (is.map PyData.int) = some is
  | [] => rfl
  | i :: is => by simp only [List.map_cons, intsD, intsD_map is, Option.map_some]
@[simp] theorem sumD_map (is : List Int) : sumD (.list (is.map PyData.int)) = some (.int is.sum) := by
  simp only [sumD, intsD_map, Option.map_some]
theorem cutD_map (is : List Int) (l h : Option Int) : ∃ js : List Int, cutD (is.map PyData.int) l h = js.map PyData.int := by
  unfold cutD
  rw [← List.map_drop, ← List.map_take]
  exact ⟨_, rfl⟩
theorem atI_map {is : List Int} {i : Int} (h0 : 0 ≤ i) (h : i < is.length) : ∃ z, atI (is.map PyData.int) i = some (.int z) := by
  obtain ⟨v, hv, hm⟩ := atI_some (xs := is.map PyData.int) h0 (by rw [List.length_map]; exact h)
  obtain ⟨z, _, rfl⟩ := List.mem_map.mp hm
  exact ⟨z, hv⟩
end ZZ
namespace ZZ
open PySem PySem.Spec L2
@[simp] theorem rg1_i (b : Int) : rg1 [.int b] = if rOk b = true then some (rng 0 b) else none := rfl
@[simp] theorem rg2_i (a b : Int) : rg2 [.int a, .int b] = if rOk a = true ∧ rOk b = true then some (rng a b) else none := rfl
theorem rOk_s {a : Int} (h : -1000000000000 ≤ a ∧ a ≤ 1000000000000) : rOk a = true := by
  unfold rOk
  rw [decide_eq_true_eq]; omega
theorem rng_drop_cons {a b : Int} {k : Nat} {d : D} {rest : List D} (h : (rng a b).drop k = d :: rest) : d = .int (a + k) ∧ rest = (rng a b).drop (k + 1) ∧ k < (b - a).toNat := by
  have hk : k < (rng a b).length := by
    apply Nat.lt_of_not_le
    intro hle
    rw [List.drop_eq_nil_of_le hle] at h; cases h
  have hc := List.drop_eq_getElem_cons hk
  rw [h] at hc
  injection hc with h1 h2
  have := rng_get (List.getElem?_eq_getElem hk)
  rw [← h1] at this
  exact ⟨this, h2, by rw [rng_len] at hk; exact hk⟩
theorem rng_drop_nil {a b : Int} {k : Nat} (h : (rng a b).drop k = []) : (b - a).toNat ≤ k := by
  rw [List.drop_eq_nil_iff, rng_len] at h; exact h
theorem lrgD_l (mk : List D → D) (a b : Int) : lrgD mk (.int a) (.int b) = if rgOk a b then some (mk (rng a b)) else none := rfl
theorem rgOk_s {a b : Int} (h : -1000000 ≤ a ∧ a ≤ 1000000 ∧ -1000000 ≤ b ∧ b ≤ 1000000) : rgOk a b = true := by
  unfold rgOk
  rw [decide_eq_true_eq]; omega
theorem lrgD_s (mk : List D → D) {a b : Int} (h : -1000000 ≤ a ∧ a ≤ 1000000 ∧ -1000000 ≤ b ∧ b ≤ 1000000) : lrgD mk (.int a) (.int b) = some (mk (rng a b)) := by
  rw [lrgD_l, rgOk_s h]; rfl
end ZZ
namespace ZZ
open PySem PySem.Spec L2
theorem shaped_i (i : Int) : SeqAt.shaped (.int i) = true := by simp [SeqAt.shaped, PyData.canLay0, PyData.depth]
theorem eqv_i (i j : Int) : PyData.eqv (.int i) (.int j) = decide (i = j) := by
  unfold PyData.eqv
  by_cases h : i = j <;> simp [h]
@[simp] theorem eqD_i (i j : Int) : eqD (.int i) (.int j) = some (.bool (decide (i = j))) := by
  show (if SeqAt.shaped (.int i) = true ∧ SeqAt.shaped (.int j) = true then some (PyData.bool (PyData.eqv (.int i) (.int j))) else none) = _
  rw [if_pos ⟨shaped_i i, shaped_i j⟩, eqv_i]
@[simp] theorem neD_i (i j : Int) : neD (.int i) (.int j) = some (.bool (!decide (i = j))) := by
  show (if SeqAt.shaped (.int i) = true ∧ SeqAt.shaped (.int j) = true then some (PyData.bool (!PyData.eqv (.int i) (.int j))) else none) = _
  rw [if_pos ⟨shaped_i i, shaped_i j⟩, eqv_i]
theorem eqD_s (i j : Str) : eqD (.str i) (.str j) = some (.bool (decide (i = j))) := rfl
theorem neD_s (i j : Str) : neD (.str i) (.str j) = some (.bool (!decide (i = j))) := rfl
end ZZ
namespace ZZ
open PySem PySem.Spec L2
@[simp] theorem isi_int_n : isiT "int" (tyD .none) = false := by decide
@[simp] theorem isi_int_b (b : Bool) : isiT "int" (tyD (.bool b)) = true := by show isiT "int" "bool" = true; decide
@[simp] theorem isi_int_i (i : Int) : isiT "int" (tyD (.int i)) = true := by show isiT "int" "int" = true; decide
@[simp] theorem isi_int_s (s : Str) : isiT "int" (tyD (.str s)) = false := by show isiT "int" "str" = false; decide
@[simp] theorem isi_int_l (xs : List D) : isiT "int" (tyD (.list xs)) = false := by show isiT "int" "list" = false; decide
@[simp] theorem isi_int_t (xs : List D) : isiT "int" (tyD (.tuple xs)) = false := by show isiT "int" "tuple" = false; decide
@[simp] theorem isi_int_d (xs : List (D × D)) : isiT "int" (tyD (.dict xs)) = false := by show isiT "int" "dict" = false; decide
@[simp] theorem isi_bool_n : isiT "bool" (tyD .none) = false := by decide
@[simp] theorem isi_bool_b (b : Bool) : isiT "bool" (tyD (.bool b)) = true := by show isiT "bool" "bool" = true; decide
@[simp] theorem isi_bool_i (i : Int) : isiT "bool" (tyD (.int i)) = false := by show isiT "bool" "int" = false; decide
@[simp] theorem isi_bool_s (s : Str) : isiT "bool" (tyD (.str s)) = false := by show isiT "bool" "str" = false; decide
@[simp] theorem isi_bool_l (xs : List D) : isiT "bool" (tyD (.list xs)) = false := by show isiT "bool" "list" = false; decide
@[simp] theorem isi_bool_t (xs : List D) : isiT "bool" (tyD (.tuple xs)) = false := by show isiT "bool" "tuple" = false; decide
@[simp] theorem isi_bool_d (xs : List (D × D)) : isiT "bool" (tyD (.dict xs)) = false := by show isiT "bool" "dict" = false; decide
@[simp] theorem isi_str_n : isiT "str" (tyD .none) = false := by decide
@[simp] theorem isi_str_b (b : Bool) : isiT "str" (tyD (.bool b)) = false := by show isiT "str" "bool" = false; decide
@[simp] theorem isi_str_i (i : Int) : isiT "str" (tyD (.int i)) = false := by show isiT "str" "int" = false; decide
@[simp] theorem isi_str_s (s : Str) : isiT "str" (tyD (.str s)) = true := by show isiT "str" "str" = true; decide
@[simp] theorem isi_str_l (xs : List D) : isiT "str" (tyD (.list xs)) = false := by show isiT "str" "list" = false; decide
@[simp] theorem isi_str_t (xs : List D) : isiT "str" (tyD (.tuple xs)) = false := by show isiT "str" "tuple" = false; decide
@[simp] theorem isi_str_d (xs : List (D × D)) : isiT "str" (tyD (.dict xs)) = false := by show isiT "str" "dict" = false; decide
@[simp] theorem isi_list_n : isiT "list" (tyD .none) = false := by decide
@[simp] theorem isi_list_b (b : Bool) : isiT "list" (tyD (.bool b)) = false := by show isiT "list" "bool" = false; decide
@[simp] theorem isi_list_i (i : Int) : isiT "list" (tyD (.int i)) = false := by show isiT "list" "int" = false; decide
@[simp] theorem isi_list_s (s : Str) : isiT "list" (tyD (.str s)) = false := by show isiT "list" "str" = false; decide
@[simp] theorem isi_list_l (xs : List D) : isiT "list" (tyD (.list xs)) = true := by show isiT "list" "list" = true; decide
@[simp] theorem isi_list_t (xs : List D) : isiT "list" (tyD (.tuple xs)) = false := by show isiT "list" "tuple" = false; decide
@[simp] theorem isi_list_d (xs : List (D × D)) : isiT "list" (tyD (.dict xs)) = false := by show isiT "list" "dict" = false; decide
@[simp] theorem isi_tuple_n : isiT "tuple" (tyD .none) = false := by decide
@[simp] theorem isi_tuple_b (b : Bool) : isiT "tuple" (tyD (.bool b)) = false := by show isiT "tuple" "bool" = false; decide
@[simp] theorem isi_tuple_i (i : Int) : isiT "tuple" (tyD (.int i)) = false := by show isiT "tuple" "int" = false; decide
@[simp] theorem isi_tuple_s (s : Str) : isiT "tuple" (tyD (.str s)) = false := by show isiT "tuple" "str" = false; decide
@[simp] theorem isi_tuple_l (xs : List D) : isiT "tuple" (tyD (.list xs)) = false := by show isiT "tuple" "list" = false; decide
@[simp] theorem isi_tuple_t (xs : List D) : isiT "tuple" (tyD (.tuple xs)) = true := by show isiT "tuple" "tuple" = true; decide
@[simp] theorem isi_tuple_d (xs : List (D × D)) : isiT "tuple" (tyD (.dict xs)) = false := by show isiT "tuple" "dict" = false; decide
@[simp] theorem isi_dict_n : isiT "dict" (tyD .none) = false := by decide
@[simp] theorem isi_dict_b (b : Bool) : isiT "dict" (tyD (.bool b)) = false := by show isiT "dict" "bool" = false; decide
@[simp] theorem isi_dict_i (i : Int) : isiT "dict" (tyD (.int i)) = false := by show isiT "dict" "int" = false; decide
@[simp] theorem isi_dict_s (s : Str) : isiT "dict" (tyD (.str s)) = false := by show isiT "dict" "str" = false; decide
@[simp] theorem isi_dict_l (xs : List D) : isiT "dict" (tyD (.list xs)) = false := by show isiT "dict" "list" = false; decide
@[simp] theorem isi_dict_t (xs : List D) : isiT "dict" (tyD (.tuple xs)) = false := by show isiT "dict" "tuple" = false; decide
@[simp] theorem isi_dict_d (xs : List (D × D)) : isiT "dict" (tyD (.dict xs)) = true := by show isiT "dict" "dict" = true; decide
theorem fo_eq {o : FO} {a : D} {b : List D} (h : Fwp o fun d os => d = a ∧ os = b) : o = .ok a b := by
  cases o with
  | ok d os =>
    rw [fwp_ok] at h
    rw [h.1, h.2]
  | exc x e => rw [fwp_exc] at h; exact h.elim
  | no => rw [fwp_no] at h; exact h.elim
def isT (o : FO) : Bool := match o with | .ok (.bool true) [] => true | _ => false
def isF (o : FO) : Bool := match o with | .ok (.bool false) [] => true | _ => false
theorem of_isT {o : FO} (h : isT o = true) : o = .ok (.bool true) [] := by
  unfold isT at h
  split at h
  · rfl
  · cases h
theorem of_isF {o : FO} (h : isF o = true) : o = .ok (.bool false) [] := by
  unfold isF at h
  split at h
  · rfl
  · cases h
def intB : D → Bool
  | .int _ => true
  | _ => false
@[simp] theorem notD_b (b : Bool) : notD (.bool b) = some (.bool !b) := rfl
@[simp] theorem isNone_n : isNoneD .none = true := rfl
@[simp] theorem isNone_s (s : Str) : isNoneD (.str s) = false := rfl
@[simp] theorem isNone_i (s : Int) : isNoneD (.int s) = false := rfl
@[simp] theorem isNone_t (s : List D) : isNoneD (.tuple s) = false := rfl
@[simp] theorem isNone_l (s : List D) : isNoneD (.list s) = false := rfl
end ZZ
namespace ZZ
open PySem PySem.Spec L2
def bIs (b : Bool) (o : Option D) : Bool := match o with | some (.bool c) => c == b | _ => false
theorem of_bIs {b : Bool} {o : Option D} (h : bIs b o = true) : o = some (.bool b) := by
  unfold bIs at h
  split at h
  · rename_i c; have : c = b := by simpa using h
    rw [this]
  · cases h
end ZZ
namespace ZZ
open PySem PySem.Spec L2
def kPure (y : D) (e0 : En) (vs : List Nat) : D → En → Prop := fun z e => z = y ∧ wipeE e vs = e0
@[simp] theorem kPure_ap (y : D) (e0 : En) (vs : List Nat) (z : D) (e : En) : kPure y e0 vs z e = (z = y ∧ wipeE e vs = e0) := rfl
/-- [elt for target in ds], where nothing is drawn -/
theorem kLc_map {vs : List Nat} {tg : D → En → Option En} {elt : M D} {Q : D → En → Prop} {ds : List D} {e : En} (f : D → D)
    (h : ∀ d ∈ ds, onS (tg d (wipeE e vs)) fun e1 => Wp elt e1 (kPure (f d) (wipeE e vs) vs)) (hl : ds.length ≤ sizeLine) (q : Q (.list (ds.map f)) (restE e (wipeE e vs) vs)) : kLc vs tg (ret true) elt Q ds e := by
  refine kLc_of (fun rest acc e' => e' = wipeE e vs ∧ ∃ done, done ++ rest = ds ∧ acc = done.map f) ⟨rfl, [], rfl, rfl⟩ ?_ ?_
  · rintro d rest acc _ ⟨rfl, done, hd, rfl⟩
    have h1 := h d (by rw [← hd]; simp)
    cases ht : tg d (wipeE e vs) with
    | none => rw [ht, onS_n] at h1; exact h1.elim
    | some e1 =>
      rw [ht] at h1
      simp only [onS_s, wp_ret, kCond_t] at h1 ⊢
      refine Wp.mono h1 ?_
      rintro y e2 ⟨rfl, h2⟩
      exact ⟨h2, done ++ [d], by rw [List.append_assoc]; exact hd, by rw [List.map_append]; rfl⟩
  · rintro acc _ ⟨rfl, done, hd, rfl⟩
    rw [List.append_nil] at hd
    subst hd
    exact ⟨by rw [List.length_map]; exact hl, q⟩
/-- [elt for target in ds if cond], where nothing is drawn -/
theorem kLc_filter {vs : List Nat} {tg : D → En → Option En} {cond : M Bool} {elt : M D} {Q : D → En → Prop} {ds : List D} {e : En} (p : D → Bool) (f : D → D)
    (h : ∀ d ∈ ds, onS (tg d (wipeE e vs)) fun e1 => Wp cond e1 fun b e2 => b = p d ∧ (b = true → Wp elt e2 (kPure (f d) (wipeE e vs) vs)) ∧ (b = false → wipeE e2 vs = wipeE e vs)) (hl : ds.length ≤ sizeLine) (q : Q (.list ((ds.filter p).map f)) (restE e (wipeE e vs) vs)) : kLc vs tg cond elt Q ds e := by
  refine kLc_of (fun rest acc e' => e' = wipeE e vs ∧ ∃ done, done ++ rest = ds ∧ acc = (done.filter p).map f) ⟨rfl, [], rfl, rfl⟩ ?_ ?_
  · rintro d rest acc _ ⟨rfl, done, hd, rfl⟩
    have h1 := h d (by rw [← hd]; simp)
    cases ht : tg d (wipeE e vs) with
    | none => rw [ht, onS_n] at h1; exact h1.elim
    | some e1 =>
      rw [ht] at h1
      simp only [onS_s] at h1 ⊢
      refine Wp.mono h1 ?_
      rintro b e2 ⟨hb, h2, h3⟩
      cases b with
      | true =>
        refine Wp.mono (h2 rfl) ?_
        rintro y e3 ⟨rfl, h4⟩
        exact ⟨h4, done ++ [d], by rw [List.append_assoc]; exact hd, by rw [List.filter_append, List.map_append, List.filter_cons, ← hb]; rfl⟩
      | false => exact ⟨h3 rfl, done ++ [d], by rw [List.append_assoc]; exact hd, by rw [List.filter_append, List.filter_cons, ← hb]; simp⟩
  · rintro acc _ ⟨rfl, done, hd, rfl⟩
    rw [List.append_nil] at hd
    subst hd
    exact ⟨by rw [List.length_map]; exact Nat.le_trans (List.length_filter_le _ _) hl, q⟩
theorem boolsD_map (p : D → Bool) : ∀ ds : List D, boolsD (ds.map fun d => .bool (p d)) = some (ds.map p)
  | [] => rfl
  | d :: ds => by simp only [List.map_cons, boolsD, boolsD_map p ds, Option.map_some]
theorem allD_map (p : D → Bool) (ds : List D) : allD (.list (ds.map fun d => .bool (p d))) = some (.bool (ds.all p)) := by
  simp only [allD, boolsD_map, Option.map_some, List.all_map]
  rfl
theorem anyD_map (p : D → Bool) (ds : List D) : anyD (.list (ds.map fun d => .bool (p d))) = some (.bool (ds.any p)) := by
  simp only [anyD, boolsD_map, Option.map_some, List.any_map]
  rfl
end ZZ
namespace ZZ
open PySem PySem.Spec L2
theorem cutD_take (xs : List D) (k : Nat) : cutD xs none (some (k : Int)) = xs.take k := by
  unfold cutD
  rw [HT.sIx_none, HT.sIx_nat, List.drop_zero, Nat.sub_zero]
  by_cases h : k ≤ xs.length
  · rw [Nat.min_eq_left h]
  · rw [Nat.min_eq_right (by omega), List.take_length, List.take_of_length_le (by omega)]
theorem cutD_drop (xs : List D) (k : Nat) : cutD xs (some (k : Int)) none = xs.drop k := by
  unfold cutD
  rw [HT.sIx_none, HT.sIx_nat]
  by_cases h : k ≤ xs.length
  · rw [Nat.min_eq_left h, List.take_of_length_le (by rw [List.length_drop]; omega)]
  · rw [Nat.min_eq_right (by omega), List.drop_length, List.drop_eq_nil_of_le (by omega : xs.length ≤ k)]
    simp
theorem asc_pairs {fs : List Int} (hp : fs.Pairwise (· < ·)) : ∀ d ∈ prs (fs.map PyData.int) ((fs.map PyData.int).drop 1), ∃ a b : Int, d = .tuple [.int a, .int b] ∧ a < b := by
  induction fs with
  | nil => intro d hd; simp [prs] at hd
  | cons x t ih =>
    intro d hd
    cases t with
    | nil => simp [prs] at hd
    | cons y t =>
      rw [List.pairwise_cons] at hp
      have : prs ((x :: y :: t).map PyData.int) (((x :: y :: t).map PyData.int).drop 1) = .tuple [.int x, .int y] :: prs ((y :: t).map PyData.int) (((y :: t).map PyData.int).drop 1) := rfl
      rw [this] at hd
      rcases List.mem_cons.mp hd with rfl | hd
      · exact ⟨x, y, rfl, hp.1 y List.mem_cons_self⟩
      · exact ih hp.2 d hd
theorem prs_len (xs ys : List D) : (prs xs ys).length ≤ xs.length := by
  unfold prs
  rw [List.length_map, List.length_zip]
  omega
end ZZ
namespace ZZ
open PySem PySem.Spec PyProof.Rows L2
@[simp] theorem pickD_1 (a : D) : pickD [0] [a] = [a] := rfl
@[simp] theorem pickD_2 (a b : D) : pickD [0, 1] [a, b] = [a, b] := rfl
@[simp] theorem pickD_3 (a b c : D) : pickD [0, 1, 2] [a, b, c] = [a, b, c] := rfl
@[simp] theorem pickD_4 (a b c d : D) : pickD [0, 1, 2, 3] [a, b, c, d] = [a, b, c, d] := rfl
@[simp] theorem appD_l (xs : List D) (v : D) : appD xs v = if xs.length < sizeLine then some (xs ++ [v]) else none := rfl
@[simp] theorem extD_l (xs ys : List D) : extD xs (.list ys) = if xs.length + ys.length ≤ sizeLine then some (xs ++ ys) else none := rfl
/-- a text of whole numbers fits -/
theorem shown_ints (k : Nat) (hk : 0 < k) : ∀ fs : List Int, (∀ x ∈ fs, 0 ≤ x ∧ x < 10 ^ k) → ((PyData.shownAll (fs.map PyData.int)).map (·.length)).sum ≤ k * fs.length ∧ (PyData.shownAll (fs.map PyData.int)).length = fs.length
  | [], _ => by simp [PyData.shownAll]
  | x :: fs, h => by
    obtain ⟨h1, h2⟩ := shown_ints k hk fs fun y hy => h y (List.mem_cons_of_mem _ hy)
    have h3 := toString_length_le (h x List.mem_cons_self).1 hk (h x List.mem_cons_self).2
    simp only [List.map_cons, PyData.shownAll, PyData.shown, List.sum_cons, List.length_cons]
    refine ⟨?_, by omega⟩
    have e : k * (fs.length + 1) = k * fs.length + k := by rw [Nat.mul_add, Nat.mul_one]
    omega
theorem depth_ints : ∀ fs : List Int, PyData.depthAll (fs.map PyData.int) ≤ 1
  | [] => by simp [PyData.depthAll]
  | x :: fs => by
    have := depth_ints fs
    simp only [List.map_cons, PyData.depthAll, PyData.depth]
    omega
theorem showable_ints : ∀ fs : List Int, (∀ x ∈ fs, 0 ≤ x ∧ x < 10 ^ 18) → PyData.showableAll (fs.map PyData.int) = true
  | [], _ => by simp [PyData.showableAll]
  | x :: fs, h => by
    have h1 := h x List.mem_cons_self
    have h2 : x.natAbs.log2 < 1920 := by
      by_cases z : x.natAbs = 0
      · rw [z]; decide
      · have : x.natAbs < 2 ^ 64 := by omega
        have := (Nat.log2_lt z).mpr this
        omega
    simp only [List.map_cons, PyData.showableAll, PyData.showable, h2, decide_true, Bool.true_and]
    exact showable_ints fs fun y hy => h y (List.mem_cons_of_mem _ hy)
theorem canLay_ints : ∀ fs : List Int, PyData.canLayAll0 (fs.map PyData.int) = true
  | [] => by simp [PyData.canLayAll0]
  | f :: fs => by simp only [List.map_cons, PyData.canLayAll0, PyData.canLay0, canLay_ints fs, Bool.and_self]
theorem repr_ints {fs : List Int} (h : ∀ x ∈ fs, 0 ≤ x ∧ x < 10 ^ 18) (hl : fs.length ≤ 100000) : ∃ z, reprD (.tuple (fs.map PyData.int)) = some (.str z) := by
  unfold reprD
  have h1 := shown_ints 18 (by omega) fs h
  have h2 := tupleText_len_le (PyData.shownAll (fs.map PyData.int))
  refine ⟨_, if_pos ⟨by simp only [PyData.canLay0, canLay_ints], by simp only [PyData.showable, showable_ints fs h], ?_, ?_⟩⟩
  · have := depth_ints fs
    simp only [PyData.depth]; omega
  · simp only [PyData.shown]
    rw [sizeLine_eq]
    omega
end ZZ

namespace ZZ
open PySem PySem.Spec L2
@[simp] theorem wp_zipA (n : Nat) (ms : List (M D)) (e : En) (Q : List D → En → Prop) : Wp (zipA n ms) e Q = Wp (seqM ms) e (kIts (zpA n) Q) := by
  simp only [zipA, wp_bnd, wp_lft]; with_unfolding_all rfl
@[simp] theorem wp_enumB (ms : List (M D)) (e : En) (Q : List D → En → Prop) : Wp (enumB ms) e Q = Wp (seqM ms) e (kIts enDB Q) := by
  simp only [enumB, wp_bnd, wp_lft]; with_unfolding_all rfl
theorem prsN_2 (xs ys : List D) : prsN [xs, ys] = prs xs ys := by
  unfold prsN tupN tupN prs
  rw [List.zip_map_right, List.map_map, List.map_map]
  rfl
@[simp] theorem zpA_ll (xs ys : List D) : zpA 2 [.list xs, .list ys] = some (prs xs ys) := by rw [← prsN_2]; rfl
@[simp] theorem zpA_lt (xs ys : List D) : zpA 2 [.list xs, .tuple ys] = some (prs xs ys) := by rw [← prsN_2]; rfl
@[simp] theorem zpA_tl (xs ys : List D) : zpA 2 [.tuple xs, .list ys] = some (prs xs ys) := by rw [← prsN_2]; rfl
@[simp] theorem zpA_tt (xs ys : List D) : zpA 2 [.tuple xs, .tuple ys] = some (prs xs ys) := by rw [← prsN_2]; rfl
@[simp] theorem zpA_3l (xs ys zs : List D) : zpA 3 [.list xs, .list ys, .list zs] = some (prsN [xs, ys, zs]) := rfl
@[simp] theorem enDB_l (xs : List D) : enDB [.list xs] = some (enm xs) := rfl
@[simp] theorem enDB_t (xs : List D) : enDB [.tuple xs] = some (enm xs) := rfl
@[simp] theorem seqT_t (n : Nat) (fs : List D → En → Option En) (ds : List D) (e : En) : seqT n fs (.tuple ds) e = if ds.length = n then fs ds e else none := rfl
@[simp] theorem consT_c (f : D → En → Option En) (fs : List D → En → Option En) (d : D) (ds : List D) (e : En) : consT f fs (d :: ds) e = (f d e).bind (fs ds) := rfl
@[simp] theorem nilT_0 (e : En) : nilT [] e = some e := rfl
/-! an open first argument that is given away -/
def kN3 (e : En) (Q : D → En → Prop) : D → List D → Prop := fun d outs => match outs with | [_] => Q d e | _ => False
@[simp] theorem kN3_ap (e : En) (Q : D → En → Prop) (d x : D) : kN3 e Q d [x] = Q d e := by with_unfolding_all rfl
def kN2 (F : List D → FO) (d : D) (Q : D → En → Prop) : List D → En → Prop := fun ds e => Fwp (F (d :: ds)) (kN3 e Q)
@[simp] theorem kN2_ap (F : List D → FO) (d : D) (Q : D → En → Prop) (ds : List D) (e : En) : kN2 F d Q ds e = Fwp (F (d :: ds)) (kN3 e Q) := by with_unfolding_all rfl
def kN1 (F : List D → FO) (ms : List (M D)) (Q : D → En → Prop) : D → En → Prop := fun d e => Wp (seqM ms) e (kN2 F d Q)
@[simp] theorem kN1_ap (F : List D → FO) (ms : List (M D)) (Q : D → En → Prop) (d : D) (e : En) : kN1 F ms Q d e = Wp (seqM ms) e (kN2 F d Q) := by with_unfolding_all rfl
@[simp] theorem wp_callN (F : List D → FO) (m : M D) (ms : List (M D)) (e : En) (Q : D → En → Prop) : Wp (callN F m ms) e Q = Wp m e (kN1 F ms Q) := by
  unfold callN
  rw [wp_bnd]
  congr 1; funext d e1
  rw [kN1_ap, wp_bnd, wp_noX]
  congr 1; funext ds e2
  rw [kN2_ap]
  show Owp (match F (d :: ds) with
    | .ok v [_] => .ok v e2
    | _ => .no) Q = Fwp (F (d :: ds)) (kN3 e2 Q)
  cases F (d :: ds) with
  | ok v outs =>
    cases outs with
    | nil => with_unfolding_all rfl
    | cons x t => cases t <;> with_unfolding_all rfl
  | exc x o => with_unfolding_all rfl
  | no => with_unfolding_all rfl
/-! long chains -/
def kCG (l : List ((D → D → Option D) × M D)) (Q : D → En → Prop) : D → En → Prop := fun x e => Wp (chG l x) e Q
@[simp] theorem kCG_ap (l : List ((D → D → Option D) × M D)) (Q : D → En → Prop) (x : D) (e : En) : kCG l Q x e = Wp (chG l x) e Q := by with_unfolding_all rfl
@[simp] theorem wp_chnG (a : M D) (l : List ((D → D → Option D) × M D)) (e : En) (Q : D → En → Prop) : Wp (chnG a l) e Q = Wp a e (kCG l Q) := by
  simp only [chnG, wp_bnd]; with_unfolding_all rfl
@[simp] theorem wp_chG1 (op : D → D → Option D) (m : M D) (x : D) (e : En) (Q : D → En → Prop) : Wp (chG [(op, m)] x) e Q = Wp m e (kBin2 op x Q) := by
  simp only [chG, wp_bnd, wp_lft]; with_unfolding_all rfl
def kCG3 (l : List ((D → D → Option D) × M D)) (y : D) (e : En) (Q : D → En → Prop) : D → Prop := fun z => match z with | .bool true => Wp (chG l y) e Q | .bool false => Q (.bool false) e | _ => False
@[simp] theorem kCG3_ap (l : List ((D → D → Option D) × M D)) (y : D) (e : En) (Q : D → En → Prop) (b : Bool) : kCG3 l y e Q (.bool b) = ifM b (chG l y) (ret (.bool false)) e Q := by
  cases b <;> with_unfolding_all rfl
def kCG2 (op : D → D → Option D) (x : D) (l : List ((D → D → Option D) × M D)) (Q : D → En → Prop) : D → En → Prop := fun y e => onS (op x y) (kCG3 l y e Q)
@[simp] theorem kCG2_ap (op : D → D → Option D) (x : D) (l : List ((D → D → Option D) × M D)) (Q : D → En → Prop) (y : D) (e : En) : kCG2 op x l Q y e = onS (op x y) (kCG3 l y e Q) := by with_unfolding_all rfl
@[simp] theorem wp_chG2 (op : D → D → Option D) (m : M D) (q : (D → D → Option D) × M D) (r : List ((D → D → Option D) × M D)) (x : D) (e : En) (Q : D → En → Prop) : Wp (chG ((op, m) :: q :: r) x) e Q = Wp m e (kCG2 op x (q :: r) Q) := by
  unfold chG
  rw [wp_bnd]
  congr 1; funext y e1
  rw [wp_bnd, wp_lft]
  show onS (op x y) _ = onS (op x y) _
  congr 1; funext z
  rw [kE_ap]
  cases z with
  | bool b => cases b <;> with_unfolding_all rfl
  | _ => with_unfolding_all rfl
/-! while -/
def kWhl (I : Nat → En → Prop) (k : Nat) (body : M Fl) (Q : Fl → En → Prop) : Bool → En → Prop := fun b e => if b = true then Wp body e (kTurn (fun e2 => ∃ k', k' < k ∧ I k' e2) Q) else Q .nx e
@[simp] theorem kWhl_t (I : Nat → En → Prop) (k : Nat) (body : M Fl) (Q : Fl → En → Prop) (e : En) : kWhl I k body Q true e = Wp body e (kTurn (fun e2 => ∃ k', k' < k ∧ I k' e2) Q) := by with_unfolding_all rfl
@[simp] theorem kWhl_f (I : Nat → En → Prop) (k : Nat) (body : M Fl) (Q : Fl → En → Prop) (e : En) : kWhl I k body Q false e = Q .nx e := by with_unfolding_all rfl
theorem wp_whlN {c : M Bool} {body : M Fl} {Q : Fl → En → Prop} (I : Nat → En → Prop) (step : ∀ k e, I k e → Wp c e (kWhl I k body Q)) : ∀ (m k : Nat) (e : En), k < m → I k e → Wp (whlN c body m) e Q
  | 0, k, e, hk, _ => absurd hk (Nat.not_lt_zero _)
  | m + 1, k, e, hk, h => by
    have h2 := step k e h
    unfold Wp at h2
    unfold Wp whlN
    cases hc : c e with
    | no => rw [hc] at h2; exact h2.no_
    | exc x e1 => rw [hc] at h2; exact h2.exc_
    | ok b e1 =>
      rw [hc, owp_ok] at h2
      cases b with
      | false => dsimp only; rw [owp_ok]; rw [kWhl_f] at h2; exact h2
      | true =>
        rw [kWhl_t] at h2
        unfold Wp at h2
        dsimp only
        cases hb : body e1 with
        | no => rw [hb] at h2; exact h2.no_
        | exc x e2 => rw [hb] at h2; exact h2.exc_
        | ok f e2 =>
          rw [hb, owp_ok] at h2
          cases f with
          | nx => rw [kTurn_nx] at h2; obtain ⟨k', hk', hi⟩ := h2; exact wp_whlN I step m k' e2 (by omega) hi
          | ct => rw [kTurn_ct] at h2; obtain ⟨k', hk', hi⟩ := h2; exact wp_whlN I step m k' e2 (by omega) hi
          | bk => rw [kTurn_bk] at h2; dsimp only; rw [owp_ok]; exact h2
          | rt v => rw [kTurn_rt] at h2; dsimp only; rw [owp_ok]; exact h2
          | ro v => rw [kTurn_ro] at h2; dsimp only; rw [owp_ok]; exact h2
theorem wp_whl {c : M Bool} {body : M Fl} {Q : Fl → En → Prop} {e : En} (I : Nat → En → Prop) (k : Nat) (h : I k e) (hk : k ≤ 1000000) (step : ∀ k e, I k e → Wp c e (kWhl I k body Q)) : Wp (whlN c body FUEL) e Q :=
  wp_whlN I step FUEL k e (by have := fuel_big; omega) h
/-! whole numbers in lists -/
def rngL (a b : Int) : List Int := (List.range (b - a).toNat).map fun i => a + (i : Nat)
theorem rng_ints (a b : Int) : rng a b = (rngL a b).map PyData.int := by
  unfold rng rngL
  rw [List.map_map]; rfl
theorem mem_rngL {a b x : Int} : x ∈ rngL a b ↔ a ≤ x ∧ x < b := by
  unfold rngL
  rw [List.mem_map]
  constructor
  · intro h
    obtain ⟨i, hi, e⟩ := h
    rw [List.mem_range] at hi
    omega
  · intro h
    exact ⟨(x - a).toNat, by rw [List.mem_range]; omega, by omega⟩
theorem rngL_asc (a b : Int) : (rngL a b).Pairwise (· < ·) := by
  unfold rngL
  refine List.Pairwise.map _ (R := fun i j : Nat => i < j) (fun i j h => ?_) List.pairwise_lt_range
  show a + (i : Int) < a + (j : Int)
  omega
theorem rngL_len (a b : Int) : (rngL a b).length = (b - a).toNat := by unfold rngL; rw [List.length_map, List.length_range]
def unI (f : Int → Bool) : D → Bool := fun d => match d with | .int x => f x | _ => false
def unF (f : Int → D) : D → D := fun d => match d with | .int x => f x | _ => .none
/-- [elt for x in ints if cond] -/
theorem kLc_ints {vs : List Nat} {tg : D → En → Option En} {cond : M Bool} {elt : M D} {Q : D → En → Prop} {xs : List Int} {e : En} (p : Int → Bool) (f : Int → D)
    (h : ∀ x ∈ xs, onS (tg (.int x) (wipeE e vs)) fun e1 => Wp cond e1 fun b e2 => b = p x ∧ (b = true → Wp elt e2 (kPure (f x) (wipeE e vs) vs)) ∧ (b = false → wipeE e2 vs = wipeE e vs)) (hl : xs.length ≤ sizeLine) (q : Q (.list ((xs.filter p).map f)) (restE e (wipeE e vs) vs)) : kLc vs tg cond elt Q (xs.map PyData.int) e := by
  refine kLc_filter (unI p) (unF f) (fun d hd => ?_) (by rw [List.length_map]; exact hl) ?_
  · obtain ⟨x, hx, rfl⟩ := List.mem_map.mp hd
    exact h x hx
  · have e1 : ((xs.map PyData.int).filter (unI p)).map (unF f) = (xs.filter p).map f := by
      rw [List.filter_map, List.map_map]
      rfl
    rw [e1]; exact q
theorem kLc_intsM {vs : List Nat} {tg : D → En → Option En} {elt : M D} {Q : D → En → Prop} {xs : List Int} {e : En} (f : Int → D)
    (h : ∀ x ∈ xs, onS (tg (.int x) (wipeE e vs)) fun e1 => Wp elt e1 (kPure (f x) (wipeE e vs) vs)) (hl : xs.length ≤ sizeLine) (q : Q (.list (xs.map f)) (restE e (wipeE e vs) vs)) : kLc vs tg (ret true) elt Q (xs.map PyData.int) e := by
  refine kLc_map (unF f) (fun d hd => ?_) (by rw [List.length_map]; exact hl) ?_
  · obtain ⟨x, hx, rfl⟩ := List.mem_map.mp hd
    exact h x hx
  · rw [List.map_map]; exact q
theorem boolsD_bool {α : Type} (p : α → Bool) : ∀ xs : List α, boolsD (xs.map fun x => .bool (p x)) = some (xs.map p)
  | [] => rfl
  | d :: ds => by simp only [List.map_cons, boolsD, boolsD_bool p ds, Option.map_some]
theorem allD_b {α : Type} (p : α → Bool) (xs : List α) : allD (.list (xs.map fun x => .bool (p x))) = some (.bool (xs.all p)) := by
  simp only [allD, boolsD_bool, Option.map_some, List.all_map]; rfl
theorem anyD_b {α : Type} (p : α → Bool) (xs : List α) : anyD (.list (xs.map fun x => .bool (p x))) = some (.bool (xs.any p)) := by
  simp only [anyD, boolsD_bool, Option.map_some, List.any_map]; rfl
/-- two ascending lists with the same members are the same -/
theorem asc_ext : ∀ {xs ys : List Int}, xs.Pairwise (· < ·) → ys.Pairwise (· < ·) → (∀ z, z ∈ xs ↔ z ∈ ys) → xs = ys
  | [], [], _, _, _ => rfl
  | [], y :: ys, _, _, h => absurd ((h y).mpr List.mem_cons_self) (by simp)
  | x :: xs, [], _, _, h => absurd ((h x).mp List.mem_cons_self) (by simp)
  | x :: xs, y :: ys, h1, h2, h => by
    rw [List.pairwise_cons] at h1 h2
    have e : x = y := by
      have a := (h x).mp List.mem_cons_self
      have b := (h y).mpr List.mem_cons_self
      rcases List.mem_cons.mp a with a | a
      · exact a
      · rcases List.mem_cons.mp b with b | b
        · exact b.symm
        · have := h1.1 y b; have := h2.1 x a; omega
    subst e
    rw [asc_ext h1.2 h2.2 fun z => ?_]
    constructor
    · intro hz
      rcases List.mem_cons.mp ((h z).mp (List.mem_cons_of_mem _ hz)) with e | e
      · have := h1.1 z hz; omega
      · exact e
    · intro hz
      rcases List.mem_cons.mp ((h z).mpr (List.mem_cons_of_mem _ hz)) with e | e
      · have := h2.1 z hz; omega
      · exact e
theorem atI_ints {xs : List Int} {i : Int} (h0 : 0 ≤ i) (h : i < xs.length) : atI (xs.map PyData.int) i = some (.int (xs.getD i.toNat 0)) := by
  have hl : i.toNat < xs.length := by omega
  refine atI_nn h0 ?_
  rw [List.getElem?_map, List.getElem?_eq_getElem hl, List.getD_eq_getElem?_getD, List.getElem?_eq_getElem hl]
  rfl
end ZZ

namespace ZZ
open PySem PySem.Spec PyProof.Rows L2 PySem.W
/-! several names at once, some of them open -/
def kPc (d : D) (Q : List D → En → Prop) : List D → En → Prop := fun ds e => Q (d :: ds) e
@[simp] theorem kPc_ap (d : D) (Q : List D → En → Prop) (ds : List D) (e : En) : kPc d Q ds e = Q (d :: ds) e := by with_unfolding_all rfl
def kPv (r : List PI1) (Q : List D → En → Prop) : D → En → Prop := fun d e => Wp (evP r) e (kPc d Q)
@[simp] theorem kPv_ap (r : List PI1) (Q : List D → En → Prop) (d : D) (e : En) : kPv r Q d e = Wp (evP r) e (kPc d Q) := by with_unfolding_all rfl
@[simp] theorem wp_evP0 (e : En) (Q : List D → En → Prop) : Wp (evP []) e Q = Q [] e := by
  show Wp (ret []) e Q = _
  exact wp_ret _ _ _
@[simp] theorem wp_evPv (m : M D) (r : List PI1) (e : En) (Q : List D → En → Prop) : Wp (evP (.v m :: r)) e Q = Wp m e (kPv r Q) := by
  show Wp (bnd m fun d => bnd (evP r) fun ds => ret (d :: ds)) e Q = _
  rw [wp_bnd]
  congr 1; funext d e1
  rw [wp_bnd, kPv_ap]
  congr 1; funext ds e2
  rw [wp_ret, kPc_ap]
@[simp] theorem wp_evPo (m : M D) (r : List PI1) (e : En) (Q : List D → En → Prop) : Wp (evP (.o m :: r)) e Q = Wp m e (kPv r Q) := by
  show Wp (bnd m fun d => bnd (noX (evP r)) fun ds => ret (d :: ds)) e Q = _
  rw [wp_bnd]
  congr 1; funext d e1
  rw [wp_bnd, wp_noX, kPv_ap]
  congr 1; funext ds e2
  rw [wp_ret, kPc_ap]
def kPut (is : List Nat) (bs : List Bool) (Q : Fl → En → Prop) : List D → En → Prop := fun ds e => onS (putP is bs ds e) (kNx Q)
@[simp] theorem kPut_ap (is : List Nat) (bs : List Bool) (Q : Fl → En → Prop) (ds : List D) (e : En) : kPut is bs Q ds e = onS (putP is bs ds e) (kNx Q) := by with_unfolding_all rfl
def kPutR (is : List Nat) (bs : List Bool) (Q : Fl → En → Prop) : List D → En → Prop := fun ds e => onS (putP is bs ds.reverse e) (kNx Q)
@[simp] theorem kPutR_ap (is : List Nat) (bs : List Bool) (Q : Fl → En → Prop) (ds : List D) (e : En) : kPutR is bs Q ds e = onS (putP is bs ds.reverse e) (kNx Q) := by with_unfolding_all rfl
@[simp] theorem wp_sPar (is : List Nat) (ps : List PI1) (e : En) (Q : Fl → En → Prop) : Wp (sPar is ps) e Q = Wp (evP ps) e (kPutR is (opP ps).reverse Q) := by
  unfold sPar
  rw [wp_bnd]
  congr 1; funext ds e1
  rw [kPutR_ap]
  show Owp (match putP is (opP ps).reverse ds.reverse e1 with | some e' => .ok .nx e' | none => .no) Q = _
  cases putP is (opP ps).reverse ds.reverse e1 <;> with_unfolding_all rfl
@[simp] theorem wp_sParN (is : List Nat) (ps : List PI1) (e : En) (Q : Fl → En → Prop) : Wp (sParN is ps) e Q = Wp (evP ps) e (kPut is (opP ps) Q) := by
  unfold sParN
  rw [wp_bnd]
  congr 1; funext ds e1
  rw [kPut_ap]
  show Owp (match putP is (opP ps) ds e1 with | some e' => .ok .nx e' | none => .no) Q = _
  cases putP is (opP ps) ds e1 <;> with_unfolding_all rfl
@[simp] theorem opP_0 : opP [] = [] := rfl
@[simp] theorem opP_v (m : M D) (r : List PI1) : opP (.v m :: r) = false :: opP r := rfl
@[simp] theorem opP_o (m : M D) (r : List PI1) : opP (.o m :: r) = true :: opP r := rfl
@[simp] theorem putP_0 (e : En) : putP [] [] [] e = some e := rfl
@[simp] theorem putP_t (i : Nat) (is : List Nat) (bs : List Bool) (d : D) (ds : List D) (e : En) : putP (i :: is) (true :: bs) (d :: ds) e = (setO i d e).bind (putP is bs ds) := rfl
@[simp] theorem putP_f (i : Nat) (is : List Nat) (bs : List Bool) (d : D) (ds : List D) (e : En) : putP (i :: is) (false :: bs) (d :: ds) e = (setN i d e).bind (putP is bs ds) := rfl
/-! functions of several values -/
def kSq (f : List D → Option D) (Q : D → En → Prop) : List D → En → Prop := fun ds e => onS (f ds) (kE Q e)
@[simp] theorem kSq_ap (f : List D → Option D) (Q : D → En → Prop) (ds : List D) (e : En) : kSq f Q ds e = onS (f ds) (kE Q e) := by with_unfolding_all rfl
@[simp] theorem wp_seqOp (f : List D → Option D) (ms : List (M D)) (e : En) (Q : D → En → Prop) : Wp (seqOp f ms) e Q = Wp (seqM ms) e (kSq f Q) := by
  simp only [seqOp, wp_bnd, wp_lft]; with_unfolding_all rfl
@[simp] theorem wp_range3p (ms : List (M D)) (e : En) (Q : List D → En → Prop) : Wp (range3p ms) e Q = Wp (seqM ms) e (kIts irg3 Q) := by
  simp only [range3p, wp_bnd, wp_lft]; with_unfolding_all rfl
/-! sorted -/
def sortZ (ns : List Int) : List Int := ns.mergeSort fun a b => decide (a ≤ b)
theorem sortOk_ints (ns : List Int) : sortOk (ns.map PyData.int) = true := by
  unfold sortOk
  simp only [Bool.and_eq_true, Bool.or_eq_true]
  refine ⟨⟨⟨?_, .inr ?_⟩, canLay_ints ns⟩, ?_⟩
  · unfold alikeB
    rw [List.all_eq_true]
    intro d hd
    rw [List.all_eq_true]
    intro e he
    obtain ⟨x, _, rfl⟩ := List.mem_map.mp hd
    obtain ⟨y, _, rfl⟩ := List.mem_map.mp he
    simp only [alike]
  · rw [List.all_eq_true]
    intro d hd
    obtain ⟨x, _, rfl⟩ := List.mem_map.mp hd
    rfl
  · rw [List.all_eq_true]
    intro d hd
    obtain ⟨x, _, rfl⟩ := List.mem_map.mp hd
    simp only [PyData.depth]; rfl
theorem sortL_ints (ns : List Int) : sortL (ns.map PyData.int) = (sortZ ns).map PyData.int := by
  unfold sortL sortZ
  refine (sort_maps PyData.int fun a _ b _ => ?_).symm
  have h := congrFun (congrFun (dataLe_int (fun x : Int => x)) a) b
  rw [← h]
  rfl
@[simp] theorem sortD_tints (ns : List Int) : sortD (.tuple (ns.map PyData.int)) = some (.list ((sortZ ns).map PyData.int)) := by
  simp only [sortD, sortOk_ints, sortL_ints, if_true]
@[simp] theorem sortD_lints (ns : List Int) : sortD (.list (ns.map PyData.int)) = some (.list ((sortZ ns).map PyData.int)) := by
  simp only [sortD, sortOk_ints, sortL_ints, if_true]
theorem mem_sortZ {ns : List Int} {x : Int} : x ∈ sortZ ns ↔ x ∈ ns := by
  unfold sortZ; exact (List.mergeSort_perm ns _).mem_iff
theorem sortZ_asc {ns : List Int} (h : ns.Nodup) : (sortZ ns).Pairwise (· < ·) := by
  have h1 : (sortZ ns).Pairwise fun a b => decide (a ≤ b) = true := by
    unfold sortZ
    exact List.pairwise_mergeSort (fun a b c h1 h2 => decide_eq_true (by have := of_decide_eq_true h1; have := of_decide_eq_true h2; omega)) (fun a b => by
      rw [Bool.or_eq_true, decide_eq_true_eq, decide_eq_true_eq]; omega) ns
  have h2 : (sortZ ns).Nodup := by unfold sortZ; exact (List.mergeSort_perm ns _).nodup_iff.mpr h
  unfold List.Nodup at h2
  refine (h1.and h2).imp fun {a b} h => ?_
  have := of_decide_eq_true h.1
  have := h.2
  omega
theorem ssD_ints {ns : List Int} (h : ns.length < 63) : ssD (.tuple (ns.map PyData.int)) = some (.list ((sortU ns).map PyData.int)) := by
  simp only [ssD, intsD_map, if_pos h]
/-! least and greatest of whole numbers -/
theorem minD_ints (i : Int) (is : List Int) : ∃ m, minD (.list ((i :: is).map PyData.int)) = some (.int m) ∧ m ∈ i :: is ∧ ∀ y ∈ i :: is, m ≤ y := by
  refine ⟨_, ?_, (fold_min is i).1, (fold_min is i).2⟩
  simp only [minD, intsD_map, Option.bind_some]
  rfl
theorem maxD_ints (i : Int) (is : List Int) : ∃ m, maxD (.list ((i :: is).map PyData.int)) = some (.int m) ∧ m ∈ i :: is ∧ ∀ y ∈ i :: is, y ≤ m := by
  refine ⟨_, ?_, (fold_max is i).1, (fold_max is i).2⟩
  simp only [maxD, intsD_map, Option.bind_some]
  rfl
@[simp] theorem inRg_i (i n : Int) : inRg (.int i) (.int n) = some (.bool (decide (0 ≤ i) && decide (i < n))) := by
  show some (PyData.bool (decide (0 ≤ i ∧ i < n))) = _
  rw [Bool.decide_and]
end ZZ

namespace ZZ
open PySem PySem.Spec PyProof.Rows L2 PySem.W
@[simp] theorem isi2D_d (T1 T2 : String) (d : D) : isi2D T1 T2 d = some (.bool (isiT T1 (tyD d) || isiT T2 (tyD d))) := rfl
@[simp] theorem sumXD_l (ns : List Int) : sumXD (.list (ns.map PyData.int)) = some (.int ns.sum) := by
  simp only [sumXD, intsD_map, Option.map_some]
@[simp] theorem sumXD_t (ns : List Int) : sumXD (.tuple (ns.map PyData.int)) = some (.int ns.sum) := by
  simp only [sumXD, intsD_map, Option.map_some]
@[simp] theorem revTD_t (ds : List D) : revTD (.tuple ds) = some (.tuple ds.reverse) := rfl
@[simp] theorem pickD_0 : pickD [] [] = [] := rfl
theorem mulX_rep (d : D) {k : Int} (h0 : 0 ≤ k) (h1 : k ≤ 1000) : mulXD (.tuple [d]) (.int k) = some (.tuple (List.replicate k.toNat d)) := by
  unfold mulXD
  simp only [if_pos (by simp : [d] ≠ [])]
  by_cases c1 : k = 1
  · rw [if_pos c1, c1]; rfl
  · rw [if_neg c1]
    by_cases c0 : k = 0
    · rw [if_pos c0, c0]; rfl
    · rw [if_neg c0]
      show (if [d] ≠ [] ∧ 2 ≤ k ∧ k ≤ 1000 ∧ [d].length ≤ 1000 then some (PyData.tuple (List.replicate k.toNat [d]).flatten) else if k = 1 ∧ False then none else none) = _
      rw [if_pos ⟨by simp, by omega, h1, by simp⟩]
      congr 2
      generalize k.toNat = n
      induction n with
      | zero => rfl
      | succ n ih => rw [List.replicate_succ, List.replicate_succ, List.flatten_cons, ih]; rfl
/-! comprehensions over a list that is open -/
def kEO (i : Nat) (ds : List D) (Q : D → En → Prop) : D → En → Prop := fun v e => e[i]? = some (.op (.list ds)) ∧ Q v e
@[simp] theorem kEO_ap (i : Nat) (ds : List D) (Q : D → En → Prop) (v : D) (e : En) : kEO i ds Q v e = (e[i]? = some (.op (.list ds)) ∧ Q v e) := by with_unfolding_all rfl
def kLcO (i : Nat) (vs : List Nat) (tg : D → En → Option En) (cond : M Bool) (elt : M D) (Q : D → En → Prop) (e : En) : Option Sl → Prop := fun o => match o with
  | some (.op (.list ds)) => kLc vs (chkT i ds tg) cond elt (kEO i ds Q) ds e
  | _ => False
@[simp] theorem kLcO_ap (i : Nat) (vs : List Nat) (tg : D → En → Option En) (cond : M Bool) (elt : M D) (Q : D → En → Prop) (e : En) (ds : List D) : kLcO i vs tg cond elt Q e (some (.op (.list ds))) = kLc vs (chkT i ds tg) cond elt (kEO i ds Q) ds e := by with_unfolding_all rfl
open Classical in
@[simp] theorem wp_lcO (i : Nat) (vs : List Nat) (tg : D → En → Option En) (cond : M Bool) (elt : M D) (e : En) (Q : D → En → Prop) : Wp (lcO i vs tg cond elt) e Q = kLcO i vs tg cond elt Q e e[i]? := by
  by_cases h : ∃ ds, e[i]? = some (.op (.list ds))
  · obtain ⟨ds, h⟩ := h
    rw [h, kLcO_ap]
    unfold Wp lcO kLc
    rw [h]
    show Owp (match cmpL (chkT i ds tg) cond elt vs ds (wipeE e vs) with
      | .ok ys e1 => if ys.length ≤ sizeLine ∧ (restE e e1 vs)[i]? = some (.op (.list ds)) then .ok (.list ys) (restE e e1 vs) else .no
      | _ => .no) Q = Owp (cmpL (chkT i ds tg) cond elt vs ds (wipeE e vs)) _
    cases cmpL (chkT i ds tg) cond elt vs ds (wipeE e vs) with
    | ok ys e2 =>
      dsimp only
      rw [owp_ok, kEO_ap]
      by_cases hl : ys.length ≤ sizeLine ∧ (restE e e2 vs)[i]? = some (.op (.list ds))
      · rw [if_pos hl, owp_ok]; simp only [hl.1, hl.2, true_and]
      · rw [if_neg hl, owp_no]
        refine propext ⟨fun h => h.elim, fun h => hl ⟨h.1, h.2.1⟩⟩
    | exc x e2 => with_unfolding_all rfl
    | no => with_unfolding_all rfl
  · have h' : ∀ ds, e[i]? ≠ some (.op (.list ds)) := fun ds hd => h ⟨ds, hd⟩
    have e1 : lcO i vs tg cond elt e = .no := by
      unfold lcO
      split
      · rename_i ds hd; exact absurd hd (h' _)
      · rfl
    unfold Wp
    rw [e1, owp_no]
    unfold kLcO
    split
    · rename_i ds hd; exact absurd hd (h' ds)
    · rfl
theorem chkT_ok {i : Nat} {ds : List D} {tg : D → En → Option En} {d : D} {e : En} (h : e[i]? = some (.op (.list ds))) : chkT i ds tg d e = tg d e := by
  unfold chkT; rw [if_pos h]
end ZZ

namespace ZZ
open PySem PySem.Spec PyProof.Rows L2 PySem.W
/-! ### dicts that are filled, defs with a star -/
@[simp] theorem extT_t (xs ys : List D) : extT xs (.tuple ys) = if xs.length + ys.length ≤ sizeLine then some (xs ++ ys) else none := rfl
@[simp] theorem listKD_d (ds : List (D × D)) : listKD (.dict ds) = some (.list (ds.map (·.1))) := rfl
@[simp] theorem keyD_s (x : Str) : keyD (.str x) = some (.inr x) := rfl
@[simp] theorem keyD_i (x : Int) : keyD (.int x) = some (.inl x) := rfl
def opK : Option Sl → Option (List (D × D))
  | some (.op (.dict ks)) => some ks
  | _ => none
@[simp] theorem opK_op (ks : List (D × D)) : opK (some (.op (.dict ks))) = some ks := rfl
def kD3 (i : Nat) (e : En) (Q : Fl → En → Prop) : List (D × D) → Prop := fun ys => Q .nx (e.set i (.op (.dict ys)))
@[simp] theorem kD3_ap (i : Nat) (e : En) (Q : Fl → En → Prop) (ys : List (D × D)) : kD3 i e Q ys = Q .nx (e.set i (.op (.dict ys))) := by with_unfolding_all rfl
def kD2 (i : Nat) (k v : D) (e : En) (Q : Fl → En → Prop) : List (D × D) → Prop := fun ks => onS (if ks.length < sizeLine then some (putD ks k v) else none) (kD3 i e Q)
@[simp] theorem kD2_ap (i : Nat) (k v : D) (e : En) (Q : Fl → En → Prop) (ks : List (D × D)) : kD2 i k v e Q ks = onS (if ks.length < sizeLine then some (putD ks k v) else none) (kD3 i e Q) := by with_unfolding_all rfl
def kD1b (i : Nat) (k v : D) (e : En) (Q : Fl → En → Prop) : Key → Prop := fun _ => onS (opK e[i]?) (kD2 i k v e Q)
@[simp] theorem kD1b_ap (i : Nat) (k v : D) (e : En) (Q : Fl → En → Prop) (x : Key) : kD1b i k v e Q x = onS (opK e[i]?) (kD2 i k v e Q) := by with_unfolding_all rfl
def kD1 (i : Nat) (v : D) (Q : Fl → En → Prop) : D → En → Prop := fun k e => onS (keyD k) (kD1b i k v e Q)
@[simp] theorem kD1_ap (i : Nat) (v : D) (Q : Fl → En → Prop) (k : D) (e : En) : kD1 i v Q k e = onS (keyD k) (kD1b i k v e Q) := by with_unfolding_all rfl
def kD0b (i : Nat) (mk : M D) (v : D) (e : En) (Q : Fl → En → Prop) : D → Prop := fun _ => Wp mk e (kD1 i v Q)
@[simp] theorem kD0b_ap (i : Nat) (mk : M D) (v : D) (e : En) (Q : Fl → En → Prop) (d : D) : kD0b i mk v e Q d = Wp mk e (kD1 i v Q) := by with_unfolding_all rfl
def kD0 (i : Nat) (mk : M D) (Q : Fl → En → Prop) : D → En → Prop := fun v e => gO e[i]? (kD0b i mk v e Q)
@[simp] theorem kD0_ap (i : Nat) (mk : M D) (Q : Fl → En → Prop) (v : D) (e : En) : kD0 i mk Q v e = gO e[i]? (kD0b i mk v e Q) := by with_unfolding_all rfl
@[simp] theorem wp_setK (i : Nat) (mk mv : M D) (e : En) (Q : Fl → En → Prop) : Wp (sSetK i mk mv) e Q = Wp mv e (kD0 i mk Q) := by
  unfold sSetK
  rw [wp_bnd]
  congr 1; funext v e1
  rw [wp_bnd]
  show Owp (chkO i e1) _ = gO e1[i]? (kD0b i mk v e1 Q)
  unfold chkO
  have key : ∀ k e2, Owp ((fun (k : D) (e : En) => match keyD k with
      | some _ => (match e[i]? with
        | some (.op (.dict ks)) => if ks.length < sizeLine then .ok Fl.nx (e.set i (.op (.dict (putD ks k v)))) else .no
        | _ => .no)
      | none => Out.no) k e2) Q = kD1 i v Q k e2 := fun k e2 => by
    rw [kD1_ap]
    dsimp only
    cases keyD k with
    | none => dsimp only; rw [onS_n, owp_no]
    | some kk =>
      dsimp only
      rw [onS_s, kD1b_ap]
      generalize e2[i]? = t
      cases t with
      | none => with_unfolding_all rfl
      | some s =>
        cases s with
        | op d =>
          cases d <;> try with_unfolding_all rfl
          rw [opK_op, onS_s, kD2_ap]
          dsimp only
          split
          · rw [onS_s, kD3_ap, owp_ok]
          · rw [onS_n, owp_no]
        | _ => with_unfolding_all rfl
  generalize e1[i]? = t
  cases t with
  | none => with_unfolding_all rfl
  | some s =>
    cases s with
    | op d =>
      simp only [owp_ok, wp_bnd, gO, kD0b]
      congr 1; funext k e2
      exact key k e2
    | _ => with_unfolding_all rfl
def kCS (F : List D → FO) (Q : D → En → Prop) : List D → En → Prop := fun ds e => if ds.length ≤ sizeLine then Fwp (F [.tuple ds]) (kK2 e Q) else False
@[simp] theorem kCS_ap (F : List D → FO) (Q : D → En → Prop) (ds : List D) (e : En) : kCS F Q ds e = if ds.length ≤ sizeLine then Fwp (F [.tuple ds]) (kK2 e Q) else False := by with_unfolding_all rfl
@[simp] theorem wp_callS (F : List D → FO) (ms : List (M D)) (e : En) (Q : D → En → Prop) : Wp (callS F ms) e Q = Wp (seqM ms) e (kCS F Q) := by
  unfold callS
  rw [wp_bnd]
  congr 1; funext ds e1
  rw [kCS_ap]
  unfold Wp
  dsimp only
  split
  · cases F [.tuple ds] with
    | ok d outs => cases outs <;> with_unfolding_all rfl
    | exc x o => with_unfolding_all rfl
    | no => with_unfolding_all rfl
  · rw [owp_no]
end ZZ

namespace ZZ
open PySem PySem.Spec PyProof.Rows L2 PySem.W
/-! ### {k: v for ..}, walks over keys, dicts with None -/
@[simp] theorem itemsK_d (ps : List (D × D)) : itemsK (.dict ps) = some (ps.map (·.1)) := rfl
@[simp] theorem wp_walkK (m : M D) (e : En) (Q : List D → En → Prop) : Wp (walkK m) e Q = Wp m e (kIt itemsK Q) := by
  simp only [walkK, wp_bnd, wp_lft]; with_unfolding_all rfl
def kDv (vs : List Nat) (acc : List (D × D)) (J : List (D × D) → En → Prop) (k : D) : D → En → Prop := fun v e => (keyD k).isSome = true ∧ acc.length < sizeLine ∧ J (putD acc k v) (wipeE e vs)
@[simp] theorem kDv_ap (vs : List Nat) (acc : List (D × D)) (J : List (D × D) → En → Prop) (k v : D) (e : En) : kDv vs acc J k v e = ((keyD k).isSome = true ∧ acc.length < sizeLine ∧ J (putD acc k v) (wipeE e vs)) := by with_unfolding_all rfl
def kDk (mv : M D) (vs : List Nat) (acc : List (D × D)) (J : List (D × D) → En → Prop) : D → En → Prop := fun k e => Wp mv e (kDv vs acc J k)
@[simp] theorem kDk_ap (mv : M D) (vs : List Nat) (acc : List (D × D)) (J : List (D × D) → En → Prop) (k : D) (e : En) : kDk mv vs acc J k e = Wp mv e (kDv vs acc J k) := by with_unfolding_all rfl
theorem wp_cmpK {tg : D → En → Option En} {mk mv : M D} {vs : List Nat} (J : List D → List (D × D) → En → Prop)
    (step : ∀ d rest acc e, J (d :: rest) acc e → onS (tg d e) fun e1 => Wp mk e1 (kDk mv vs acc (J rest))) :
    ∀ (ds : List D) (acc : List (D × D)) (e : En), J ds acc e → Wp (cmpK tg mk mv vs ds acc) e fun ps e' => J [] ps e'
  | [], acc, e, h => by
    unfold Wp cmpK ret
    rw [owp_ok]; exact h
  | d :: ds, acc, e, h => by
    have h2 := step d ds acc e h
    unfold Wp cmpK
    cases ht : tg d e with
    | none => rw [ht, onS_n] at h2; exact h2.elim
    | some e1 =>
      rw [ht, onS_s] at h2
      unfold Wp at h2
      dsimp only
      cases hk : mk e1 with
      | no => rw [hk] at h2; exact h2.no_
      | exc x e2 => rw [hk] at h2; exact h2.exc_
      | ok k e2 =>
        rw [hk, owp_ok, kDk_ap] at h2
        unfold Wp at h2
        dsimp only
        cases hv : mv e2 with
        | no => rw [hv] at h2; exact h2.no_
        | exc x e3 => rw [hv] at h2; exact h2.exc_
        | ok v e3 =>
          rw [hv, owp_ok, kDv_ap] at h2
          obtain ⟨a1, a2, a3⟩ := h2
          dsimp only
          cases hkk : keyD k with
          | none => rw [hkk] at a1; cases a1
          | some kk =>
            dsimp only
            rw [if_pos a2]
            exact wp_cmpK J step ds _ _ a3
def kDc (vs : List Nat) (tg : D → En → Option En) (mk mv : M D) (Q : D → En → Prop) : List D → En → Prop := fun ds e =>
  Wp (cmpK tg mk mv vs ds []) (wipeE e vs) fun ps e1 => Q (.dict ps) (restE e e1 vs)
@[simp] theorem wp_dc (vs : List Nat) (mi : M (List D)) (tg : D → En → Option En) (mk mv : M D) (e : En) (Q : D → En → Prop) : Wp (dcM vs mi tg mk mv) e Q = Wp mi e (kDc vs tg mk mv Q) := by
  unfold dcM
  rw [wp_bnd]
  congr 1; funext ds e1
  show Owp (match cmpK tg mk mv vs ds [] (wipeE e1 vs) with
    | .ok ps e2 => .ok (.dict ps) (restE e1 e2 vs)
    | _ => .no) Q = Owp (cmpK tg mk mv vs ds [] (wipeE e1 vs)) _
  cases cmpK tg mk mv vs ds [] (wipeE e1 vs) <;> with_unfolding_all rfl
theorem kDc_of {vs : List Nat} {tg : D → En → Option En} {mk mv : M D} {Q : D → En → Prop} {ds : List D} {e : En} (J : List D → List (D × D) → En → Prop) (h0 : J ds [] (wipeE e vs))
    (step : ∀ d rest acc e, J (d :: rest) acc e → onS (tg d e) fun e1 => Wp mk e1 (kDk mv vs acc (J rest)))
    (fin : ∀ acc e', J [] acc e' → Q (.dict acc) (restE e e' vs)) : kDc vs tg mk mv Q ds e :=
  Wp.mono (wp_cmpK J step ds [] _ h0) fun ps e1 h => fin ps e1 h
/-! dicts with None -/
@[simp] theorem ndL_n (ps : List (D × D)) : ndL (some (.nd ps)) = some ps := rfl
@[simp] theorem ndL_0 : ndL (some (.op (.dict []))) = some [] := rfl
@[simp] theorem keyN_n : keyN .none = some none := rfl
@[simp] theorem keyN_s (x : Str) : keyN (.str x) = some (some (.inr x)) := rfl
@[simp] theorem keyN_i (x : Int) : keyN (.int x) = some (some (.inl x)) := rfl
def kZ3 (i : Nat) (e : En) (Q : Fl → En → Prop) : List (D × D) → Prop := fun ys => Q .nx (e.set i (.nd ys))
@[simp] theorem kZ3_ap (i : Nat) (e : En) (Q : Fl → En → Prop) (ys : List (D × D)) : kZ3 i e Q ys = Q .nx (e.set i (.nd ys)) := by with_unfolding_all rfl
def kZ2 (i : Nat) (k v : D) (e : En) (Q : Fl → En → Prop) : List (D × D) → Prop := fun ks => onS (if ks.length < sizeLine then some (putD ks k v) else none) (kZ3 i e Q)
@[simp] theorem kZ2_ap (i : Nat) (k v : D) (e : En) (Q : Fl → En → Prop) (ks : List (D × D)) : kZ2 i k v e Q ks = onS (if ks.length < sizeLine then some (putD ks k v) else none) (kZ3 i e Q) := by with_unfolding_all rfl
def kZ1b (i : Nat) (k v : D) (e : En) (Q : Fl → En → Prop) : Option Key → Prop := fun _ => onS (ndL e[i]?) (kZ2 i k v e Q)
@[simp] theorem kZ1b_ap (i : Nat) (k v : D) (e : En) (Q : Fl → En → Prop) (x : Option Key) : kZ1b i k v e Q x = onS (ndL e[i]?) (kZ2 i k v e Q) := by with_unfolding_all rfl
def kZ1 (i : Nat) (v : D) (Q : Fl → En → Prop) : D → En → Prop := fun k e => onS (keyN k) (kZ1b i k v e Q)
@[simp] theorem kZ1_ap (i : Nat) (v : D) (Q : Fl → En → Prop) (k : D) (e : En) : kZ1 i v Q k e = onS (keyN k) (kZ1b i k v e Q) := by with_unfolding_all rfl
def kZ0b (i : Nat) (mk : M D) (v : D) (e : En) (Q : Fl → En → Prop) : List (D × D) → Prop := fun _ => Wp mk e (kZ1 i v Q)
@[simp] theorem kZ0b_ap (i : Nat) (mk : M D) (v : D) (e : En) (Q : Fl → En → Prop) (d : List (D × D)) : kZ0b i mk v e Q d = Wp mk e (kZ1 i v Q) := by with_unfolding_all rfl
def kZ0 (i : Nat) (mk : M D) (Q : Fl → En → Prop) : D → En → Prop := fun v e => onS (ndL e[i]?) (kZ0b i mk v e Q)
@[simp] theorem kZ0_ap (i : Nat) (mk : M D) (Q : Fl → En → Prop) (v : D) (e : En) : kZ0 i mk Q v e = onS (ndL e[i]?) (kZ0b i mk v e Q) := by with_unfolding_all rfl
@[simp] theorem wp_setN (i : Nat) (mk mv : M D) (e : En) (Q : Fl → En → Prop) : Wp (sSetN i mk mv) e Q = Wp mv e (kZ0 i mk Q) := by
  unfold sSetN
  rw [wp_bnd]
  congr 1; funext v e1
  rw [wp_bnd, kZ0_ap]
  show Owp (chkN i e1) _ = _
  unfold chkN
  have key : ∀ k e2, Owp ((fun (k : D) (e : En) => match keyN k with
      | some _ => (match ndL e[i]? with
        | some ks => if ks.length < sizeLine then .ok Fl.nx (e.set i (.nd (putD ks k v))) else .no
        | none => .no)
      | none => Out.no) k e2) Q = kZ1 i v Q k e2 := fun k e2 => by
    rw [kZ1_ap]
    dsimp only
    cases keyN k with
    | none => dsimp only; rw [onS_n, owp_no]
    | some kk =>
      dsimp only
      rw [onS_s, kZ1b_ap]
      cases ndL e2[i]? with
      | none => dsimp only; rw [onS_n, owp_no]
      | some ks =>
        dsimp only
        rw [onS_s, kZ2_ap]
        split
        · rw [onS_s, kZ3_ap, owp_ok]
        · rw [onS_n, owp_no]
  cases hn : ndL e1[i]? with
  | none => dsimp only; rw [onS_n, owp_no]
  | some ks =>
    dsimp only
    rw [owp_ok, onS_s, kZ0b_ap, wp_bnd]
    congr 1; funext k e2
    exact key k e2
def gN (s : Option Sl) (K : List (D × D) → Prop) : Prop := match s with | some (.nd ks) => K ks | _ => False
@[simp] theorem gN_n (ks : List (D × D)) (K : List (D × D) → Prop) : gN (some (.nd ks)) K = K ks := rfl
def kY2 (k : D) (e : En) (Q : D → En → Prop) : List (D × D) → Prop := fun ks => onS (getK ks k) (kE Q e)
@[simp] theorem kY2_ap (k : D) (e : En) (Q : D → En → Prop) (ks : List (D × D)) : kY2 k e Q ks = onS (getK ks k) (kE Q e) := by with_unfolding_all rfl
def kY1b (i : Nat) (k : D) (e : En) (Q : D → En → Prop) : Option Key → Prop := fun _ => gN e[i]? (kY2 k e Q)
@[simp] theorem kY1b_ap (i : Nat) (k : D) (e : En) (Q : D → En → Prop) (x : Option Key) : kY1b i k e Q x = gN e[i]? (kY2 k e Q) := by with_unfolding_all rfl
def kY1 (i : Nat) (Q : D → En → Prop) : D → En → Prop := fun k e => onS (keyN k) (kY1b i k e Q)
@[simp] theorem kY1_ap (i : Nat) (Q : D → En → Prop) (k : D) (e : En) : kY1 i Q k e = onS (keyN k) (kY1b i k e Q) := by with_unfolding_all rfl
def kY0 (i : Nat) (mk : M D) (e : En) (Q : D → En → Prop) : List (D × D) → Prop := fun _ => Wp mk e (kY1 i Q)
@[simp] theorem kY0_ap (i : Nat) (mk : M D) (e : En) (Q : D → En → Prop) (x : List (D × D)) : kY0 i mk e Q x = Wp mk e (kY1 i Q) := by with_unfolding_all rfl
@[simp] theorem wp_getNM (i : Nat) (mk : M D) (e : En) (Q : D → En → Prop) : Wp (getNM i mk) e Q = onS (ndL e[i]?) (kY0 i mk e Q) := by
  unfold getNM
  rw [wp_bnd]
  show Owp (chkN i e) _ = _
  unfold chkN
  have key : ∀ k e2, Owp ((fun (k : D) (e : En) => match keyN k with
      | some _ => (match e[i]? with
        | some (.nd ks) => (match getK ks k with | some d => .ok d e | none => .no)
        | _ => .no)
      | none => Out.no) k e2) Q = kY1 i Q k e2 := fun k e2 => by
    rw [kY1_ap]
    dsimp only
    cases keyN k with
    | none => dsimp only; rw [onS_n, owp_no]
    | some kk =>
      dsimp only
      rw [onS_s, kY1b_ap]
      generalize e2[i]? = t
      cases t with
      | none => with_unfolding_all rfl
      | some s =>
        cases s with
        | nd ks =>
          rw [gN_n, kY2_ap]
          dsimp only
          cases getK ks k with
          | none => dsimp only; rw [onS_n, owp_no]
          | some d => dsimp only; rw [onS_s, kE_ap, owp_ok]
        | _ => with_unfolding_all rfl
  cases hn : ndL e[i]? with
  | none => dsimp only; rw [onS_n, owp_no]
  | some ks =>
    dsimp only
    rw [owp_ok, onS_s, kY0_ap, wp_bnd]
    congr 1; funext k e2
    exact key k e2
end ZZ

local macro_rules
  | `(tactic| simp! [$xs,*] $[$loc]?) => `(tactic| simp -implicitDefEqProofs only [ZZ.owp_ok, ZZ.fwp_ok, ZZ.onS_s, ZZ.onS_n, ZZ.gR_f, ZZ.gQ_f, ZZ.gQ_o, ZZ.gL_f, ZZ.gL_o, ZZ.gO_o, ZZ.opL_op, ZZ.wp_ret, ZZ.kE_ap, ZZ.kSet_ap, ZZ.ifM_t, ZZ.ifM_f, ZZ.wp_vr, ZZ.wp_vq, ZZ.wp_vl, ZZ.wp_vo, ZZ.kBin2_ap, ZZ.kBin1_ap, ZZ.wp_bin, ZZ.kUna_ap, ZZ.wp_una, ZZ.kBL2_ap, ZZ.kBL1_ap, ZZ.kBL0_ap, ZZ.wp_binL, ZZ.wp_seq0, ZZ.kS2_ap, ZZ.kS1_ap, ZZ.wp_seq1, ZZ.kTup_ap, ZZ.wp_tup, ZZ.kLst_ap, ZZ.wp_lst, ZZ.wp_seqP0, ZZ.kP3_ap, ZZ.kP2_ap, ZZ.kP1_ap, ZZ.wp_seqP1, ZZ.wp_noX, ZZ.kDsp_ap, ZZ.wp_dsp, ZZ.kBool_ap, ZZ.wp_boolOf, ZZ.kN_ap, ZZ.kNN_ap, ZZ.wp_isN, ZZ.wp_isNN, ZZ.kC4_ap, ZZ.kC3_ap, ZZ.wp_bl, ZZ.kC2_ap, ZZ.kC1_ap, ZZ.wp_chn, ZZ.kTru_ap, ZZ.wp_truM, ZZ.kNot_ap, ZZ.wp_notM, ZZ.kIf_ap, ZZ.wp_andM, ZZ.wp_orM, ZZ.wp_ite, ZZ.wp_if, ZZ.kAndV2_ap, ZZ.kAndV_ap, ZZ.wp_andV, ZZ.kOrV2_ap, ZZ.kOrV_ap, ZZ.wp_orV, ZZ.kNotV2_ap, ZZ.kNotV_ap, ZZ.wp_notV, ZZ.wp_part0, ZZ.kPart_ap, ZZ.wp_part1, ZZ.kSl2_ap, ZZ.kSl1_ap, ZZ.kSl0_ap, ZZ.wp_sl, ZZ.kSL3_ap, ZZ.kSL2_ap, ZZ.kSL1_ap, ZZ.kSL0_ap, ZZ.wp_slL, ZZ.wp_evA0, ZZ.kA1_ap, ZZ.wp_evAv, ZZ.kA2_ap, ZZ.wp_evAio, ZZ.kCall4_ap, ZZ.kCall3_ap, ZZ.kCall2_ap, ZZ.kCall1_ap, ZZ.wp_call, ZZ.kK2_ap, ZZ.kK1_ap, ZZ.wp_callK, ZZ.wp_nx, ZZ.wp_bk, ZZ.wp_ct, ZZ.wp_no, ZZ.kSeq_nx, ZZ.kSeq_rt, ZZ.kSeq_ro, ZZ.kSeq_bk, ZZ.kSeq_ct, ZZ.wp_seq, ZZ.kNx_ap, ZZ.kExp_ap, ZZ.kRt_ap, ZZ.kRo_ap, ZZ.wp_expr, ZZ.wp_rt, ZZ.wp_rtN, ZZ.wp_ro, ZZ.kAsg_ap, ZZ.wp_asg, ZZ.wp_asgO, ZZ.kI3_ap, ZZ.kI2_ap, ZZ.kI1_ap, ZZ.kI0b_ap, ZZ.kI0_ap, ZZ.wp_setIx, ZZ.kM2_ap, ZZ.kM1_ap, ZZ.kM0_ap, ZZ.wp_mt, ZZ.kIt_ap, ZZ.kIts_ap, ZZ.wp_walkA, ZZ.wp_range1, ZZ.wp_range2, ZZ.wp_range3, ZZ.wp_zipM, ZZ.wp_enumM, ZZ.kFor_ap, ZZ.wp_for, ZZ.kTurn_nx, ZZ.kTurn_ct, ZZ.kTurn_bk, ZZ.kTurn_rt, ZZ.kTurn_ro, ZZ.kElt_ap, ZZ.kCond_t, ZZ.kCond_f, ZZ.wp_lc, ZZ.endF_rt, ZZ.endF_nx, ZZ.endO_ro, ZZ.kBody_ap, ZZ.addD_i, ZZ.addD_s, ZZ.addD_t, ZZ.addD_l, ZZ.subD_i, ZZ.mulD_i, ZZ.modD_i, ZZ.ltD_i, ZZ.ltD_s, ZZ.leD_i, ZZ.gtD_i, ZZ.geD_i, ZZ.negD_i, ZZ.isBD_b, ZZ.isnBD_b, ZZ.truD_b, ZZ.truD_i, ZZ.truD_n, ZZ.truD_l, ZZ.truD_t, ZZ.lenD_l, ZZ.lenD_t, ZZ.lenD_s, ZZ.intD_i, ZZ.intD_b, ZZ.absD_i, ZZ.listD_l, ZZ.listD_t, ZZ.tupD_l, ZZ.tupD_t, ZZ.max2D_i, ZZ.min2D_i, ZZ.isiD_d, ZZ.revD_l, ZZ.slD_l, ZZ.slD_t, ZZ.itemsA_l, ZZ.itemsA_t, ZZ.itemsA_s, ZZ.ixD_l, ZZ.ixD_t, ZZ.zpD_l, ZZ.zpD_t, ZZ.setT_t, ZZ.setTr_t, ZZ.setNs_0, ZZ.setNs_1, ZZ.setN_z, ZZ.setN_s, ZZ.setO_z, ZZ.setO_s, ZZ.atI_z, ZZ.atI_1, ZZ.atI_2, ZZ.atI_3, ZZ.atI_4, ZZ.setIx_0, ZZ.setIx_1, ZZ.setIx_2, ZZ.sumD_map, ZZ.rg1_i, ZZ.rg2_i, ZZ.eqD_i, ZZ.neD_i, ZZ.isi_int_n, ZZ.isi_int_b, ZZ.isi_int_i, ZZ.isi_int_s, ZZ.isi_int_l, ZZ.isi_int_t, ZZ.isi_int_d, ZZ.isi_bool_n, ZZ.isi_bool_b, ZZ.isi_bool_i, ZZ.isi_bool_s, ZZ.isi_bool_l, ZZ.isi_bool_t, ZZ.isi_bool_d, ZZ.isi_str_n, ZZ.isi_str_b, ZZ.isi_str_i, ZZ.isi_str_s, ZZ.isi_str_l, ZZ.isi_str_t, ZZ.isi_str_d, ZZ.isi_list_n, ZZ.isi_list_b, ZZ.isi_list_i, ZZ.isi_list_s, ZZ.isi_list_l, ZZ.isi_list_t, ZZ.isi_list_d, ZZ.isi_tuple_n, ZZ.isi_tuple_b, ZZ.isi_tuple_i, ZZ.isi_tuple_s, ZZ.isi_tuple_l, ZZ.isi_tuple_t, ZZ.isi_tuple_d, ZZ.isi_dict_n, ZZ.isi_dict_b, ZZ.isi_dict_i, ZZ.isi_dict_s, ZZ.isi_dict_l, ZZ.isi_dict_t, ZZ.isi_dict_d, ZZ.notD_b, ZZ.isNone_n, ZZ.isNone_s, ZZ.isNone_i, ZZ.isNone_t, ZZ.isNone_l, ZZ.kPure_ap, ZZ.pickD_1, ZZ.pickD_2, ZZ.pickD_3, ZZ.pickD_4, ZZ.appD_l, ZZ.extD_l, ZZ.wp_zipA, ZZ.wp_enumB, ZZ.zpA_ll, ZZ.zpA_lt, ZZ.zpA_tl, ZZ.zpA_tt, ZZ.zpA_3l, ZZ.enDB_l, ZZ.enDB_t, ZZ.seqT_t, ZZ.consT_c, ZZ.nilT_0, ZZ.kN3_ap, ZZ.kN2_ap, ZZ.kN1_ap, ZZ.wp_callN, ZZ.kCG_ap, ZZ.wp_chnG, ZZ.wp_chG1, ZZ.kCG3_ap, ZZ.kCG2_ap, ZZ.wp_chG2, ZZ.kWhl_t, ZZ.kWhl_f, ZZ.kPc_ap, ZZ.kPv_ap, ZZ.wp_evP0, ZZ.wp_evPv, ZZ.wp_evPo, ZZ.kPut_ap, ZZ.kPutR_ap, ZZ.wp_sPar, ZZ.wp_sParN, ZZ.opP_0, ZZ.opP_v, ZZ.opP_o, ZZ.putP_0, ZZ.putP_t, ZZ.putP_f, ZZ.kSq_ap, ZZ.wp_seqOp, ZZ.wp_range3p, ZZ.sortD_tints, ZZ.sortD_lints, ZZ.inRg_i, ZZ.isi2D_d, ZZ.sumXD_l, ZZ.sumXD_t, ZZ.revTD_t, ZZ.pickD_0, ZZ.kEO_ap, ZZ.kLcO_ap, ZZ.wp_lcO, ZZ.extT_t, ZZ.listKD_d, ZZ.keyD_s, ZZ.keyD_i, ZZ.opK_op, ZZ.kD3_ap, ZZ.kD2_ap, ZZ.kD1b_ap, ZZ.kD1_ap, ZZ.kD0b_ap, ZZ.kD0_ap, ZZ.wp_setK, ZZ.kCS_ap, ZZ.wp_callS, ZZ.itemsK_d, ZZ.wp_walkK, ZZ.kDv_ap, ZZ.kDk_ap, ZZ.wp_dc, ZZ.ndL_n, ZZ.ndL_0, ZZ.keyN_n, ZZ.keyN_s, ZZ.keyN_i, ZZ.kZ3_ap, ZZ.kZ2_ap, ZZ.kZ1b_ap, ZZ.kZ1_ap, ZZ.kZ0b_ap, ZZ.kZ0_ap, ZZ.wp_setN, ZZ.gN_n, ZZ.kY2_ap, ZZ.kY1b_ap, ZZ.kY1_ap, ZZ.kY0_ap, ZZ.wp_getNM, List.getElem?_cons_zero, List.getElem?_cons_succ, List.set_cons_zero, List.set_cons_succ, ZZ.initE, Option.map_some, List.replicate, ZZ.posT, ZZ.getO, ZZ.fillA, ZZ.putA, Bool.not_true, Bool.not_false, if_true, if_false, Bool.false_eq_true, Option.bind_some, ZZ.wipeE, ZZ.restE, reduceIte, List.length_cons, List.length_nil, ZZ.fwp_mk, ZZ.fwp_mko, Nat.reduceAdd, Nat.reduceSub, List.append_nil, List.nil_append, List.cons_append, List.reverse_cons, List.reverse_nil, Int.reduceLT, Int.reduceLE, Int.reduceAdd, Int.reduceMul, Int.reduceNeg, decide_true, decide_false, decide_eq_true_eq, Int.reduceEq, Option.map_none, and_self, and_true, true_and, Bool.true_and, Bool.false_and, Bool.or_true, Bool.or_false, List.isEmpty_nil, List.isEmpty_cons, List.getElem?_nil, Option.isSome_some, Int.cast_ofNat_Int, Bool.not_eq_true, Bool.and_true, Bool.and_self, Bool.true_or, Bool.false_or, Bool.and_false, Int.reduceSub, Int.natCast_zero, Int.reduceGT, Int.reduceGE, ne_eq, not_true_eq_false, not_false_eq_true, eq_self, Nat.reduceEqDiff, $xs,*] $[$loc]?)

namespace Vk21
open PySem PySem.Spec PyProof.Rows L2 ZZ
def potD (a b c : Int) : D := .list [.int a, .int b, .int c]
def PotOk (n : Int) (p : D) : Prop := ∃ a b c, p = potD a b c ∧ 0 ≤ a ∧ 0 ≤ b ∧ b < 2305843009213693921 ∧ 0 ≤ c ∧ c ≤ n
theorem take_ok {n u : Int} {p : D} (hp : PotOk n p) (hn : n ≤ 1152921504606846976) (h0 : 0 < u) (h1 : u < 1073741824) :
    Fwp (F__law_take [p, .int u]) fun d outs => ∃ k p', d = .int k ∧ outs = [p'] ∧ 0 ≤ k ∧ k < u ∧ PotOk (n + 1) p' := by
  obtain ⟨a, b, c, rfl, ha, hb, hb2, hc, hcn⟩ := hp
  unfold F__law_take
  rw [fwp_mk]
  simp! [B__law_take, potD]
  refine ifM_d (fun h => ?_) (fun h => ?_)
  · simp! [h0, divD_i ⟨h0, h1⟩]
    exact ⟨a % u, potD (a / u) b c, rfl, rfl, Int.emod_nonneg _ (by omega), Int.emod_lt_of_pos _ h0, a / u, b, c, rfl, Int.ediv_nonneg ha (by omega), hb, hb2, hc, by omega⟩
  · simp! [h0]
    obtain ⟨pr, hpr, hm⟩ := atI_some (xs := [PyData.int 2147483647, PyData.int 2147483629, PyData.int 2147483587, PyData.int 2147483579, PyData.int 2147483563]) (i := (c + 1) % 5) (by omega) (by simp only [List.length_cons, List.length_nil]; omega)
    obtain ⟨q, rfl, hq0, hq1⟩ : ∃ q : Int, pr = .int q ∧ 0 < q ∧ q < 4294967296 := by
      simp only [List.mem_cons, List.not_mem_nil, or_false] at hm
      rcases hm with rfl | rfl | rfl | rfl | rfl <;> exact ⟨_, rfl, by decide, by decide⟩
    have hx : 97199 * (c + 1) * (c + 1) ≤ 97199 * 1152921504606846977 * 1152921504606846977 := by
      have : 97199 * (c + 1) ≤ 97199 * 1152921504606846977 := by omega
      exact Int.mul_le_mul this (by omega) (by omega) (by omega)
    have hx0 : 0 ≤ 97199 * (c + 1) * (c + 1) := Int.mul_nonneg (by omega) (by omega)
    have hpw : powOk (b + 97199 * (c + 1) * (c + 1) + 745) 3 = true := powOk_b (n := 200) (by omega) (by omega) (by omega) (by omega)
    simp! [hpr, mulOk_l (i := 97199) (j := c + 1) (by omega), mulOk_r (i := 97199 * (c + 1)) (j := c + 1) (by omega), powD_i hpw, hq0]
    generalize hy : (b + 97199 * (c + 1) * (c + 1) + 745) ^ (3 : Int).toNat % q = y
    have hy0 : 0 ≤ y := by rw [← hy]; exact Int.emod_nonneg _ (by omega)
    have hy1 : y < q := by rw [← hy]; exact Int.emod_lt_of_pos _ hq0
    clear hy
    simp! [mulOk_l (i := 833) (j := c + 1) (by omega), mulOk_l (i := y) (j := y % 11157 + 833 * (c + 1)) (by omega), divD_i (j := 1075) (by decide), h0]
    exact ⟨_, potD a b (c + 1), rfl, rfl, Int.emod_nonneg _ (by omega), Int.emod_lt_of_pos _ h0, a, b, c + 1, rfl, ha, hb, hb2, by omega, by omega⟩
theorem of_ok {n : Int} {p : D} {ds : List D} (hp : PotOk n p) (hn : n ≤ 1152921504606846976) (h0 : 0 < ds.length) (h1 : ds.length < 1000000) :
    Fwp (F__law_of [p, .list ds]) fun d outs => ∃ p', d ∈ ds ∧ outs = [p'] ∧ PotOk (n + 1) p' := by
  unfold F__law_of
  rw [fwp_mk]
  simp! [B__law_of]
  refine (take_ok (u := ds.length) hp hn (by omega) (by omega)).mono ?_
  rintro _ _ ⟨k, p', rfl, rfl, hk0, hk1, hp'⟩
  obtain ⟨v, hv, hm⟩ := atI_some (xs := ds) hk0 hk1
  simp! [hv]
  exact ⟨p', hm, rfl, hp'⟩
theorem cells_ok (ns : List Int) (h : ns.length ≤ 63) : ∃ k : Int, (k = 1 ∨ k = 2) ∧ Fwp (F__law_cells [.list (ns.map PyData.int), .int 2]) fun d outs => d = .list (rng 0 k) ∧ outs = [] := by
  by_cases h2 : ns.length < 2
  · refine ⟨1, .inl rfl, ?_⟩
    unfold F__law_cells
    rw [fwp_mk]
    have e1 : (if ((ns.map PyData.int).length : Int) < 2 then ((ns.map PyData.int).length : Int) else 2) = ns.length := by rw [List.length_map, if_pos (by omega)]
    have e2 : (if (ns.length : Int) > 1 then (ns.length : Int) else 1) = 1 := by rw [if_neg (by omega)]
    simp! [B__law_cells, e1, e2, lrgD_s PyData.list (a := 0) (b := 1) (by omega)]
  · refine ⟨2, .inr rfl, ?_⟩
    unfold F__law_cells
    rw [fwp_mk]
    have e1 : (if ((ns.map PyData.int).length : Int) < 2 then ((ns.map PyData.int).length : Int) else 2) = 2 := by rw [List.length_map, if_neg (by omega)]
    simp! [B__law_cells, e1, lrgD_s PyData.list (a := 0) (b := 2) (by omega)]
theorem pot_ok (ns : List Int) (place : Int) (h0 : 0 ≤ place) (h1 : place ≤ 1) : Fwp (F__law_pot [.list (ns.map PyData.int), .int place]) fun d outs => PotOk 0 d ∧ outs = [] := by
  unfold F__law_pot
  rw [fwp_mko]
  simp! [B__law_pot]
  have rest : ∀ cell : Int, kAsg (setN 2)
      (kSeq
        (sSeq (sAsg (setN 3) (ZZ.bin mulD (ZZ.bin modD (una ZZ.intD (una absD (vr 2))) (ZZ.bin powD (ZZ.bin powD (ZZ.ret (.int 10)) (ZZ.ret (.int 60))) (ZZ.ret (.int 5)))) (una ZZ.intD (ZZ.bin geD (una absD (vr 2)) (ZZ.bin powD (ZZ.ret (.int 10)) (ZZ.ret (.int 18)))))))
          (sSeq (sAsg (setN 4) (ZZ.bin modD (una ZZ.intD (vr 2)) (ZZ.ret (.int 2305843009213693951))))
            (sRetO (lstM [vr 3, ZZ.bin modD (una ZZ.intD (ZZ.bin addD (ZZ.bin addD (ZZ.bin mulD (vr 4) (ZZ.ret (.int 73383))) (ZZ.bin mulD (ZZ.bin mulD (ZZ.ret (.int 8951)) (vr 1)) (vr 1))) (ZZ.ret (.int 995)))) (ZZ.ret (.int 2305843009213693921)), ZZ.ret (.int 0)]))))
        (endO [false, false] fun d outs => PotOk 0 d ∧ outs = [])) (.int cell) [Sl.fz (.list (ns.map PyData.int)), Sl.fz (.int place), Sl.un, Sl.un, Sl.un] := fun cell => by
    have p1 : powOk 10 60 = true := by decide +kernel
    have p2 : powOk (10 ^ (60 : Int).toNat) 5 = true := by decide +kernel
    have p3 : powOk 10 18 = true := by decide +kernel
    have p4 : (0 : Int) < (10 ^ (60 : Int).toNat) ^ (5 : Int).toNat := by decide +kernel
    simp! [powD_i p1, powD_i p2, powD_i p3, p4]
    generalize hA : (if cell < 0 then -cell else cell) = A
    have hA0 : 0 ≤ A := by rw [← hA]; split <;> omega
    generalize hB : (if (10 : Int) ^ (18 : Int).toNat ≤ A then (1 : Int) else 0) = B
    have hB0 : 0 ≤ B ∧ B ≤ 1 := by rw [← hB]; split <;> omega
    have hM : 0 ≤ A % (10 ^ (60 : Int).toNat) ^ (5 : Int).toNat := Int.emod_nonneg _ (by omega)
    generalize A % (10 ^ (60 : Int).toNat) ^ (5 : Int).toNat = C at *
    have m1 : mulOk C B = true := mulOk_r (by omega)
    have m2 : mulOk (cell % 2305843009213693951) 73383 = true := mulOk_r (by omega)
    have m3 : mulOk 8951 place = true := mulOk_l (by omega)
    have m4 : mulOk (8951 * place) place = true := mulOk_r (by omega)
    simp! [m1, m2, m3, m4]
    exact ⟨C * B, _, 0, rfl, Int.mul_nonneg hM hB0.1, Int.emod_nonneg _ (by decide), Int.emod_lt_of_pos _ (by decide), by omega, by omega⟩
  refine ifM_d (fun h => ?_) (fun h => ?_)
  · obtain ⟨z, hz⟩ := atI_map (is := ns) h0 (by rw [List.length_map] at h; exact h)
    simp only [wp_bin, wp_vr, List.getElem?_cons_zero, List.getElem?_cons_succ, gR_f, kE_ap, kBin1_ap, kBin2_ap, ixD_l, hz, onS_s]
    exact rest z
  · obtain ⟨js, hjs⟩ := cutD_map ns none (some 1)
    simp only [wp_bin, wp_una, wp_sl, wp_part0, wp_part1, wp_ret, wp_vr, List.getElem?_cons_zero, List.getElem?_cons_succ, gR_f, kE_ap, kBin1_ap, kBin2_ap, kUna_ap, kSl0_ap, kSl1_ap, kSl2_ap, kPart_ap, slD_l, hjs, onS_s, sumD_map, modD_i, Int.reduceLT, if_true, mulD_i, mulOk_l (i := 2445) (j := place) (by omega), addD_i]
    exact rest _
def WordOk (d : D) : Prop := d = .str "free" ∨ d = .str "barred" ∨ d = .str "load" ∨ ∃ a b : Int, d = .tuple [.int a, .int b] ∧ 1 ≤ a ∧ a ≤ 9 ∧ 1 ≤ b ∧ b ≤ 6
def DaysOk (d : D) : Prop := d = .str "any" ∨ d = .str "plain" ∨ d = .str "feast" ∨ d = .str "eve"
def KindsOk (d : D) : Prop := d = .tuple [] ∨ d = .tuple [.str "van"] ∨ d = .tuple [.str "bus", .str "van"] ∨ d = .tuple [.str "bus"]
def HoursOk (h : Int) : Prop := h = 1 ∨ h = 2 ∨ h = 3 ∨ h = 4 ∨ h = 24
def RowOk (h : Int) (r : D) : Prop := ∃ (b e : Int) (dd kk ww : D), r = .tuple [.int b, .int e, dd, kk, ww] ∧ 0 ≤ b ∧ b < 7 * h ∧ 0 ≤ e ∧ e < 7 * h ∧ (e - b) % (7 * h) ≤ h ∧ DaysOk dd ∧ KindsOk kk ∧ WordOk ww
def SignOk (h : Int) (s : D) : Prop := ∃ rows : List D, s = .tuple [.int h, .tuple rows] ∧ rows.length ≤ 12 ∧ ∀ r ∈ rows, RowOk h r
def FeastsOk (f : D) : Prop := ∃ fs : List Int, f = .tuple (fs.map PyData.int) ∧ fs.length ≤ 20 ∧ fs.Pairwise (· < ·) ∧ ∀ x ∈ fs, 0 ≤ x ∧ x ≤ 10000
theorem PotOk.mono {n m : Int} {p : D} (h : PotOk n p) (k : n ≤ m) : PotOk m p := by
  obtain ⟨a, b, c, e, h1, h2, h3, h4, h5⟩ := h
  exact ⟨a, b, c, e, h1, h2, h3, h4, by omega⟩
theorem answer_ok {n : Int} {p : D} (hp : PotOk n p) (hn : n ≤ 1152921504606846000) : Fwp (F__law_answer [p]) fun d outs => ∃ p', WordOk d ∧ outs = [p'] ∧ PotOk (n + 3) p' := by
  unfold F__law_answer
  rw [fwp_mk]
  simp! [B__law_answer]
  refine (take_ok (u := 9) hp (by omega) (by omega) (by omega)).mono ?_
  rintro _ _ ⟨a, p1, rfl, rfl, ha0, ha1, hp1⟩
  simp! []
  refine (take_ok (u := 6) hp1 (by omega) (by omega) (by omega)).mono ?_
  rintro _ _ ⟨b, p2, rfl, rfl, hb0, hb1, hp2⟩
  simp! []
  refine (of_ok hp2 (by omega) (by simp) (by simp)).mono ?_
  rintro w _ ⟨p3, hm, rfl, hp3⟩
  simp! []
  refine ⟨p3, ?_, rfl, hp3.mono (by omega)⟩
  simp only [List.mem_cons, List.not_mem_nil, or_false] at hm
  rcases hm with rfl | rfl | rfl | rfl | rfl | rfl
  · exact .inl rfl
  · exact .inr (.inl rfl)
  · exact .inr (.inl rfl)
  · exact .inr (.inr (.inl rfl))
  · exact .inr (.inr (.inr ⟨5, 3, rfl, by omega, by omega, by omega, by omega⟩))
  · exact .inr (.inr (.inr ⟨1 + a, 1 + b, rfl, by omega, by omega, by omega, by omega⟩))
theorem row_ok {n h : Int} {p : D} (hp : PotOk n p) (hn : n ≤ 1000000000000000000) (hh : HoursOk h) : Fwp (F__law_row [p, .int h]) fun d outs => ∃ p', RowOk h d ∧ outs = [p'] ∧ PotOk (n + 8) p' := by
  have h1 : 1 ≤ h ∧ h ≤ 24 := by rcases hh with rfl | rfl | rfl | rfl | rfl <;> omega
  unfold F__law_row
  rw [fwp_mk]
  simp! [B__law_row, mulOk_l (i := 7) (j := h) (by omega)]
  refine (take_ok (u := 7 * h) hp (by omega) (by omega) (by omega)).mono ?_
  rintro _ _ ⟨b, p1, rfl, rfl, hb0, hb1, hp1⟩
  simp! []
  refine (take_ok (u := h) hp1 (by omega) (by omega) (by omega)).mono ?_
  rintro _ _ ⟨l, p2, rfl, rfl, hl0, hl1, hp2⟩
  simp! []
  refine (of_ok hp2 (by omega) (by simp) (by simp)).mono ?_
  rintro w _ ⟨p3, hm, rfl, hp3⟩
  obtain ⟨len, rfl, hlen⟩ : ∃ len : Int, w = .int len ∧ 0 ≤ len ∧ len ≤ h := by
    simp only [List.mem_cons, List.not_mem_nil, or_false] at hm
    rcases hm with rfl | rfl | rfl | rfl
    · exact ⟨0, rfl, by omega⟩
    · exact ⟨1, rfl, by omega⟩
    · exact ⟨h, rfl, by omega⟩
    · exact ⟨1 + l, rfl, by omega⟩
  simp! []
  refine (of_ok hp3 (by omega) (by simp) (by simp)).mono ?_
  rintro dd _ ⟨p4, hd, rfl, hp4⟩
  simp! []
  refine (of_ok hp4 (by omega) (by simp) (by simp)).mono ?_
  rintro kk _ ⟨p5, hk, rfl, hp5⟩
  have h7 : 0 < 7 * h := by omega
  simp! [mulOk_l (i := 7) (j := h) (by omega), h7]
  refine (answer_ok hp5 (by omega)).mono ?_
  rintro ww _ ⟨p6, hw, rfl, hp6⟩
  simp! []
  refine ⟨p6, ⟨b, (b + len) % (7 * h), dd, kk, ww, rfl, hb0, hb1, Int.emod_nonneg _ (by omega), Int.emod_lt_of_pos _ h7, ?_, ?_, ?_, hw⟩, rfl, hp6.mono (by omega)⟩
  · rw [Int.emod_sub_emod, show b + len - b = len by omega]
    rw [Int.emod_eq_of_lt hlen.1 (by omega)]; exact hlen.2
  · simp only [List.mem_cons, List.not_mem_nil, or_false] at hd
    rcases hd with rfl | rfl | rfl | rfl | rfl
    · exact .inl rfl
    · exact .inl rfl
    · exact .inr (.inl rfl)
    · exact .inr (.inr (.inl rfl))
    · exact .inr (.inr (.inr rfl))
  · simp only [List.mem_cons, List.not_mem_nil, or_false] at hk
    rcases hk with rfl | rfl | rfl | rfl
    · exact .inl rfl
    · exact .inl rfl
    · exact .inr (.inl rfl)
    · exact .inr (.inr (.inl rfl))
theorem sign_ok {n h most : Int} {p : D} (m0 : 0 ≤ most) (m1 : most ≤ 6) (hp : PotOk n p) (hn : n ≤ 100000000000000000) (hh : HoursOk h) : Fwp (F__law_sign [p, .int h, .int most]) fun d outs => ∃ (p' : D) (rows : List D), d = .tuple [.int h, .tuple rows] ∧ (rows.length : Int) ≤ most ∧ (∀ r ∈ rows, RowOk h r) ∧ outs = [p'] ∧ PotOk (n + 1000) p' := by
  unfold F__law_sign
  rw [fwp_mk]
  simp! [B__law_sign]
  refine (take_ok (u := most + 1) hp (by omega) (by omega) (by omega)).mono ?_
  rintro _ _ ⟨m, p1, rfl, rfl, hm0, hm1, hp1⟩
  simp! [rOk_s (a := m) (by omega)]
  refine kLc_of (fun rest acc e => ∃ p', e = [.op p', .fz (.int h), .fz (.int most), .un] ∧ PotOk (n + 1 + 8 * acc.length) p' ∧ acc.length + rest.length = m.toNat ∧ ∀ r ∈ acc, RowOk h r) ?_ ?_ ?_
  · simp! []
    exact ⟨p1, rfl, by simpa using hp1, by rw [rng_len]; simp, fun r hr => by simp at hr⟩
  · rintro d rest acc _ ⟨p', rfl, hp', hl, hr⟩
    rw [List.length_cons] at hl
    simp! []
    refine (row_ok hp' (by omega) hh).mono ?_
    rintro r _ ⟨p2, hrow, rfl, hp2⟩
    simp! [kCond_t, kElt_ap]
    refine ⟨p2, rfl, hp2.mono (by rw [List.length_append, List.length_cons, List.length_nil]; omega), by rw [List.length_append, List.length_cons, List.length_nil]; omega, fun x hx => ?_⟩
    rcases List.mem_append.mp hx with hx | hx
    · exact hr x hx
    · simp only [List.mem_cons, List.not_mem_nil, or_false] at hx
      rw [hx]; exact hrow
  · rintro acc _ ⟨p', rfl, hp', hl, hr⟩
    rw [List.length_nil] at hl
    refine ⟨by rw [sizeLine_eq]; omega, ?_⟩
    simp! []
    exact ⟨p', acc, rfl, by omega, hr, rfl, hp'.mono (by omega)⟩
theorem feasts_ok {n m : Int} {p : D} (m0 : 0 ≤ m) (m1 : m ≤ 12) (hp : PotOk n p) (hn : n ≤ 100000000000000000) : Fwp (F__law_feasts [p, .int m]) fun d outs => ∃ (p' : D) (fs : List Int), d = .tuple (fs.map PyData.int) ∧ (fs.length : Int) ≤ m ∧ fs.Pairwise (· < ·) ∧ (∀ x ∈ fs, 0 ≤ x ∧ x < m) ∧ outs = [p'] ∧ PotOk (n + 12) p' := by
  unfold F__law_feasts
  rw [fwp_mk]
  simp! [B__law_feasts, rOk_s (a := m) (by omega)]
  refine kLc_of (fun rest acc e => ∃ (p' : D) (k : Nat) (fs : List Int), e = [.op p', .fz (.int m), .un] ∧ (k : Int) ≤ m ∧ rest = (rng 0 m).drop k ∧ acc = fs.map PyData.int ∧ fs.length ≤ k ∧ fs.Pairwise (· < ·) ∧ (∀ x ∈ fs, 0 ≤ x ∧ x < k) ∧ PotOk (n + k) p') ?_ ?_ ?_
  · simp! []
    exact ⟨p, 0, [], rfl, by omega, rfl, rfl, by simp, .nil, by simp, by simpa using hp⟩
  · rintro d rest acc _ ⟨p', k, fs, rfl, hk, hrest, rfl, hlen, hpw, hall, hp'⟩
    obtain ⟨rfl, rfl, hk2⟩ := rng_drop_cons hrest.symm
    simp! []
    refine (take_ok (u := 4) hp' (by omega) (by omega) (by omega)).mono ?_
    rintro _ _ ⟨t, p2, rfl, rfl, ht0, ht1, hp2⟩
    simp! []
    by_cases h0 : t = 0
    · rw [decide_eq_true h0]
      simp! [kCond_t, kElt_ap]
      refine ⟨p2, k + 1, fs ++ [(0 : Int) + k], rfl, by omega, rfl, by rw [List.map_append]; rfl, by rw [List.length_append, List.length_cons, List.length_nil]; omega, ?_, fun x hx => ?_, hp2.mono (by omega)⟩
      · rw [List.pairwise_append]
        refine ⟨hpw, List.pairwise_singleton _ _, fun x hx y hy => ?_⟩
        simp only [List.mem_cons, List.not_mem_nil, or_false] at hy
        have := hall x hx
        omega
      · rcases List.mem_append.mp hx with hx | hx
        · have := hall x hx; omega
        · simp only [List.mem_cons, List.not_mem_nil, or_false] at hx
          omega
    · rw [decide_eq_false h0]
      simp! [kCond_f]
      exact ⟨p2, k + 1, fs, rfl, by omega, rfl, rfl, by omega, hpw, fun x hx => by have := hall x hx; omega, hp2.mono (by omega)⟩
  · rintro acc _ ⟨p', k, fs, rfl, hk, hrest, rfl, hlen, hpw, hall, hp'⟩
    have := rng_drop_nil hrest.symm
    have hk18 : (k : Int) = m := by omega
    refine ⟨by rw [sizeLine_eq, List.length_map]; omega, ?_⟩
    simp! []
    exact ⟨p', fs, rfl, by omega, hpw, fun x hx => by have := hall x hx; omega, rfl, hp'.mono (by omega)⟩
end Vk21

namespace Vk21
open PySem PySem.Spec PyProof.Rows L2 ZZ
theorem is_integer_eq (d : D) : F_is_integer [d] = .ok (.bool (intB d)) [] := by cases d <;> (unfold F_is_integer; rfl)
theorem is_between_i (v lo hi : Int) : F_is_between [.int v, .int lo, .int hi] = .ok (.bool (decide (lo ≤ v) && decide (v ≤ hi))) [] := by
  refine fo_eq ?_
  unfold F_is_between
  rw [fwp_mk]
  simp! [B_is_between, is_integer_eq, intB]
  by_cases h : lo ≤ v
  · simp! [h]
  · simp! [h]
theorem is_between_n (v : D) (lo hi : Int) (h : intB v = false) : F_is_between [v, .int lo, .int hi] = .ok (.bool false) [] := by
  refine fo_eq ?_
  unfold F_is_between
  rw [fwp_mk]
  simp! [B_is_between, is_integer_eq, h]
theorem name_van : F_is_name [.str "van"] = .ok (.bool true) [] := of_isT (by decide +kernel)
theorem is_answer_ok {w : D} (h : WordOk w) : F_is_answer [w] = .ok (.bool true) [] := by
  rcases h with rfl | rfl | rfl | ⟨a, b, rfl, h1, h2, h3, h4⟩
  · exact of_isT (by decide +kernel)
  · exact of_isT (by decide +kernel)
  · exact of_isT (by decide +kernel)
  · have hb : F_is_bound [.tuple [.int a, .int b]] = .ok (.bool true) [] := by
      refine fo_eq ?_
      unfold F_is_bound
      rw [fwp_mk]
      simp! [B_is_bound, is_between_i, h1, h3, show a ≤ 10000 by omega, show b ≤ 9999 by omega]
    refine fo_eq ?_
    have hn : F_is_name [.tuple [.int a, .int b]] = .ok (.bool false) [] := by
      refine fo_eq ?_
      unfold F_is_name
      rw [fwp_mk]
      simp! [B_is_name]
    unfold F_is_answer
    rw [fwp_mk]
    simp! [B_is_answer, hn, hb]
theorem are_kinds_ok {k : D} (h : KindsOk k) : F_are_kinds [k] = .ok (.bool true) [] := by
  rcases h with rfl | rfl | rfl | rfl <;> exact of_isT (by decide +kernel)
theorem days_in {d : D} (h : DaysOk d) : (∃ z, d = .str z) ∧ ninD d (.tuple [.str "any", .str "plain", .str "feast", .str "eve"]) = some (.bool false) := by
  rcases h with rfl | rfl | rfl | rfl <;> exact ⟨⟨_, rfl⟩, of_bIs (by decide +kernel)⟩
theorem hours_b {h : Int} (hh : HoursOk h) : 1 ≤ h ∧ h ≤ 24 := by rcases hh with rfl | rfl | rfl | rfl | rfl <;> omega
theorem is_row_ok {h : Int} {r : D} (hh : HoursOk h) (hr : RowOk h r) : F_is_row [.int h, r] = .ok (.bool true) [] := by
  have hb := hours_b hh
  obtain ⟨b, e, dd, kk, ww, rfl, b0, b1, e0, e1, be, hd, hk, hw⟩ := hr
  obtain ⟨⟨z, rfl⟩, hdn⟩ := days_in hd
  refine fo_eq ?_
  unfold F_is_row
  rw [fwp_mk]
  simp! [B_is_row, mulOk_l (i := 7) (j := h) (by omega), is_between_i, b0, e0, show b ≤ 7 * h - 1 by omega, show e ≤ 7 * h - 1 by omega, show 0 < 7 * h by omega, show ¬ (h < (e - b) % (7 * h)) by omega, hdn, are_kinds_ok hk, is_answer_ok hw]
theorem is_sign_ok {h : Int} {s : D} (hh : HoursOk h) (hs : SignOk h s) : F_is_sign [s] = .ok (.bool true) [] := by
  have hb := hours_b hh
  obtain ⟨rows, rfl, hl, hr⟩ := hs
  refine fo_eq ?_
  unfold F_is_sign
  rw [fwp_mk]
  simp! [B_is_sign, is_between_i, hb.1, hb.2, show ¬ ((12 : Int) < (rows.length : Int)) by omega]
  refine kLc_map (fun _ => .bool true) (fun d hd => ?_) (by rw [sizeLine_eq]; omega) ?_
  · simp! [is_row_ok hh (hr d hd), kPure_ap]
  · simp! [allD_map (fun _ => true)]
    simp
theorem is_asc_ok {fs : List Int} (hl : fs.length ≤ 400) (hp : fs.Pairwise (· < ·)) : F_is_ascending [.tuple (fs.map PyData.int)] = .ok (.bool true) [] := by
  refine fo_eq ?_
  unfold F_is_ascending
  rw [fwp_mk]
  have hc : cutD (fs.map PyData.int) (some 1) none = (fs.map PyData.int).drop 1 := cutD_drop _ 1
  simp! [B_is_ascending, hc]
  refine kLc_map (fun _ => .bool true) (fun d hd => ?_) (Nat.le_trans (prs_len _ _) (by rw [sizeLine_eq, List.length_map]; omega)) ?_
  · obtain ⟨a, b, rfl, hab⟩ := asc_pairs hp d hd
    simp! [hab]
  · simp! [allD_map (fun _ => true)]
    simp
theorem are_feasts_ok {f : D} (hf : FeastsOk f) : F_are_feasts [f] = .ok (.bool true) [] := by
  obtain ⟨fs, rfl, hl, hp, ha⟩ := hf
  refine fo_eq ?_
  unfold F_are_feasts
  rw [fwp_mk]
  simp! [B_are_feasts, List.length_map, show ¬ ((400 : Int) < (fs.length : Int)) by omega]
  refine kLc_map (fun _ => .bool true) (fun d hd => ?_) (by rw [sizeLine_eq, List.length_map]; omega) ?_
  · obtain ⟨x, hx, rfl⟩ := List.mem_map.mp hd
    simp! [is_between_i, (ha x hx).1, (ha x hx).2]
  · have hall : ((fs.map PyData.int).all fun _ => true) = true := by simp
    simp! [allD_map (fun _ => true), hall, is_asc_ok (Nat.le_trans hl (by omega)) hp]
def TickOk (d : D) : Prop := ∃ t : Int, d = .int t ∧ 0 ≤ t ∧ t ≤ 9999
def KindOk (d : D) : Prop := d = .none ∨ d = .str "van" ∨ d = .str "bus" ∨ d = .str "taxi"
theorem chk_sign {h : Int} {s : D} (hh : HoursOk h) (hs : SignOk h s) : F_check_sign [s] = .ok .none [] := by
  refine fo_eq ?_
  unfold F_check_sign
  rw [fwp_mk]
  simp! [B_check_sign, is_sign_ok hh hs]
theorem chk_kind {k : D} (hk : KindOk k) : F_check_kind [k] = .ok .none [] := by
  have : F_is_kind [k] = .ok (.bool true) [] := by
    rcases hk with rfl | rfl | rfl | rfl <;> exact of_isT (by decide +kernel)
  refine fo_eq ?_
  unfold F_check_kind
  rw [fwp_mk]
  simp! [B_check_kind, this]
theorem chk_feasts {f : D} (hf : FeastsOk f) : F_check_feasts [f] = .ok .none [] := by
  refine fo_eq ?_
  unfold F_check_feasts
  rw [fwp_mk]
  simp! [B_check_feasts, are_feasts_ok hf]
theorem chk_tick {t : Int} (h0 : 0 ≤ t) (h1 : t ≤ 9999) : F_check_tick [.int t] = .ok .none [] := by
  have : F_is_tick [.int t] = .ok (.bool true) [] := by
    refine fo_eq ?_
    unfold F_is_tick
    rw [fwp_mk]
    simp! [B_is_tick, is_between_i, h0, h1]
  refine fo_eq ?_
  unfold F_check_tick
  rw [fwp_mk]
  simp! [B_check_tick, this]
end Vk21

namespace Vk21
open PySem PySem.Spec PyProof.Rows L2 ZZ
/-! what the rows tell -/
def hasD (ds : List D) (x : D) : Bool := ds.any fun z => PyData.eqv z x
def strI (d : D) (z : Str) : Bool := match d with | .str y => y == z | _ => false
def fitB (dd : D) (day : Int) (fs : List D) : Bool :=
  if strI dd "plain" then !hasD fs (.int day) else if strI dd "feast" then hasD fs (.int day) else strI dd "any" || hasD fs (.int (day + 1))
theorem lay_ints : ∀ fs : List Int, PyData.canLayAll0 (fs.map PyData.int) = true
  | [] => by simp [PyData.canLayAll0]
  | f :: fs => by simp only [List.map_cons, PyData.canLayAll0, PyData.canLay0, lay_ints fs, Bool.and_self]
theorem in_ints (x : Int) (fs : List Int) : inD (.int x) (.tuple (fs.map PyData.int)) = some (.bool (hasD (fs.map PyData.int) (.int x))) := by
  simp only [inD, shaped_i, lay_ints, and_self, if_true, hasD]
theorem nin_ints (x : Int) (fs : List Int) : ninD (.int x) (.tuple (fs.map PyData.int)) = some (.bool (!hasD (fs.map PyData.int) (.int x))) := by
  unfold ninD
  rw [in_ints]; rfl
theorem does_fit_eq {dd : D} (hd : DaysOk dd) (day : Int) (fs : List Int) : F_does_fit [dd, .int day, .tuple (fs.map PyData.int)] = .ok (.bool (fitB dd day (fs.map PyData.int))) [] := by
  refine fo_eq ?_
  unfold F_does_fit
  rw [fwp_mk]
  rcases hd with rfl | rfl | rfl | rfl
  · have e1 : eqD (.str "any") (.str "plain") = some (.bool false) := of_bIs (by decide +kernel)
    have e2 : eqD (.str "any") (.str "feast") = some (.bool false) := of_bIs (by decide +kernel)
    have e3 : eqD (.str "any") (.str "any") = some (.bool true) := of_bIs (by decide +kernel)
    have e4 : fitB (.str "any") day (fs.map PyData.int) = true := by
      unfold fitB
      rw [show strI (.str "any") "plain" = false by decide +kernel, show strI (.str "any") "feast" = false by decide +kernel, show strI (.str "any") "any" = true by decide +kernel]
      rfl
    simp! [B_does_fit, e1, e2, e3, e4]
  · have e1 : eqD (.str "plain") (.str "plain") = some (.bool true) := of_bIs (by decide +kernel)
    have e4 : fitB (.str "plain") day (fs.map PyData.int) = !hasD (fs.map PyData.int) (.int day) := by
      unfold fitB
      rw [show strI (.str "plain") "plain" = true by decide +kernel]
      rfl
    simp! [B_does_fit, e1, e4, nin_ints]
  · have e1 : eqD (.str "feast") (.str "plain") = some (.bool false) := of_bIs (by decide +kernel)
    have e2 : eqD (.str "feast") (.str "feast") = some (.bool true) := of_bIs (by decide +kernel)
    have e4 : fitB (.str "feast") day (fs.map PyData.int) = hasD (fs.map PyData.int) (.int day) := by
      unfold fitB
      rw [show strI (.str "feast") "plain" = false by decide +kernel, show strI (.str "feast") "feast" = true by decide +kernel]
      rfl
    simp! [B_does_fit, e1, e2, e4, in_ints]
  · have e1 : eqD (.str "eve") (.str "plain") = some (.bool false) := of_bIs (by decide +kernel)
    have e2 : eqD (.str "eve") (.str "feast") = some (.bool false) := of_bIs (by decide +kernel)
    have e3 : eqD (.str "eve") (.str "any") = some (.bool false) := of_bIs (by decide +kernel)
    have e4 : fitB (.str "eve") day (fs.map PyData.int) = hasD (fs.map PyData.int) (.int (day + 1)) := by
      unfold fitB
      rw [show strI (.str "eve") "plain" = false by decide +kernel, show strI (.str "eve") "feast" = false by decide +kernel, show strI (.str "eve") "any" = false by decide +kernel]
      rfl
    simp! [B_does_fit, e1, e2, e3, e4, in_ints]
/-- the kinds do not let it -/
def np (kk : D) : Bool := bIs true (neD kk (.tuple []))
def nq (kind kk : D) : Bool := bIs true (ninD kind kk)
theorem np_eq {kk : D} (h : KindsOk kk) : neD kk (.tuple []) = some (.bool (np kk)) := by
  rcases h with rfl | rfl | rfl | rfl
  · rw [show np (.tuple []) = false by decide +kernel]; exact of_bIs (by decide +kernel)
  · rw [show np (.tuple [.str "van"]) = true by decide +kernel]; exact of_bIs (by decide +kernel)
  · rw [show np (.tuple [.str "bus", .str "van"]) = true by decide +kernel]; exact of_bIs (by decide +kernel)
  · rw [show np (.tuple [.str "bus"]) = true by decide +kernel]; exact of_bIs (by decide +kernel)
def isBo (o : Option D) : Bool := match o with | some (.bool _) => true | _ => false
theorem of_isBo {o : Option D} (h : isBo o = true) : o = some (.bool (bIs true o)) := by
  unfold isBo at h
  split at h
  · rename_i b; cases b <;> rfl
  · cases h
theorem nq_eq {kind kk : D} (h : KindsOk kk) (h2 : KindOk kind) : ninD kind kk = some (.bool (nq kind kk)) := by
  refine of_isBo ?_
  rcases h with rfl | rfl | rfl | rfl <;> rcases h2 with rfl | rfl | rfl | rfl <;> decide +kernel
def agoI (h b e tick : Int) : Int := if b = e then 0 else (tick - b) % (7 * h)
def bearB (h b e : Int) (dd kk kind : D) (tick : Int) (fs : List D) : Bool := !(np kk && nq kind kk) && (!(decide (b ≠ e) && decide ((e - b) % (7 * h) ≤ agoI h b e tick)) && fitB dd ((tick - agoI h b e tick) / h) fs)
def rowB (h : Int) (row kind : D) (tick : Int) (fs : List D) : Bool := match row with
  | .tuple [.int b, .int e, dd, kk, _] => bearB h b e dd kk kind tick fs
  | _ => false
def wordD : D → D
  | .tuple [_, _, _, _, w] => w
  | _ => .none
theorem bear_eq {h tick : Int} {r kind : D} {fs : List Int} (hh : HoursOk h) (hr : RowOk h r) (hk : KindOk kind) : F_does_bear [.int h, r, kind, .int tick, .tuple (fs.map PyData.int)] = .ok (.bool (rowB h r kind tick (fs.map PyData.int))) [] := by
  have hb := hours_b hh
  obtain ⟨b, e, dd, kk, ww, rfl, b0, b1, e0, e1, be, hd, hkk, hw⟩ := hr
  refine fo_eq ?_
  unfold F_does_bear
  rw [fwp_mk]
  by_cases hbe : b = e
  · have hd1 : decide (b = e) = true := decide_eq_true hbe
    have hago : agoI h b e tick = 0 := by unfold agoI; rw [if_pos hbe]
    have hd2 : decide (b ≠ e) = false := decide_eq_false (fun n => n hbe)
    cases hnp : np kk <;> cases hnq : nq kind kk <;>
      simp! [B_does_bear, np_eq hkk, hnp, nq_eq hkk hk, hnq, mulOk_l (i := 7) (j := h) (by omega), hd1, rowB, bearB, hago, hd2, divD_i (j := h) (by omega), does_fit_eq hd]
  · have hd1 : decide (b = e) = false := decide_eq_false hbe
    have hago : agoI h b e tick = (tick - b) % (7 * h) := by unfold agoI; rw [if_neg hbe]
    have hd2 : decide (b ≠ e) = true := decide_eq_true hbe
    by_cases hc : (e - b) % (7 * h) ≤ (tick - b) % (7 * h)
    · have hc1 := decide_eq_true hc
      cases hnp : np kk <;> cases hnq : nq kind kk <;>
        simp! [B_does_bear, np_eq hkk, hnp, nq_eq hkk hk, hnq, mulOk_l (i := 7) (j := h) (by omega), show 0 < 7 * h by omega, hd1, rowB, bearB, hago, hd2, hc1, divD_i (j := h) (by omega), does_fit_eq hd]
    · have hc1 := decide_eq_false hc
      cases hnp : np kk <;> cases hnq : nq kind kk <;>
        simp! [B_does_bear, np_eq hkk, hnp, nq_eq hkk hk, hnq, mulOk_l (i := 7) (j := h) (by omega), show 0 < 7 * h by omega, hd1, rowB, bearB, hago, hd2, hc1, divD_i (j := h) (by omega), does_fit_eq hd]
end Vk21
namespace Vk21
open PySem PySem.Spec PyProof.Rows L2 ZZ
def toldN (h : Int) (rows : List D) (kind : D) (tick : Int) (fs : List D) : Nat → D
  | 0 => .tuple [.str "free", .none]
  | k + 1 => match rows[k]? with
    | some r => if rowB h r kind tick fs = true then .tuple [wordD r, .int (k : Nat)] else toldN h rows kind tick fs k
    | none => .none
def dsc : Nat → List D
  | 0 => []
  | k + 1 => .int (k : Nat) :: dsc k
theorem dsc_rngC (n : Nat) : rngC ((n : Int) - 1) (-1) n = dsc n := by
  unfold rngC
  induction n with
  | zero => rfl
  | succ n ih =>
    rw [List.range_succ_eq_map, List.map_cons, List.map_map]
    show _ = _ :: dsc n
    rw [← ih]
    congr 1
    · congr 1; omega
    · apply List.map_congr_left
      intro i hi
      show PyData.int _ = PyData.int _
      congr 1
      push_cast
      omega
theorem dsc_rev (n : Nat) : (rng 0 n).reverse = dsc n := by
  unfold rng
  rw [show ((n : Int) - 0).toNat = n by omega]
  induction n with
  | zero => rfl
  | succ n ih =>
    rw [List.range_succ, List.map_append, List.reverse_append, ih]
    show _ :: _ = _ :: _
    congr 1
    simp
theorem rows_at {rows : List D} {k : Nat} (h : k < rows.length) : atI rows (k : Int) = some rows[k] := atI_lit k (List.getElem?_eq_getElem h)
theorem row_word {h : Int} {r : D} (hr : RowOk h r) : ixD r (.int 4) = some (wordD r) := by
  obtain ⟨b, e, dd, kk, ww, rfl, _⟩ := hr
  simp only [ixD_t, atI_4, wordD]
theorem told_at_eq {h tick : Int} {rows : List D} {kind : D} {fs : List Int} (hh : HoursOk h) (hl : rows.length ≤ 12) (hr : ∀ r ∈ rows, RowOk h r) (hk : KindOk kind) :
    F_told_at [.tuple [.int h, .tuple rows], kind, .int tick, .tuple (fs.map PyData.int)] = .ok (toldN h rows kind tick (fs.map PyData.int) rows.length) [] := by
  refine fo_eq ?_
  unfold F_told_at
  rw [fwp_mk]
  have hrg : rg3 [.int ((rows.length : Int) - 1), .int (-1), .int (-1)] = some (dsc rows.length) := by
    simp only [rg3, rOk_s (a := (rows.length : Int) - 1) (by omega), rOk_s (a := -1) (by omega), and_self, if_true]
    rw [show ((rows.length : Int) - 1 - -1).toNat = rows.length by omega, dsc_rngC]
  simp! [B_told_at, hrg]
  refine wp_forL (fun ds e => ∃ (k : Nat) (s : Sl), k ≤ rows.length ∧ ds = dsc k ∧ e = [.fz (.tuple [.int h, .tuple rows]), .fz kind, .fz (.int tick), .fz (.tuple (fs.map PyData.int)), .fz (.int h), .fz (.tuple rows), s] ∧ toldN h rows kind tick (fs.map PyData.int) k = toldN h rows kind tick (fs.map PyData.int) rows.length) ?_ ?_ _ _ ⟨_, _, Nat.le_refl _, rfl, rfl, rfl⟩
  · rintro d rest _ ⟨k, s, hkl, hd, rfl, ht⟩
    cases k with
    | zero => cases hd
    | succ k =>
      cases hd
      have hlt : k < rows.length := by omega
      have hrow := hr rows[k] (List.getElem_mem hlt)
      have htold : toldN h rows kind tick (fs.map PyData.int) (k + 1) = if rowB h rows[k] kind tick (fs.map PyData.int) = true then .tuple [wordD rows[k], .int (k : Nat)] else toldN h rows kind tick (fs.map PyData.int) k := by
        simp only [toldN, List.getElem?_eq_getElem hlt]
      simp! [rows_at hlt, bear_eq hh hrow hk]
      cases hb : rowB h rows[k] kind tick (fs.map PyData.int) with
      | true =>
        rw [hb, if_pos rfl] at htold
        simp! [rows_at hlt, row_word hrow, kTurn_rt]
        rw [← ht, htold]
      | false =>
        rw [hb, if_neg Bool.false_ne_true] at htold
        simp! [kTurn_nx]
        exact ⟨k, _, by omega, rfl, rfl, by rw [← htold, ht]⟩
  · rintro _ ⟨k, s, hkl, hd, rfl, ht⟩
    cases k with
    | succ k => cases hd
    | zero =>
      simp! []
      rw [← ht]; rfl
end Vk21

namespace Vk21
open PySem PySem.Spec PyProof.Rows L2 ZZ
theorem fits_dict (a b c d : D) : dspD [(.str "any", a), (.str "plain", b), (.str "feast", c), (.str "eve", d)] = some (.dict [(.str "any", a), (.str "plain", b), (.str "feast", c), (.str "eve", d)]) := by
  rfl
def fitV (dd : D) (x y : Bool) : Bool := if strI dd "plain" then !x else if strI dd "feast" then x else strI dd "any" || y
theorem fit_ix {dd : D} (hd : DaysOk dd) (x y : Bool) : ixD (.dict [(.str "any", .bool true), (.str "plain", .bool !x), (.str "feast", .bool x), (.str "eve", .bool y)]) dd = some (.bool (fitV dd x y)) := by
  rcases hd with rfl | rfl | rfl | rfl <;> cases x <;> cases y <;> exact of_bIs (by decide +kernel)
theorem fitB_eq (dd : D) (day : Int) (fs : List D) : fitB dd day fs = fitV dd (hasD fs (.int day)) (hasD fs (.int (day + 1))) := rfl
theorem law_told_eq {h tick : Int} {rows : List D} {kind : D} {fs : List Int} (hh : HoursOk h) (hl : rows.length ≤ 12) (hr : ∀ r ∈ rows, RowOk h r) (hk : KindOk kind) :
    F__law_told [.tuple [.int h, .tuple rows], kind, .int tick, .tuple (fs.map PyData.int)] = .ok (toldN h rows kind tick (fs.map PyData.int) rows.length) [] := by
  refine fo_eq ?_
  unfold F__law_told
  rw [fwp_mk]
  simp! [B__law_told, lrgD_s PyData.list (a := 0) (b := rows.length) (by omega), dsc_rev]
  refine wp_forL (fun ds e => ∃ (k : Nat) (s6 s7 s8 s9 s10 s11 s12 s13 s14 : Sl), k ≤ rows.length ∧ ds = dsc k ∧ e = [.fz (.tuple [.int h, .tuple rows]), .fz kind, .fz (.int tick), .fz (.tuple (fs.map PyData.int)), .fz (.int h), .fz (.tuple rows), s6, s7, s8, s9, s10, s11, s12, s13, s14] ∧ toldN h rows kind tick (fs.map PyData.int) k = toldN h rows kind tick (fs.map PyData.int) rows.length) ?_ ?_ _ _ ⟨_, _, _, _, _, _, _, _, _, _, Nat.le_refl _, rfl, rfl, rfl⟩
  · rintro d rest _ ⟨k, s6, s7, s8, s9, s10, s11, s12, s13, s14, hkl, hd, rfl, ht⟩
    cases k with
    | zero => cases hd
    | succ k =>
      cases hd
      have hlt : k < rows.length := by omega
      have hrow := hr rows[k] (List.getElem_mem hlt)
      have htold : toldN h rows kind tick (fs.map PyData.int) (k + 1) = if rowB h rows[k] kind tick (fs.map PyData.int) = true then .tuple [wordD rows[k], .int (k : Nat)] else toldN h rows kind tick (fs.map PyData.int) k := by
        simp only [toldN, List.getElem?_eq_getElem hlt]
      rw [ht] at htold
      have hat := rows_at hlt
      have hb := hours_b hh
      revert hrow hat htold
      generalize rows[k] = r
      intro hrow htold hat
      obtain ⟨b, e, dd, kk, ww, rfl, b0, b1, e0, e1, be, hd, hkk, hw⟩ := hrow
      have hnext : rowB h (.tuple [.int b, .int e, dd, kk, ww]) kind tick (fs.map PyData.int) = false → toldN h rows kind tick (fs.map PyData.int) k = toldN h rows kind tick (fs.map PyData.int) rows.length := fun z => by
        rw [z, if_neg Bool.false_ne_true] at htold; exact htold.symm
      have hyes : rowB h (.tuple [.int b, .int e, dd, kk, ww]) kind tick (fs.map PyData.int) = true → toldN h rows kind tick (fs.map PyData.int) rows.length = .tuple [ww, .int (k : Nat)] := fun z => by
        rw [z, if_pos rfl] at htold; exact htold
      by_cases hbe : b = e
      · have hd1 : decide (b = e) = true := decide_eq_true hbe
        have hago : agoI h b e tick = 0 := by unfold agoI; rw [if_pos hbe]
        have hd2 : decide (b ≠ e) = false := decide_eq_false (fun n => n hbe)
        have hrb : rowB h (.tuple [.int b, .int e, dd, kk, ww]) kind tick (fs.map PyData.int) = (!(np kk && nq kind kk) && fitV dd (hasD (fs.map PyData.int) (.int ((tick - 0) / h))) (hasD (fs.map PyData.int) (.int ((tick - 0) / h + 1)))) := by
          simp only [rowB, bearB, hd2, hago, fitB_eq, Bool.false_and, Bool.not_false, Bool.true_and]
        cases hnp : np kk <;> cases hnq : nq kind kk <;> cases hfv : fitV dd (hasD (fs.map PyData.int) (.int ((tick - 0) / h))) (hasD (fs.map PyData.int) (.int ((tick - 0) / h + 1))) <;>
          rw [hnp, hnq, hfv] at hrb <;>
          first
            | (have hno := hnext hrb
               simp! [hat, hd1, np_eq hkk, hnp, nq_eq hkk hk, hnq, divD_i (j := h) (by omega), in_ints, nin_ints, fits_dict, fit_ix hd, hfv, kTurn_ct, kTurn_nx]
               exact ⟨k, _, _, _, _, _, _, _, _, _, by omega, rfl, rfl, hno⟩)
            | (have hye := hyes hrb
               simp! [hat, hd1, np_eq hkk, hnp, nq_eq hkk hk, hnq, divD_i (j := h) (by omega), in_ints, nin_ints, fits_dict, fit_ix hd, hfv, kTurn_rt]
               exact hye.symm)
      · have hd1 : decide (b = e) = false := decide_eq_false hbe
        have hago : agoI h b e tick = (tick - b) % (7 * h) := by unfold agoI; rw [if_neg hbe]
        have hd2 : decide (b ≠ e) = true := decide_eq_true hbe
        have hrb : rowB h (.tuple [.int b, .int e, dd, kk, ww]) kind tick (fs.map PyData.int) = (!(np kk && nq kind kk) && (!decide ((e - b) % (7 * h) ≤ (tick - b) % (7 * h)) && fitV dd (hasD (fs.map PyData.int) (.int ((tick - (tick - b) % (7 * h)) / h))) (hasD (fs.map PyData.int) (.int ((tick - (tick - b) % (7 * h)) / h + 1))))) := by
          simp only [rowB, bearB, hd2, hago, fitB_eq, Bool.true_and]
        have h7 : 0 < 7 * h := by omega
        cases hc1 : decide ((e - b) % (7 * h) ≤ (tick - b) % (7 * h)) <;> cases hnp : np kk <;> cases hnq : nq kind kk <;> cases hfv : fitV dd (hasD (fs.map PyData.int) (.int ((tick - (tick - b) % (7 * h)) / h))) (hasD (fs.map PyData.int) (.int ((tick - (tick - b) % (7 * h)) / h + 1))) <;>
          rw [hc1, hnp, hnq, hfv] at hrb <;>
          first
            | (have hno := hnext hrb
               simp! [hat, hd1, hc1, h7, mulOk_l (i := 7) (j := h) (by omega), np_eq hkk, hnp, nq_eq hkk hk, hnq, divD_i (j := h) (by omega), in_ints, nin_ints, fits_dict, fit_ix hd, hfv, kTurn_ct, kTurn_nx]
               exact ⟨k, _, _, _, _, _, _, _, _, _, by omega, rfl, rfl, hno⟩)
            | (have hye := hyes hrb
               simp! [hat, hd1, hc1, h7, mulOk_l (i := 7) (j := h) (by omega), np_eq hkk, hnp, nq_eq hkk hk, hnq, divD_i (j := h) (by omega), in_ints, nin_ints, fits_dict, fit_ix hd, hfv, kTurn_rt]
               exact hye.symm)
  · rintro _ ⟨k, s6, s7, s8, s9, s10, s11, s12, s13, s14, hkl, hd, rfl, ht⟩
    cases k with
    | succ k => cases hd
    | zero =>
      simp! []
      rw [← ht]; rfl
end Vk21

namespace Vk21
open PySem PySem.Spec PyProof.Rows L2 ZZ
theorem toldN_sh {h tick : Int} {rows : List D} {kind : D} {fs : List D} (hr : ∀ r ∈ rows, RowOk h r) : ∀ k : Nat, k ≤ rows.length → ∃ w n, toldN h rows kind tick fs k = .tuple [w, n] ∧ WordOk w
  | 0, _ => ⟨_, _, rfl, .inl rfl⟩
  | k + 1, hk => by
    have hlt : k < rows.length := by omega
    have hrow := hr rows[k] (List.getElem_mem hlt)
    simp only [toldN, List.getElem?_eq_getElem hlt]
    split
    · obtain ⟨b, e, dd, kk, ww, e1, _, _, _, _, _, _, _, hw⟩ := hrow
      rw [e1]
      exact ⟨_, _, rfl, hw⟩
    · exact toldN_sh hr k (by omega)
def wordA (h : Int) (rows : List D) (kind : D) (fs : List D) (tick : Int) : D := match toldN h rows kind tick fs rows.length with
  | .tuple [w, _] => w
  | _ => .none
theorem told_w {h tick : Int} {rows : List D} {kind : D} {fs : List D} (hr : ∀ r ∈ rows, RowOk h r) : ixD (toldN h rows kind tick fs rows.length) (.int 0) = some (wordA h rows kind fs tick) ∧ WordOk (wordA h rows kind fs tick) := by
  obtain ⟨w, n, e, hw⟩ := toldN_sh (h := h) (tick := tick) (kind := kind) (fs := fs) hr rows.length (Nat.le_refl _)
  unfold wordA
  rw [e]
  exact ⟨by simp only [ixD_t, atI_z], hw⟩
def wordsL : List D := [.str "free", .str "barred", .str "load"] ++ ((List.range 10).map fun a => (List.range 7).map fun b => PyData.tuple [.int (a : Nat), .int (b : Nat)]).flatten
def repOk (w : D) : Bool := match reprD w with | some (.str _) => true | _ => false
def ne2 (v w : D) : Bool := bIs true (neD v w)
theorem words_in {w : D} (h : WordOk w) : w ∈ wordsL := by
  unfold wordsL
  rcases h with rfl | rfl | rfl | ⟨a, b, rfl, h1, h2, h3, h4⟩
  · simp
  · simp
  · simp
  · refine List.mem_append_right _ (List.mem_flatten.mpr ⟨_, List.mem_map.mpr ⟨a.toNat, List.mem_range.mpr (by omega), rfl⟩, List.mem_map.mpr ⟨b.toNat, List.mem_range.mpr (by omega), ?_⟩⟩)
    rw [Int.toNat_of_nonneg (by omega), Int.toNat_of_nonneg (by omega)]
theorem words_rep : ∀ w ∈ wordsL, repOk w = true := by
  have : wordsL.all repOk = true := by decide +kernel
  exact List.all_eq_true.mp this
theorem word_repr {w : D} (h : WordOk w) : ∃ z, reprD w = some (.str z) := by
  have := words_rep w (words_in h)
  unfold repOk at this
  split at this
  · rename_i z e; exact ⟨z, e⟩
  · cases this
theorem words_ne : ∀ v ∈ wordsL, ∀ w ∈ wordsL, isBo (neD v w) = true := by
  have : (wordsL.all fun v => wordsL.all fun w => isBo (neD v w)) = true := by decide +kernel
  intro v hv w hw
  exact List.all_eq_true.mp (List.all_eq_true.mp this v hv) w hw
theorem word_ne {v w : D} (h : WordOk v) (h2 : WordOk w) : neD v w = some (.bool (ne2 v w)) := of_isBo (words_ne v (words_in h) w (words_in h2))
end Vk21

namespace Vk21
open PySem PySem.Spec PyProof.Rows L2 ZZ
/-! ### the first one from here on -/
def nextB (P : Int → Bool) : Int → Nat → Int
  | t, 0 => t
  | t, n + 1 => if P t = true then t else nextB P (t + 1) n
theorem nextB_ge (P : Int → Bool) : ∀ (n : Nat) (t : Int), t ≤ nextB P t n
  | 0, t => by unfold nextB; omega
  | n + 1, t => by
    unfold nextB
    split
    · omega
    · have := nextB_ge P n (t + 1); omega
theorem nextB_le (P : Int → Bool) : ∀ (n : Nat) (t : Int), nextB P t n ≤ t + n
  | 0, t => by unfold nextB; omega
  | n + 1, t => by
    unfold nextB
    split
    · omega
    · have := nextB_le P n (t + 1); omega
theorem nextB_lt {P : Int → Bool} : ∀ {n : Nat} {t : Int}, nextB P t n < t + n → P (nextB P t n) = true
  | 0, t, h => by unfold nextB at h; omega
  | n + 1, t, h => by
    unfold nextB at h ⊢
    split
    · assumption
    · rename_i hp
      rw [if_neg hp] at h
      exact nextB_lt (by omega)
theorem nextB_no {P : Int → Bool} : ∀ {n : Nat} {t s : Int}, t ≤ s → s < nextB P t n → P s = false
  | 0, t, s, h1, h2 => by unfold nextB at h2; omega
  | n + 1, t, s, h1, h2 => by
    unfold nextB at h2
    split at h2
    · omega
    · rename_i hp
      by_cases e : s = t
      · subst e
        cases hs : P s with
        | true => exact absurd hs hp
        | false => rfl
      · exact nextB_no (by omega) h2
theorem nextB_eq {P : Int → Bool} {n : Nat} {t r : Int} (h1 : t ≤ r) (h2 : r ≤ t + n) (h3 : ∀ s, t ≤ s → s < r → P s = false) (h4 : r < t + n → P r = true) : nextB P t n = r := by
  have a1 := nextB_ge P n t
  have a2 := nextB_le P n t
  by_cases c : nextB P t n < r
  · have := h3 _ a1 c
    have q := nextB_lt (P := P) (n := n) (t := t) (by omega)
    rw [q] at this; cases this
  · by_cases c2 : r < nextB P t n
    · have := nextB_no h1 c2
      rw [h4 (by omega)] at this; cases this
    · omega
theorem nextB_stop {P : Int → Bool} {n : Nat} {t s : Int} (h1 : t ≤ s) (h2 : P s = true) : nextB P t n ≤ s := by
  by_cases c : s < nextB P t n
  · have := nextB_no h1 c
    rw [h2] at this; cases this
  · omega
theorem nextB_min {P : Int → Bool} {m n : Nat} {t : Int} (h : m ≤ n) : nextB P t m = if nextB P t n < t + m then nextB P t n else t + m := by
  have a1 := nextB_ge P n t
  have a2 := nextB_le P n t
  split
  · rename_i c
    exact nextB_eq a1 (by omega) (fun s h1 h2 => nextB_no (n := n) h1 h2) fun _ => nextB_lt (n := n) (by omega)
  · rename_i c
    exact nextB_eq (by omega) (by omega) (fun s h1 h2 => nextB_no (n := n) h1 (by omega)) fun q => by omega
theorem nextB_grow {P : Int → Bool} {m n : Nat} {t : Int} (h : m ≤ n) : nextB P t m ≤ nextB P t n := by
  have := nextB_le P m t
  rw [nextB_min h]
  split <;> omega
theorem nextB_congr {P Q : Int → Bool} (h : ∀ t, P t = Q t) (t : Int) (n : Nat) : nextB P t n = nextB Q t n := by
  have : P = Q := funext h
  rw [this]
/-- a change of signs: what is barred by the old one, the new one; the last end of each begin; two weeks -/
structure Chg where
  P : Int → Bool
  Q : Int → Bool
  L : Int → Int
  N : Nat
  hL : ∀ b, b ≤ L b ∧ L b ≤ b + N
def Chg.fin (c : Chg) (b : Int) : Int := nextB c.P b (c.L b - b).toNat
def Chg.bar (c : Chg) (t : Int) : Int := nextB c.Q t c.N
def Chg.ex (c : Chg) (t b : Int) : Bool := decide (c.bar t < c.fin b)
theorem Chg.fin_b (c : Chg) (b : Int) : b ≤ c.fin b ∧ c.fin b ≤ b + c.N := by
  have h := c.hL b
  have a1 := nextB_ge c.P (c.L b - b).toNat b
  have a2 := nextB_le c.P (c.L b - b).toNat b
  unfold Chg.fin
  omega
theorem Chg.bar_b (c : Chg) (t : Int) : t ≤ c.bar t ∧ c.bar t ≤ t + c.N := ⟨nextB_ge _ _ _, nextB_le _ _ _⟩
theorem Chg.ex_spec {c : Chg} {t b : Int} (hb : b < t) (h : c.ex t b = true) : t - c.N < b ∧ c.bar t < t + c.N := by
  have := of_decide_eq_true h
  have := c.fin_b b
  have := c.bar_b t
  omega
theorem Chg.ex_same {c : Chg} (hs : ∀ t, c.Q t = c.P t) {t b : Int} (hb : b < t) : c.ex t b = false := by
  cases h : c.ex t b with
  | false => rfl
  | true =>
    obtain ⟨h1, h2⟩ := c.ex_spec hb h
    have h3 := of_decide_eq_true h
    have h4 : c.P (c.bar t) = true := by rw [← hs]; exact nextB_lt h2
    have := c.bar_b t
    have h5 : c.fin b ≤ c.bar t := nextB_stop (by omega) h4
    omega
theorem Chg.ex_barred {c : Chg} (hs : ∀ t, c.P t = true) {t b : Int} (hb : b < t) : c.ex t b = false := by
  cases h : c.ex t b with
  | false => rfl
  | true =>
    have h3 := of_decide_eq_true h
    have := c.bar_b t
    have h5 : c.fin b ≤ b := nextB_stop (by omega) (hs b)
    omega
theorem Chg.ex_free {c : Chg} (hs : ∀ t, c.Q t = false) {t b : Int} (hb : b < t) : c.ex t b = false := by
  cases h : c.ex t b with
  | false => rfl
  | true =>
    obtain ⟨h1, h2⟩ := c.ex_spec hb h
    have := nextB_lt h2
    rw [show nextB c.Q t c.N = c.bar t from rfl, hs] at this; cases this
/-- what the walk with the greatest end so far finds -/
theorem Chg.unsafe_iff {c : Chg} {t m : Int} {n : Nat} (hn : c.N ≤ n) (hm : m ≤ t - c.N ∨ m ≤ 0) : (∃ b, m ≤ b ∧ 0 ≤ b ∧ b < t ∧ nextB c.Q t n < c.fin b) ↔ ∃ b, 0 ≤ b ∧ b < t ∧ c.ex t b = true := by
  constructor
  · rintro ⟨b, h1, h2, h3, h4⟩
    refine ⟨b, h2, h3, decide_eq_true ?_⟩
    have : c.bar t ≤ nextB c.Q t n := nextB_grow hn
    omega
  · rintro ⟨b, h1, h2, h3⟩
    obtain ⟨h4, h5⟩ := c.ex_spec h2 h3
    have h6 := of_decide_eq_true h3
    have e : c.bar t = if nextB c.Q t n < t + c.N then nextB c.Q t n else t + c.N := nextB_min hn
    refine ⟨b, by omega, h1, h2, ?_⟩
    split at e <;> omega
/-- the greatest end so far -/
def mxI (f : Int → Int) (m : Int) : Nat → Int
  | 0 => 0
  | n + 1 => if f (m + n) > mxI f m n then f (m + n) else mxI f m n
theorem mxI_lt {f : Int → Int} {m x : Int} (hx : 0 ≤ x) : ∀ n : Nat, x < mxI f m n ↔ ∃ b, m ≤ b ∧ b < m + n ∧ x < f b
  | 0 => by
    unfold mxI
    constructor
    · intro h; omega
    · rintro ⟨b, h1, h2, _⟩; omega
  | n + 1 => by
    have ih := mxI_lt (f := f) (m := m) hx n
    unfold mxI
    constructor
    · intro h
      by_cases c : x < f (m + n)
      · exact ⟨m + n, by omega, by omega, c⟩
      · split at h
        · omega
        · obtain ⟨b, h1, h2, h3⟩ := ih.mp h
          exact ⟨b, h1, by omega, h3⟩
    · rintro ⟨b, h1, h2, h3⟩
      by_cases e : b = m + n
      · subst e
        split <;> omega
      · have := ih.mpr ⟨b, h1, by omega, h3⟩
        split <;> omega
end Vk21

namespace Vk21
open PySem PySem.Spec PyProof.Rows L2 ZZ
/-! ### which row tells -/
def rowP (h : Int) (kind : D) (tick : Int) (p : Int → Bool) (row : D) : Bool := match row with
  | .tuple [.int b, .int e, dd, kk, _] => !(np kk && nq kind kk) && (!(decide (b ≠ e) && decide ((e - b) % (7 * h) ≤ agoI h b e tick)) && fitV dd (p ((tick - agoI h b e tick) / h)) (p ((tick - agoI h b e tick) / h + 1)))
  | _ => false
/-- the word of the last row that bears -/
def lastW (B : D → Bool) (rows : List D) : Option D := (rows.reverse.find? B).map wordD
def wordO (B : D → Bool) (rows : List D) : D := (lastW B rows).getD (.str "free")
theorem lastW_app (B : D → Bool) (X Y : List D) : lastW B (X ++ Y) = (lastW B Y).or (lastW B X) := by
  unfold lastW
  rw [List.reverse_append, List.find?_append]
  cases Y.reverse.find? B <;> rfl
theorem lastW_mid {B : D → Bool} {X M M' Y : List D} (h : lastW B M = lastW B M') : wordO B (X ++ M ++ Y) = wordO B (X ++ M' ++ Y) := by
  unfold wordO
  rw [lastW_app, lastW_app, lastW_app, lastW_app, h]
theorem lastW_one (B : D → Bool) (r : D) : lastW B [r] = if B r = true then some (wordD r) else none := by
  unfold lastW
  show (List.find? B [r]).map wordD = _
  rw [List.find?_cons]
  cases B r <;> rfl
theorem lastW_two (B : D → Bool) (r s : D) : lastW B [r, s] = if B s = true then some (wordD s) else if B r = true then some (wordD r) else none := by
  have : [r, s] = [r] ++ [s] := rfl
  rw [this, lastW_app, lastW_one, lastW_one]
  cases B s <;> cases B r <;> rfl
theorem hasD_mem (fs : List Int) (x : Int) : hasD (fs.map PyData.int) (.int x) = decide (x ∈ fs) := by
  unfold hasD
  induction fs with
  | nil => simp
  | cons a t ih =>
    rw [List.map_cons, List.any_cons, ih]
    have e : PyData.eqv (.int a) (.int x) = decide (a = x) := eqv_i a x
    rw [e]
    by_cases h : a = x
    · subst h; simp
    · have : x ≠ a := fun q => h q.symm
      simp [h, this]
theorem row_told {h : Int} {r kind : D} {tick : Int} {fs : List Int} (hr : RowOk h r) : rowB h r kind tick (fs.map PyData.int) = rowP h kind tick (fun x => decide (x ∈ fs)) r := by
  obtain ⟨b, e, dd, kk, ww, rfl, _⟩ := hr
  show bearB h b e dd kk kind tick (fs.map PyData.int) = _
  unfold bearB rowP
  rw [fitB_eq, hasD_mem, hasD_mem]
theorem word_is {h tick : Int} {rows : List D} {kind : D} {fs : List Int} (hr : ∀ r ∈ rows, RowOk h r) : wordA h rows kind (fs.map PyData.int) tick = wordO (rowP h kind tick fun x => decide (x ∈ fs)) rows := by
  have key : ∀ k, k ≤ rows.length → ∃ w n, toldN h rows kind tick (fs.map PyData.int) k = .tuple [w, n] ∧ w = wordO (rowP h kind tick fun x => decide (x ∈ fs)) (rows.take k) := by
    intro k
    induction k with
    | zero => intro _; exact ⟨_, _, rfl, rfl⟩
    | succ k ih =>
      intro hk
      have hlt : k < rows.length := by omega
      have hrow := hr rows[k] (List.getElem_mem hlt)
      simp only [toldN, List.getElem?_eq_getElem hlt, row_told hrow]
      rw [List.take_succ_eq_append_getElem hlt]
      unfold wordO
      rw [lastW_app, lastW_one]
      cases hb : rowP h kind tick (fun x => decide (x ∈ fs)) rows[k] with
      | true => exact ⟨_, _, rfl, rfl⟩
      | false =>
        obtain ⟨w, n, e1, e2⟩ := ih (by omega)
        exact ⟨w, n, e1, e2⟩
  obtain ⟨w, n, e, hw⟩ := key rows.length (Nat.le_refl _)
  unfold wordA
  rw [e, hw, List.take_length]
/-! ### the kinds that two signs name -/
abbrev kB : Str := "bus"
abbrev kW : Str := "van"
def kd (us : List Str) : List (D × D) := us.map fun u => (.str u, .bool true)
def addU (us : List Str) (x : Str) : List Str := if x ∈ us then us else us ++ [x]
def addAll (us xs : List Str) : List Str := xs.foldl addU us
def formsU : List (List Str) := [[], [kB], [kW], [kB, kW], [kW, kB]]
theorem forms_add : ∀ us ∈ formsU, ∀ x ∈ [kB, kW], addU us x ∈ formsU := by decide +kernel
theorem put_kd (us : List Str) (x : Str) : putD (kd us) (.str x) (.bool true) = kd (addU us x) := by
  have e : ∀ u : Str, PyData.eqv (.str u) (.str x) = decide (u = x) := fun u => by
    have := eqv_key (j := .inr x) (k := .inr u)
    simp only [kD] at this
    rw [this]
    exact decide_eq_decide.mpr ⟨fun h => by injection h, fun h => by rw [h]⟩
  have any : ((kd us).any fun p => PyData.eqv p.1 (.str x)) = decide (x ∈ us) := by
    unfold kd
    rw [List.any_map, Bool.eq_iff_iff, List.any_eq_true, decide_eq_true_eq]
    constructor
    · rintro ⟨u, hu, h⟩
      have h : PyData.eqv (.str u) (.str x) = true := h
      rw [e, decide_eq_true_eq] at h
      exact h ▸ hu
    · intro h
      exact ⟨x, h, by show PyData.eqv (.str x) (.str x) = true; rw [e]; exact decide_eq_true rfl⟩
  unfold putD addU
  rw [any]
  by_cases h : x ∈ us
  · rw [decide_eq_true h, if_pos rfl, if_pos h]
    unfold kd
    rw [List.map_map]
    refine List.map_congr_left fun u _ => ?_
    show (if PyData.eqv (.str u) (.str x) = true then ((PyData.str u, PyData.bool true) : D × D) else (.str u, .bool true)) = _
    split <;> rfl
  · rw [decide_eq_false h, if_neg Bool.false_ne_true, if_neg h]
    unfold kd
    rw [List.map_append]; rfl
theorem fold_kd : ∀ (xs us : List Str), (xs.map fun x => ((PyData.str x, PyData.bool true) : D × D)).foldl (fun acc p => putD acc p.1 p.2) (kd us) = kd (addAll us xs)
  | [], us => rfl
  | x :: xs, us => by
    rw [List.map_cons, List.foldl_cons, put_kd]
    exact fold_kd xs (addU us x)
theorem addAll_forms : ∀ (xs us : List Str), us ∈ formsU → (∀ x ∈ xs, x ∈ [kB, kW]) → addAll us xs ∈ formsU
  | [], us, h, _ => h
  | x :: xs, us, h, hx => addAll_forms xs (addU us x) (forms_add us h x (hx x List.mem_cons_self)) fun y hy => hx y (List.mem_cons_of_mem _ hy)
theorem mem_addU {us : List Str} {x y : Str} : y ∈ addU us x ↔ y ∈ us ∨ y = x := by
  unfold addU
  split
  · rename_i h
    exact ⟨.inl, fun q => q.elim id fun q => q ▸ h⟩
  · rw [List.mem_append, List.mem_singleton]
theorem mem_addAll : ∀ {xs us : List Str} {y : Str}, y ∈ addAll us xs ↔ y ∈ us ∨ y ∈ xs
  | [], us, y => by simp [addAll]
  | x :: xs, us, y => by
    show y ∈ addAll (addU us x) xs ↔ _
    rw [mem_addAll, mem_addU, List.mem_cons, or_assoc]
def sK (us : List Str) : List Str := (if kB ∈ us then [kB] else []) ++ (if kW ∈ us then [kW] else [])
theorem sK_congr {us vs : List Str} (h : ∀ x, x ∈ us ↔ x ∈ vs) : sK us = sK vs := by
  unfold sK
  simp only [h]
theorem len2 {zs : List Str} (h : zs.length = 2) : ∃ a b, zs = [a, b] := by
  match zs, h with
  | [a, b], _ => exact ⟨a, b, rfl⟩
theorem one_2 (us : List Str) (hu : us = [kB, kW] ∨ us = [kW, kB]) : OneSeq us [kB, kW] := by
  have hm : ∀ x ∈ us, x ∈ [kB, kW] := by rcases hu with rfl | rfl <;> decide +kernel
  have hn : us.Nodup := by rcases hu with rfl | rfl <;> decide +kernel
  have hl : us.length = 2 := by rcases hu with rfl | rfl <;> rfl
  refine ⟨?_, by decide +kernel, fun zs hp hs => ?_⟩
  · rcases hu with rfl | rfl
    · exact List.Perm.refl _
    · exact List.Perm.swap _ _ _
  · obtain ⟨a, b, rfl⟩ := len2 (hp.length_eq.trans hl)
    have ha := hm a (hp.mem_iff.mp List.mem_cons_self)
    have hb := hm b (hp.mem_iff.mp (List.mem_cons_of_mem _ List.mem_cons_self))
    have hnn := hp.nodup_iff.mpr hn
    have key : ∀ a ∈ [kB, kW], ∀ b ∈ [kB, kW], [a, b].Nodup → sortedS [a, b] = true → [a, b] = [kB, kW] := by decide +kernel
    exact key a ha b hb hnn hs
theorem one_forms : ∀ us ∈ formsU, OneSeq us (sK us) := by
  intro us hu
  simp only [formsU, List.mem_cons, List.not_mem_nil, or_false] at hu
  rcases hu with rfl | rfl | rfl | rfl | rfl
  · exact ⟨.refl _, rfl, fun zs h _ => List.perm_nil.mp h⟩
  · rw [show sK [kB] = [kB] by decide +kernel]
    exact ⟨.refl _, rfl, fun zs h _ => List.perm_singleton.mp h⟩
  · rw [show sK [kW] = [kW] by decide +kernel]
    exact ⟨.refl _, rfl, fun zs h _ => List.perm_singleton.mp h⟩
  · rw [show sK [kB, kW] = [kB, kW] by decide +kernel]
    exact one_2 _ (.inl rfl)
  · rw [show sK [kW, kB] = [kB, kW] by decide +kernel]
    exact one_2 _ (.inr rfl)
theorem forms_len {us : List Str} (h : us ∈ formsU) : us.length ≤ 2 := by
  have : ∀ us ∈ formsU, us.length ≤ 2 := by decide +kernel
  exact this us h
theorem strsK_kd : ∀ us : List Str, strsK (kd us) = some us
  | [] => rfl
  | u :: us => by
    show (strsK (kd us)).map (u :: ·) = _
    rw [strsK_kd us]; rfl
theorem sortKD_kd {us : List Str} (h : us ∈ formsU) : sortKD (.dict (kd us)) = some (.list ((sK us).map PyData.str)) :=
  sortKD_is (strsK_kd us) (by have := forms_len h; omega) (one_forms us h)
theorem sortD_us {us : List Str} (h : us ∈ formsU) : sortD (.list (us.map PyData.str)) = some (.list ((sK us).map PyData.str)) := by
  have le1 : PySem.W.dataLe false id (.str "bus") (.str "van") = true := by decide +kernel
  have le2 : PySem.W.dataLe false id (.str "van") (.str "bus") = false := by decide +kernel
  have go : ∀ ds es : List D, sortOk ds = true → ds.mergeSort (PySem.W.dataLe false id) = es → sortD (.list ds) = some (.list es) := fun ds es h1 h2 => by
    show (if sortOk ds = true then some (PyData.list (sortL ds)) else none) = _
    rw [if_pos h1]
    show some (PyData.list (ds.mergeSort (PySem.W.dataLe false id))) = _
    rw [h2]
  simp only [formsU, List.mem_cons, List.not_mem_nil, or_false] at h
  rcases h with rfl | rfl | rfl | rfl | rfl
  · exact go _ _ (by decide +kernel) (by simp [sK])
  · rw [show sK [kB] = [kB] by decide +kernel]
    exact go _ _ (by decide +kernel) (by simp)
  · rw [show sK [kW] = [kW] by decide +kernel]
    exact go _ _ (by decide +kernel) (by simp)
  · rw [show sK [kB, kW] = [kB, kW] by decide +kernel]
    exact go _ _ (by decide +kernel) (by simp [List.mergeSort, List.merge, le1, le2])
  · rw [show sK [kW, kB] = [kB, kW] by decide +kernel]
    exact go _ _ (by decide +kernel) (by simp [List.mergeSort, List.merge, le1, le2])
theorem pairsK_us : ∀ xs : List Str, pairsK (xs.map fun x => PyData.tuple [.str x, .bool true]) = some (xs.map fun x => (PyData.str x, PyData.bool true))
  | [] => rfl
  | x :: xs => by
    show (keyD (.str x)).bind (fun _ => (pairsK (xs.map fun x => PyData.tuple [.str x, .bool true])).map ((PyData.str x, PyData.bool true) :: ·)) = _
    rw [pairsK_us xs]; rfl
theorem dictPD_us (xs : List Str) : dictPD (.list (xs.map fun x => PyData.tuple [.str x, .bool true])) = some (.dict (kd (addAll [] xs))) := by
  show (pairsK (xs.map fun x => PyData.tuple [.str x, .bool true])).map _ = _
  rw [pairsK_us]
  show some (PyData.dict _) = _
  rw [← fold_kd]; rfl
/-- a row's kinds, as texts -/
def kStr : D → List Str
  | .tuple [_, _, _, .tuple ds, _] => ds.filterMap fun d => match d with | .str z => some z | _ => none
  | _ => []
theorem kStr_ok {h : Int} {r : D} (hr : RowOk h r) : ixD r (.int 3) = some (.tuple ((kStr r).map PyData.str)) ∧ (kStr r).length ≤ 2 ∧ ∀ x ∈ kStr r, x ∈ [kB, kW] := by
  obtain ⟨b, e, dd, kk, ww, rfl, _, _, _, _, _, _, hk, _⟩ := hr
  have ek : ∀ us : List Str, kStr (.tuple [.int b, .int e, dd, .tuple (us.map PyData.str), ww]) = us := fun us => by
    show (us.map PyData.str).filterMap _ = us
    rw [List.filterMap_map]
    exact List.filterMap_some
  have go : ∀ us : List Str, us.length ≤ 2 → (∀ x ∈ us, x ∈ [kB, kW]) → ixD (.tuple [.int b, .int e, dd, .tuple (us.map PyData.str), ww]) (.int 3) = some (.tuple ((kStr (.tuple [.int b, .int e, dd, .tuple (us.map PyData.str), ww])).map PyData.str)) ∧ (kStr (.tuple [.int b, .int e, dd, .tuple (us.map PyData.str), ww])).length ≤ 2 ∧ ∀ x ∈ kStr (.tuple [.int b, .int e, dd, .tuple (us.map PyData.str), ww]), x ∈ [kB, kW] := fun us h1 h2 => by
    rw [ek us]
    exact ⟨rfl, h1, h2⟩
  rcases hk with rfl | rfl | rfl | rfl
  · exact go [] (by decide) (by decide +kernel)
  · exact go [kW] (by decide) (by decide +kernel)
  · exact go [kB, kW] (by decide) (by decide +kernel)
  · exact go [kB] (by decide) (by decide +kernel)
def kAll (rows : List D) : List Str := rows.flatMap kStr
theorem kAll_ok {h : Int} : ∀ {rows : List D}, (∀ r ∈ rows, RowOk h r) → (kAll rows).length ≤ 2 * rows.length ∧ ∀ x ∈ kAll rows, x ∈ [kB, kW]
  | [], _ => ⟨by simp [kAll], by simp [kAll]⟩
  | r :: rows, hr => by
    obtain ⟨h1, h2⟩ := kAll_ok (rows := rows) fun r' h' => hr r' (List.mem_cons_of_mem _ h')
    obtain ⟨_, h3, h4⟩ := kStr_ok (hr r List.mem_cons_self)
    unfold kAll at *
    rw [List.flatMap_cons, List.length_append, List.length_cons]
    refine ⟨by omega, fun x hx => ?_⟩
    rcases List.mem_append.mp hx with hx | hx
    · exact h4 x hx
    · exact h2 x hx
/-- what is gone through: None and the kinds that are named -/
def KL (rows1 rows2 : List D) : List D := .none :: (sK (kAll rows1 ++ kAll rows2)).map PyData.str
theorem KL_swap (r1 r2 : List D) : KL r1 r2 = KL r2 r1 := by
  unfold KL
  have : ∀ x, x ∈ kAll r1 ++ kAll r2 ↔ x ∈ kAll r2 ++ kAll r1 := fun x => by
    simp only [List.mem_append]
    exact or_comm
  rw [sK_congr this]
theorem KL_ok (r1 r2 : List D) : ∀ k ∈ KL r1 r2, KindOk k := by
  intro k hk
  unfold KL sK at hk
  rcases List.mem_cons.mp hk with rfl | hk
  · exact .inl rfl
  · obtain ⟨x, hx, rfl⟩ := List.mem_map.mp hk
    rcases List.mem_append.mp hx with hx | hx
    · split at hx
      · rw [List.mem_singleton.mp hx]; exact .inr (.inr (.inl rfl))
      · cases hx
    · split at hx
      · rw [List.mem_singleton.mp hx]; exact .inr (.inl rfl)
      · cases hx
theorem KL_len (r1 r2 : List D) : (KL r1 r2).length ≤ 3 := by
  unfold KL sK
  rw [List.length_cons, List.length_map, List.length_append]
  split <;> split <;> simp
theorem sK_addAll (xs : List Str) : sK (addAll [] xs) = sK xs := sK_congr fun x => by
  rw [mem_addAll]; simp
theorem KL_is (r1 r2 : List D) : [PyData.none] ++ (sK (addAll [] (kAll r1 ++ kAll r2))).map PyData.str = KL r1 r2 := by
  rw [sK_addAll]; rfl
abbrev sgD (h : Int) (rows : List D) : D := .tuple [.int h, .tuple rows]
theorem keys_kd (us : List Str) : (kd us).map (·.1) = us.map PyData.str := by
  unfold kd
  rw [List.map_map]; rfl
theorem kind_loop_len {us : List Str} (h : us ∈ formsU) : (kd us).length < sizeLine := by
  have := forms_len h
  unfold kd
  rw [List.length_map, sizeLine_eq]; omega
theorem named_eq {h : Int} {r1 r2 : List D} (h1 : ∀ r ∈ r1, RowOk h r) (h2 : ∀ r ∈ r2, RowOk h r) : F_named [.tuple [sgD h r1, sgD h r2]] = .ok (.list (KL r1 r2)) [] := by
  have hU : addAll [] (kAll r1 ++ kAll r2) ∈ formsU := addAll_forms _ _ (by decide +kernel) fun x hx => by
    rcases List.mem_append.mp hx with hx | hx
    · exact (kAll_ok h1).2 x hx
    · exact (kAll_ok h2).2 x hx
  have hs := sortKD_kd hU
  have hK := KL_is r1 r2
  have hl : 1 + ((sK (addAll [] (kAll r1 ++ kAll r2))).map PyData.str).length ≤ sizeLine := by
    have := KL_len r1 r2
    rw [← hK, List.length_append, List.length_cons, List.length_nil] at this
    rw [sizeLine_eq]; omega
  refine fo_eq ?_
  unfold F_named
  rw [fwp_mk]
  simp! [B_named]
  refine wp_forL (fun rest e => ∃ (L : List (List D)) (us : List Str) (s2 s3 s4 s5 : Sl), rest = L.map (sgD h) ∧ (∀ rows ∈ L, ∀ r ∈ rows, RowOk h r) ∧ us ∈ formsU ∧ addAll us (L.flatMap kAll) = addAll [] (kAll r1 ++ kAll r2) ∧ e = [.fz (.tuple [sgD h r1, sgD h r2]), .op (.dict (kd us)), s2, s3, s4, s5]) ?_ ?_ _ _ ⟨[r1, r2], [], _, _, _, _, rfl, fun rows hr => ?_, by decide +kernel, by simp, rfl⟩
  · intro d rest e hI
    obtain ⟨L, us, s2, s3, s4, s5, hrest, hL, hus, hU2, he⟩ := hI
    cases L with
    | nil => cases hrest
    | cons rows L =>
    injection hrest with q1 q2
    rw [he, q1]
    simp! []
    refine wp_forL (fun rest2 e => ∃ (us : List Str) (s4 s5 : Sl), (∀ r ∈ rest2, RowOk h r) ∧ us ∈ formsU ∧ addAll us (kAll rest2 ++ L.flatMap kAll) = addAll [] (kAll r1 ++ kAll r2) ∧ e = [.fz (.tuple [sgD h r1, sgD h r2]), .op (.dict (kd us)), .fz (.int h), .fz (.tuple rows), s4, s5]) ?_ ?_ _ _ ⟨us, _, _, hL rows List.mem_cons_self, hus, by rw [← hU2, List.flatMap_cons], rfl⟩
    · intro r rest2 e hJ
      obtain ⟨us, s4, s5, hr, hus, hU3, he⟩ := hJ
      obtain ⟨k1, k2, k3⟩ := kStr_ok (hr r List.mem_cons_self)
      rw [he]
      simp! [k1]
      refine wp_forL (fun rest3 e => ∃ (us xs : List Str) (s5 : Sl), rest3 = xs.map PyData.str ∧ (∀ x ∈ xs, x ∈ [kB, kW]) ∧ us ∈ formsU ∧ addAll us (xs ++ (kAll rest2 ++ L.flatMap kAll)) = addAll [] (kAll r1 ++ kAll r2) ∧ e = [.fz (.tuple [sgD h r1, sgD h r2]), .op (.dict (kd us)), .fz (.int h), .fz (.tuple rows), .fz r, s5]) ?_ ?_ _ _ ⟨us, kStr r, _, rfl, k3, hus, by rw [← hU3]; unfold kAll; rw [List.flatMap_cons, List.append_assoc], rfl⟩
      · intro d rest3 e hM
        obtain ⟨us, xs, s5, hrest, hx, hus, hU4, he⟩ := hM
        cases xs with
        | nil => cases hrest
        | cons x xs =>
        injection hrest with q1 q2
        have hl := kind_loop_len hus
        rw [he, q1]
        simp! [hl, put_kd, kTurn_nx]
        exact ⟨addU us x, xs, _, q2, fun y hy => hx y (List.mem_cons_of_mem _ hy), forms_add us hus x (hx x List.mem_cons_self), by rw [← hU4]; rfl, rfl⟩
      · intro e hM
        obtain ⟨us, xs, s5, hrest, hx, hus, hU4, he⟩ := hM
        cases xs with
        | cons x xs => cases hrest
        | nil =>
        rw [he]
        simp only [kTurn_nx]
        exact ⟨us, _, _, fun r hr' => hr r (List.mem_cons_of_mem _ hr'), hus, hU4, rfl⟩
    · intro e hJ
      obtain ⟨us, s4, s5, hr, hus, hU3, he⟩ := hJ
      rw [he]
      simp only [kTurn_nx]
      exact ⟨L, us, _, _, _, _, q2, fun rows hr => hL rows (List.mem_cons_of_mem _ hr), hus, hU3, rfl⟩
  · intro e hI
    obtain ⟨L, us, s2, s3, s4, s5, hrest, hL, hus, hU2, he⟩ := hI
    cases L with
    | cons x xs => cases hrest
    | nil =>
    have hU3 : us = addAll [] (kAll r1 ++ kAll r2) := hU2
    rw [he, hU3]
    simp! [hs, hl]
    rw [← hK]
    simp! []
  · rcases List.mem_cons.mp hr with rfl | hr
    · exact h1
    · rcases List.mem_cons.mp hr with rfl | hr
      · exact h2
      · cases hr
structure SOk (h : Int) (rows : List D) : Prop where
  hl : rows.length ≤ 12
  hr : ∀ r ∈ rows, RowOk h r
theorem check_signs_eq {h : Int} {r1 r2 : List D} (hh : HoursOk h) (o1 : SOk h r1) (o2 : SOk h r2) : F_check_signs [sgD h r1, sgD h r2] = .ok .none [] := by
  have c1 := chk_sign (s := sgD h r1) hh ⟨r1, rfl, o1.hl, o1.hr⟩
  have c2 := chk_sign (s := sgD h r2) hh ⟨r2, rfl, o2.hl, o2.hr⟩
  refine fo_eq ?_
  unfold F_check_signs
  rw [fwp_mk]
  simp! [B_check_signs, c1, c2]
theorem reprD_of {d : D} (h1 : PyData.canLay0 d = true) (h2 : PyData.showable d = true) (h3 : PyData.depth d ≤ 60) (h4 : (PyData.shown d).length ≤ 5000) : ∃ z, reprD d = some (.str z) := by
  unfold reprD
  exact ⟨_, if_pos ⟨h1, h2, h3, by rw [sizeLine_eq]; omega⟩⟩

/-! ### what a sign tells, by its words -/
abbrev wrd (h : Int) (rows : List D) (k : D) (fs : List Int) (t : Int) : D := wordA h rows k (fs.map PyData.int) t
def eqb (w : D) : Bool := bIs true (eqD w (.str "barred"))
theorem words_eqb : ∀ w ∈ wordsL, isBo (eqD w (.str "barred")) = true := by
  have : (wordsL.all fun w => isBo (eqD w (.str "barred"))) = true := by decide +kernel
  intro w hw
  exact List.all_eq_true.mp this w hw
theorem word_eqb {w : D} (h : WordOk w) : eqD w (.str "barred") = some (.bool (eqb w)) := of_isBo (words_eqb w (words_in h))
theorem words_neb : ∀ w ∈ wordsL, (match neD w (.str "barred") with | some (.bool b) => b == !eqb w | _ => false) = true := by
  have : (wordsL.all fun w => (match neD w (.str "barred") with | some (.bool b) => b == !eqb w | _ => false)) = true := by decide +kernel
  intro w hw
  exact List.all_eq_true.mp this w hw
theorem word_neb {w : D} (h : WordOk w) : neD w (.str "barred") = some (.bool (!eqb w)) := by
  have := words_neb w (words_in h)
  split at this
  · rename_i b e
    rw [e, eq_of_beq this]
  · cases this
/-- whether a sign bars -/
def brd (h : Int) (rows : List D) (k : D) (fs : List Int) (t : Int) : Bool := eqb (wrd h rows k fs t)
theorem wrd_is {h : Int} {rows : List D} (hr : ∀ r ∈ rows, RowOk h r) (k : D) (fs : List Int) (t : Int) : wrd h rows k fs t = wordO (rowP h k t fun x => decide (x ∈ fs)) rows := word_is hr
/-- a nearest row of all hours, all kinds -/
def topR (w : D) : D := .tuple [.int 0, .int 0, .str "any", .tuple [], w]
theorem top_ok {h : Int} {w : D} (hh : HoursOk h) (hw : WordOk w) : RowOk h (topR w) := by
  have := hours_b hh
  exact ⟨0, 0, _, _, _, rfl, by omega, by omega, by omega, by omega, by rw [Int.sub_self, Int.zero_emod]; omega, .inl rfl, .inl rfl, hw⟩
theorem top_bears {h tick : Int} {kind w : D} {p : Int → Bool} : rowP h kind tick p (topR w) = true := by
  have n1 : np (.tuple []) = false := by decide +kernel
  unfold topR rowP
  have f : ∀ x y : Bool, fitV (.str "any") x y = true := by decide
  have z0 : decide ((0 : Int) ≠ 0) = false := rfl
  simp only [n1, f, z0, Bool.false_and, Bool.not_false, Bool.and_true]
theorem top_wrd {h : Int} {rows : List D} {w : D} (hh : HoursOk h) (hw : WordOk w) (hr : ∀ r ∈ rows, RowOk h r) (k : D) (fs : List Int) (t : Int) : wrd h (rows ++ [topR w]) k fs t = w := by
  have hr2 : ∀ r ∈ rows ++ [topR w], RowOk h r := fun r hx => (List.mem_append.mp hx).elim (hr r) fun q => by rw [List.mem_singleton.mp q]; exact top_ok hh hw
  rw [wrd_is hr2]
  unfold wordO
  rw [lastW_app, lastW_one, top_bears, if_pos rfl]
  rfl
/-- a kind that no row names is told as none -/
theorem kind_row {h tick : Int} {p : Int → Bool} {r : D} {x : Str} (hx : x = kB ∨ x = kW) (hr : RowOk h r) (hn : x ∉ kStr r) : rowP h (.str x) tick p r = rowP h .none tick p r := by
  obtain ⟨b, e, dd, kk, ww, rfl, _, _, _, _, _, _, hk, _⟩ := hr
  have ek : ∀ us : List Str, kStr (.tuple [.int b, .int e, dd, .tuple (us.map PyData.str), ww]) = us := fun us => by
    show (us.map PyData.str).filterMap _ = us
    rw [List.filterMap_map]
    exact List.filterMap_some
  have e2 : ∀ k kk, rowP h k tick p (.tuple [.int b, .int e, dd, kk, ww]) = (!(np kk && nq k kk) && (!(decide (b ≠ e) && decide ((e - b) % (7 * h) ≤ agoI h b e tick)) && fitV dd (p ((tick - agoI h b e tick) / h)) (p ((tick - agoI h b e tick) / h + 1)))) := fun _ _ => rfl
  have go : (np kk && nq (.str x) kk) = (np kk && nq .none kk) := by
    rcases hk with rfl | rfl | rfl | rfl
    · rcases hx with rfl | rfl <;> decide +kernel
    · rcases hx with rfl | rfl
      · decide +kernel
      · exact absurd (show kW ∈ kStr (.tuple [.int b, .int e, dd, .tuple ([kW].map PyData.str), ww]) from by rw [ek]; exact List.mem_singleton.mpr rfl) hn
    · rcases hx with rfl | rfl
      · exact absurd (show kB ∈ kStr (.tuple [.int b, .int e, dd, .tuple ([kB, kW].map PyData.str), ww]) from by rw [ek]; exact List.mem_cons_self) hn
      · exact absurd (show kW ∈ kStr (.tuple [.int b, .int e, dd, .tuple ([kB, kW].map PyData.str), ww]) from by rw [ek]; exact List.mem_cons_of_mem _ List.mem_cons_self) hn
    · rcases hx with rfl | rfl
      · exact absurd (show kB ∈ kStr (.tuple [.int b, .int e, dd, .tuple ([kB].map PyData.str), ww]) from by rw [ek]; exact List.mem_singleton.mpr rfl) hn
      · decide +kernel
  rw [e2, e2, go]
theorem find_congr {α : Type} {f g : α → Bool} : ∀ {l : List α}, (∀ a ∈ l, f a = g a) → l.find? f = l.find? g
  | [], _ => rfl
  | a :: l, h => by
    rw [List.find?_cons, List.find?_cons, h a List.mem_cons_self, find_congr fun b hb => h b (List.mem_cons_of_mem _ hb)]
theorem kind_wrd {h : Int} {rows : List D} {x : Str} (hx : x = kB ∨ x = kW) (hr : ∀ r ∈ rows, RowOk h r) (hn : x ∉ kAll rows) (fs : List Int) (t : Int) : wrd h rows (.str x) fs t = wrd h rows .none fs t := by
  rw [wrd_is hr, wrd_is hr]
  unfold wordO lastW
  rw [find_congr fun r hm => kind_row hx (hr r (List.mem_reverse.mp hm)) fun q => hn (List.mem_flatMap.mpr ⟨r, List.mem_reverse.mp hm, q⟩)]
/-- the last tick that a begin may reach -/
def lastI (h b : Int) (w : D) : Int := match w with
  | .tuple (.int a :: _) => if b + a < b + 14 * h then b + a else b + 14 * h
  | _ => b + 14 * h
theorem last_b {h b : Int} {w : D} (h1 : 1 ≤ h) (hw : WordOk w) : b ≤ lastI h b w ∧ lastI h b w ≤ b + (14 * h).toNat := by
  rcases hw with rfl | rfl | rfl | ⟨a, c, rfl, h1, h2, h3, h4⟩
  · show b ≤ b + 14 * h ∧ b + 14 * h ≤ b + (14 * h).toNat
    omega
  · show b ≤ b + 14 * h ∧ b + 14 * h ≤ b + (14 * h).toNat
    omega
  · show b ≤ b + 14 * h ∧ b + 14 * h ≤ b + (14 * h).toNat
    omega
  · unfold lastI
    dsimp only
    split <;> omega
end Vk21

namespace Vk21
open PySem PySem.Spec PyProof.Rows L2 ZZ
/-! ### dicts from whole numbers to whole numbers -/
def dI (ks : List (Int × Int)) : List (D × D) := ks.map fun p => (.int p.1, .int p.2)
theorem eqv_ii (i j : Int) : PyData.eqv (.int i) (.int j) = decide (i = j) := eqv_i i j
theorem dI_put {ks : List (Int × Int)} {k : Int} (v : Int) (h : ∀ p ∈ ks, p.1 ≠ k) : putD (dI ks) (.int k) (.int v) = dI (ks ++ [(k, v)]) := by
  have any : ((dI ks).any fun p => PyData.eqv p.1 (.int k)) = false := by
    rw [List.any_eq_false]
    intro p hp
    obtain ⟨q, hq, rfl⟩ := List.mem_map.mp hp
    show ¬ PyData.eqv (.int q.1) (.int k) = true
    rw [eqv_ii, decide_eq_false (h q hq)]
    exact Bool.false_ne_true
  unfold putD
  rw [any, if_neg Bool.false_ne_true]
  unfold dI
  rw [List.map_append]; rfl
theorem dI_get (ks : List (Int × Int)) (k : Int) : getK (dI ks) (.int k) = (ks.find? fun p => decide (p.1 = k)).map fun p => .int p.2 := by
  unfold getK dI
  rw [List.find?_map, Option.map_map]
  have e : ((fun p : D × D => PyData.eqv p.1 (.int k)) ∘ fun p : Int × Int => ((PyData.int p.1, PyData.int p.2) : D × D)) = fun p : Int × Int => decide (p.1 = k) := by
    funext p
    exact eqv_ii p.1 k
  rw [e]; rfl
theorem dI_ix (ks : List (Int × Int)) (k : Int) : ixD (.dict (dI ks)) (.int k) = getK (dI ks) (.int k) := rfl
theorem dI_len (ks : List (Int × Int)) : (dI ks).length = ks.length := by unfold dI; rw [List.length_map]
/-- from the last one downward -/
def nbK (P : Int → Bool) (hi : Int) : Nat → List (Int × Int)
  | 0 => []
  | j + 1 => nbK P hi j ++ [(hi - 1 - (j : Nat), nextB P (hi - 1 - (j : Nat)) (j + 1))]
theorem nbK_len (P : Int → Bool) (hi : Int) : ∀ j, (nbK P hi j).length = j
  | 0 => rfl
  | j + 1 => by unfold nbK; rw [List.length_append, nbK_len P hi j]; rfl
theorem nbK_key {P : Int → Bool} {hi : Int} : ∀ {j : Nat}, ∀ p ∈ nbK P hi j, hi - (j : Nat) ≤ p.1 ∧ p.1 < hi
  | 0, p, h => by cases h
  | j + 1, p, h => by
    unfold nbK at h
    rcases List.mem_append.mp h with h | h
    · have := nbK_key p h; omega
    · rw [List.mem_singleton.mp h]
      dsimp only
      omega
theorem nbK_get {P : Int → Bool} {hi t : Int} : ∀ {j : Nat}, hi - (j : Nat) ≤ t → t < hi → ((nbK P hi j).find? fun p => decide (p.1 = t)) = some (t, nextB P t (hi - t).toNat)
  | 0, h1, h2 => by omega
  | j + 1, h1, h2 => by
    unfold nbK
    rw [List.find?_append]
    by_cases e : t = hi - 1 - (j : Nat)
    · have hn : ((nbK P hi j).find? fun p => decide (p.1 = t)) = none := by
        rw [List.find?_eq_none]
        intro p hp
        have := nbK_key p hp
        rw [decide_eq_true_eq]
        omega
      rw [hn, List.find?_cons, show decide (hi - 1 - (j : Nat) = t) = true from decide_eq_true e.symm]
      have : (hi - t).toNat = j + 1 := by omega
      rw [this, e]; rfl
    · rw [nbK_get (by omega) h2]; rfl
/-- upward -/
def enK (f : Int → Int) (lo : Int) : Nat → List (Int × Int)
  | 0 => []
  | j + 1 => enK f lo j ++ [(lo + (j : Nat), f (lo + (j : Nat)))]
theorem enK_len (f : Int → Int) (lo : Int) : ∀ j, (enK f lo j).length = j
  | 0 => rfl
  | j + 1 => by unfold enK; rw [List.length_append, enK_len f lo j]; rfl
theorem enK_key {f : Int → Int} {lo : Int} : ∀ {j : Nat}, ∀ p ∈ enK f lo j, lo ≤ p.1 ∧ p.1 < lo + (j : Nat)
  | 0, p, h => by cases h
  | j + 1, p, h => by
    unfold enK at h
    rcases List.mem_append.mp h with h | h
    · have := enK_key p h; omega
    · rw [List.mem_singleton.mp h]
      dsimp only
      omega
theorem enK_get {f : Int → Int} {lo t : Int} : ∀ {j : Nat}, lo ≤ t → t < lo + (j : Nat) → ((enK f lo j).find? fun p => decide (p.1 = t)) = some (t, f t)
  | 0, h1, h2 => by omega
  | j + 1, h1, h2 => by
    unfold enK
    rw [List.find?_append]
    by_cases e : t = lo + (j : Nat)
    · have hn : ((enK f lo j).find? fun p => decide (p.1 = t)) = none := by
        rw [List.find?_eq_none]
        intro p hp
        have := enK_key p hp
        rw [decide_eq_true_eq]
        omega
      rw [hn, List.find?_cons, show decide (lo + (j : Nat) = t) = true from decide_eq_true e.symm, e]; rfl
    · rw [enK_get h1 (by omega)]; rfl
theorem enK_keys (f : Int → Int) (lo : Int) : ∀ j, (dI (enK f lo j)).map (·.1) = ((List.range j).map fun i => lo + ((i : Nat) : Int)).map PyData.int
  | 0 => rfl
  | j + 1 => by
    unfold enK dI
    rw [List.map_append, List.map_append]
    have := enK_keys f lo j
    unfold dI at this
    rw [this, List.range_succ, List.map_append, List.map_append]; rfl
theorem rngC_cons {a c : Int} {n j : Nat} (hj : j < n) : (rngC a c n).drop j = .int (a + (j : Nat) * c) :: (rngC a c n).drop (j + 1) := by
  unfold rngC
  have hl : j < ((List.range n).map fun i => PyData.int (a + ((i : Nat) : Int) * c)).length := by rw [List.length_map, List.length_range]; exact hj
  rw [List.drop_eq_getElem_cons hl]
  congr 1
  rw [List.getElem_map, List.getElem_range]
theorem rngC_fin {a c : Int} {n j : Nat} (h : [] = (rngC a c n).drop j) : n ≤ j := by
  have := congrArg List.length h
  unfold rngC at this
  rw [List.length_drop, List.length_map, List.length_range, List.length_nil] at this
  omega
theorem next_barred_eq {h lo hi : Int} {rows : List D} {k : D} {fs : List Int} (hh : HoursOk h) (o : SOk h rows) (hk : KindOk k) (h0 : 0 ≤ lo) (h1 : lo ≤ hi) (h2 : hi ≤ 5000) :
    F_next_barred [sgD h rows, k, .tuple (fs.map PyData.int), .int lo, .int hi] = .ok (.dict (dI (nbK (brd h rows k fs) hi (hi - lo).toNat))) [] := by
  have hrg : rg3 [.int (hi - 1), .int (lo - 1), .int (-1)] = some (rngC (hi - 1) (-1) (hi - lo).toNat) := by
    simp only [rg3, rOk_s (a := hi - 1) (by omega), rOk_s (a := lo - 1) (by omega), and_self, if_true]
    rw [show hi - 1 - (lo - 1) = hi - lo by omega]
  refine fo_eq ?_
  unfold F_next_barred
  rw [fwp_mk]
  simp! [B_next_barred, hrg]
  refine wp_forL (fun rest e => ∃ (j : Nat) (s7 : Sl), j ≤ (hi - lo).toNat ∧ rest = (rngC (hi - 1) (-1) (hi - lo).toNat).drop j ∧ e = [.fz (sgD h rows), .fz k, .fz (.tuple (fs.map PyData.int)), .fz (.int lo), .fz (.int hi), .op (.dict (dI (nbK (brd h rows k fs) hi j))), .fz (.int (nextB (brd h rows k fs) (hi - (j : Nat)) j)), s7]) ?_ ?_ _ _ ⟨0, .un, by omega, rfl, ?_⟩
  · intro d rest e hI
    obtain ⟨j, s7, hj, hrest, he⟩ := hI
    have hj2 : j < (hi - lo).toNat := by
      refine Nat.lt_of_not_le fun hle => ?_
      have e0 : (rngC (hi - 1) (-1) (hi - lo).toNat).drop j = [] := List.drop_eq_nil_of_le (by unfold rngC; rw [List.length_map, List.length_range]; exact hle)
      rw [e0] at hrest; cases hrest
    rw [rngC_cons hj2] at hrest
    injection hrest with q1 q2
    have et : hi - 1 + (j : Int) * (-1) = hi - 1 - (j : Nat) := by omega
    rw [et] at q1
    have ht := told_at_eq (h := h) (tick := hi - 1 - (j : Nat)) (fs := fs) hh o.hl o.hr hk
    have hw := told_w (h := h) (tick := hi - 1 - (j : Nat)) (kind := k) (fs := fs.map PyData.int) o.hr
    have hb := word_eqb hw.2
    have hp : eqb (wordA h rows k (fs.map PyData.int) (hi - 1 - (j : Nat))) = brd h rows k fs (hi - 1 - (j : Nat)) := rfl
    rw [hp] at hb
    have hput := dI_put (ks := nbK (brd h rows k fs) hi j) (k := hi - 1 - (j : Nat)) (nextB (brd h rows k fs) (hi - 1 - (j : Nat)) (j + 1)) fun p hp z => by
      have := nbK_key p hp
      omega
    have hl : (dI (nbK (brd h rows k fs) hi j)).length < sizeLine := by rw [dI_len, nbK_len, sizeLine_eq]; omega
    have hn : nextB (brd h rows k fs) (hi - 1 - (j : Nat)) (j + 1) = if brd h rows k fs (hi - 1 - (j : Nat)) = true then hi - 1 - (j : Nat) else nextB (brd h rows k fs) (hi - (j : Nat)) j := by
      show (if _ then _ else nextB _ (hi - 1 - (j : Nat) + 1) j) = _
      rw [show hi - 1 - (j : Int) + 1 = hi - (j : Nat) by omega]
    have hfin : ∀ (x : Int), x = nextB (brd h rows k fs) (hi - 1 - (j : Nat)) (j + 1) → ∃ (j' : Nat) (s7 : Sl), j' ≤ (hi - lo).toNat ∧ rest = (rngC (hi - 1) (-1) (hi - lo).toNat).drop j' ∧ ([.fz (sgD h rows), .fz k, .fz (.tuple (fs.map PyData.int)), .fz (.int lo), .fz (.int hi), .op (.dict (dI (nbK (brd h rows k fs) hi j ++ [(hi - 1 - (j : Nat), x)]))), .fz (.int x), .fz (.int (hi - 1 - (j : Nat)))] : En) = [.fz (sgD h rows), .fz k, .fz (.tuple (fs.map PyData.int)), .fz (.int lo), .fz (.int hi), .op (.dict (dI (nbK (brd h rows k fs) hi j'))), .fz (.int (nextB (brd h rows k fs) (hi - (j' : Nat)) j')), s7] := fun x hx => by
      refine ⟨j + 1, .fz (.int (hi - 1 - (j : Nat))), by omega, q2, ?_⟩
      rw [hx, show hi - ((j + 1 : Nat) : Int) = hi - 1 - (j : Nat) by omega]
      rfl
    rw [he, q1]
    cases hc : brd h rows k fs (hi - 1 - (j : Nat)) with
    | true =>
      rw [hc, if_pos rfl] at hn
      rw [hn] at hput
      rw [hc] at hb
      simp! [ht, hw.1, hb, hl, hput, kTurn_nx]
      exact hfin _ hn.symm
    | false =>
      rw [hc, if_neg Bool.false_ne_true] at hn
      rw [hn] at hput
      rw [hc] at hb
      simp! [ht, hw.1, hb, hl, hput, kTurn_nx]
      exact hfin _ hn.symm
  · intro e hI
    obtain ⟨j, s7, hj, hrest, he⟩ := hI
    have := rngC_fin hrest
    obtain rfl : j = (hi - lo).toNat := by omega
    rw [he]
    simp! []
  · rw [show hi - ((0 : Nat) : Int) = hi by omega]; rfl
end Vk21

namespace Vk21
open PySem PySem.Spec PyProof.Rows L2 ZZ
/-! ### the end of a begin -/
def finI (h : Int) (rows : List D) (k : D) (fs : List Int) (b : Int) : Int := nextB (brd h rows k fs) b (lastI h b (wrd h rows k fs b) - b).toNat
theorem wrd_ok {h : Int} {rows : List D} (o : SOk h rows) (k : D) (fs : List Int) (t : Int) : WordOk (wrd h rows k fs t) := (told_w (h := h) (tick := t) (kind := k) (fs := fs.map PyData.int) o.hr).2
theorem fin_b {h b : Int} {rows : List D} (h1 : 1 ≤ h) (o : SOk h rows) (k : D) (fs : List Int) : b ≤ finI h rows k fs b ∧ finI h rows k fs b ≤ b + 14 * h := by
  have h2 := last_b (b := b) h1 (wrd_ok o k fs b)
  have a1 := nextB_ge (brd h rows k fs) (lastI h b (wrd h rows k fs b) - b).toNat b
  have a2 := nextB_le (brd h rows k fs) (lastI h b (wrd h rows k fs b) - b).toNat b
  unfold finI
  omega
/-- the same from a longer look ahead -/
theorem fin_min {h b : Int} {rows : List D} (h1 : 1 ≤ h) (o : SOk h rows) (k : D) (fs : List Int) {n : Nat} (hn : (14 * h).toNat ≤ n) :
    (if nextB (brd h rows k fs) b n < lastI h b (wrd h rows k fs b) then nextB (brd h rows k fs) b n else lastI h b (wrd h rows k fs b)) = finI h rows k fs b := by
  have h2 := last_b (b := b) h1 (wrd_ok o k fs b)
  unfold finI
  rw [nextB_min (m := (lastI h b (wrd h rows k fs b) - b).toNat) (n := n) (by omega)]
  have e : b + ((lastI h b (wrd h rows k fs b) - b).toNat : Int) = lastI h b (wrd h rows k fs b) := by omega
  rw [e]
theorem tup_s (z : Str) : isiT "tuple" (tyD (.str z)) = false := by show isiT "tuple" "str" = false; decide
theorem tup_t (ds : List D) : isiT "tuple" (tyD (.tuple ds)) = true := by show isiT "tuple" "tuple" = true; decide
theorem end_of_eq {h b x : Int} {rows : List D} {k : D} {fs : List Int} {bars : List (D × D)} (hh : HoursOk h) (o : SOk h rows) (hk : KindOk k) (hb0 : 0 ≤ b) (hb1 : b ≤ 5000) (hx : ixD (.dict bars) (.int b) = some (.int x)) :
    F_end_of [sgD h rows, k, .int b, .tuple (fs.map PyData.int), .dict bars] = .ok (.int (if x < lastI h b (wrd h rows k fs b) then x else lastI h b (wrd h rows k fs b))) [] := by
  have hb := hours_b hh
  have ht := told_at_eq (h := h) (tick := b) (fs := fs) hh o.hl o.hr hk
  have hw := told_w (h := h) (tick := b) (kind := k) (fs := fs.map PyData.int) o.hr
  have m14 := mulOk_l (i := 14) (j := h) (by omega)
  have m27 := mulOk_l (i := 2) (j := 7) (by omega)
  have w2 := hw.1
  have w3 := hw.2
  refine fo_eq ?_
  unfold F_end_of
  rw [fwp_mk]
  unfold wrd
  generalize wordA h rows k (fs.map PyData.int) b = w at *
  rcases w3 with rfl | rfl | rfl | ⟨a, c, rfl, a1, a2, a3, a4⟩
  · simp! [B_end_of, ht, w2, m14, m27, tup_s, hx]
    rfl
  · simp! [B_end_of, ht, w2, m14, m27, tup_s, hx]
    rfl
  · simp! [B_end_of, ht, w2, m14, m27, tup_s, hx]
    rfl
  · simp! [B_end_of, ht, w2, m14, m27, tup_t, hx]
    rfl
theorem ends_of_eq {h lo hi : Int} {rows : List D} {k : D} {fs : List Int} (hh : HoursOk h) (o : SOk h rows) (hk : KindOk k) (h0 : 0 ≤ lo) (h1 : lo ≤ hi) (h2 : hi ≤ 3000) :
    F_ends_of [sgD h rows, k, .tuple (fs.map PyData.int), .int lo, .int hi] = .ok (.dict (dI (enK (finI h rows k fs) lo (hi - lo).toNat))) [] := by
  have hb := hours_b hh
  have hnb := next_barred_eq (fs := fs) (lo := lo) (hi := hi + 14 * h) hh o hk h0 (by omega) (by omega)
  have m14 := mulOk_l (i := 14) (j := h) (by omega)
  have m27 := mulOk_l (i := 2) (j := 7) (by omega)
  have hrng := rng_ints lo hi
  refine fo_eq ?_
  unfold F_ends_of
  rw [fwp_mk]
  simp! [B_ends_of, m14, m27, hnb, rOk_s (a := lo) (by omega), rOk_s (a := hi) (by omega)]
  refine kDc_of (fun rest acc e => ∃ (j : Nat), j ≤ (hi - lo).toNat ∧ rest = (rng lo hi).drop j ∧ acc = dI (enK (finI h rows k fs) lo j) ∧ e = [.fz (sgD h rows), .fz k, .fz (.tuple (fs.map PyData.int)), .fz (.int lo), .fz (.int hi), .fz (.dict (dI (nbK (brd h rows k fs) (hi + 14 * h) (hi + 14 * h - lo).toNat))), .un]) ⟨0, by omega, rfl, rfl, rfl⟩ ?_ ?_
  · intro d rest acc e hI
    obtain ⟨j, hj, hrest, hacc, he⟩ := hI
    obtain ⟨q1, q2, hj2⟩ := rng_drop_cons hrest.symm
    have hx : ixD (.dict (dI (nbK (brd h rows k fs) (hi + 14 * h) (hi + 14 * h - lo).toNat))) (.int (lo + (j : Nat))) = some (.int (nextB (brd h rows k fs) (lo + (j : Nat)) (hi + 14 * h - (lo + (j : Nat))).toNat)) := by
      rw [dI_ix, dI_get, nbK_get (by omega) (by omega)]; rfl
    have he2 := end_of_eq (b := lo + (j : Nat)) (fs := fs) hh o hk (by omega) (by omega) hx
    rw [fin_min (by omega) o k fs (by omega)] at he2
    have hput := dI_put (ks := enK (finI h rows k fs) lo j) (k := lo + (j : Nat)) (finI h rows k fs (lo + (j : Nat))) fun p hp z => by
      have := enK_key p hp
      omega
    have hl : (dI (enK (finI h rows k fs) lo j)).length < sizeLine := by rw [dI_len, enK_len, sizeLine_eq]; omega
    rw [he, q1]
    simp! [he2, kDk_ap, kDv_ap]
    rw [hacc]
    exact ⟨hl, j + 1, by omega, q2, hput⟩
  · intro acc e hI
    obtain ⟨j, hj, hrest, hacc, he⟩ := hI
    have := rng_drop_nil hrest.symm
    obtain rfl : j = (hi - lo).toNat := by omega
    rw [he, hacc]
    simp! []
theorem lawful_end_eq {h b : Int} {rows : List D} {k : D} {fs : List Int} (hh : HoursOk h) (o : SOk h rows) (hk : KindOk k) (hf : FeastsOk (.tuple (fs.map PyData.int))) (h0 : 0 ≤ b) (h1 : b ≤ 2000) :
    F_lawful_end [sgD h rows, k, .int b, .tuple (fs.map PyData.int)] = .ok (.int (finI h rows k fs b)) [] := by
  have c1 := chk_sign (s := sgD h rows) hh ⟨rows, rfl, o.hl, o.hr⟩
  have c2 := chk_kind hk
  have c3 := chk_tick (t := b) h0 (by omega)
  have c4 := chk_feasts hf
  have he := ends_of_eq (fs := fs) (lo := b) (hi := b + 1) hh o hk h0 (by omega) (by omega)
  have hx : ixD (.dict (dI (enK (finI h rows k fs) b (b + 1 - b).toNat))) (.int b) = some (.int (finI h rows k fs b)) := by
    rw [dI_ix, dI_get, enK_get (by omega) (by omega)]; rfl
  refine fo_eq ?_
  unfold F_lawful_end
  rw [fwp_mk]
  simp! [B_lawful_end, c1, c2, c3, c4, he, hx]
theorem law_end_eq {h b : Int} {rows : List D} {k : D} {fs : List Int} (hh : HoursOk h) (o : SOk h rows) (hk : KindOk k) (h0 : 0 ≤ b) (h1 : b ≤ 2000) :
    F__law_end [sgD h rows, k, .int b, .tuple (fs.map PyData.int)] = .ok (.int (finI h rows k fs b)) [] := by
  have hb := hours_b hh
  have ht := law_told_eq (h := h) (tick := b) (fs := fs) hh o.hl o.hr hk
  have hw := told_w (h := h) (tick := b) (kind := k) (fs := fs.map PyData.int) o.hr
  have m7 := mulOk_l (i := 7) (j := h) (by omega)
  have m27 := mulOk_l (i := 2) (j := 7 * h) (by omega)
  have e14 : 2 * (7 * h) = 14 * h := by omega
  have hlb := last_b (b := b) hb.1 (wrd_ok o k fs b)
  have loop : ∀ (w : D) (s4 : Sl), Wp (whlN (ZZ.andM (boolOf (ZZ.bin ltD (vr 5) (vr 7))) (boolOf (ZZ.bin neD (ZZ.bin ixD (callM F__law_told [.v (vr 0), .v (vr 1), .v (vr 5), .v (vr 3)]) (ZZ.ret (.int 0))) (ZZ.ret (.str "barred"))))) (sAsg (setN 5) (ZZ.bin addD (vr 5) (ZZ.ret (.int 1)))) FUEL) [.fz (sgD h rows), .fz k, .fz (.int b), .fz (.tuple (fs.map PyData.int)), s4, .fz (.int b), .fz (.int (7 * h)), .fz (.int (lastI h b (wrd h rows k fs b)))] (kSeq (sRet (una ZZ.intD (vr 5))) (endF [false, false, false, false] fun d os => d = .int (finI h rows k fs b) ∧ os = [])) := fun w s4 => by
    refine wp_whl (fun m e => ∃ x : Int, b ≤ x ∧ x ≤ lastI h b (wrd h rows k fs b) ∧ m = (lastI h b (wrd h rows k fs b) - x).toNat ∧ (∀ s, b ≤ s → s < x → brd h rows k fs s = false) ∧ e = [.fz (sgD h rows), .fz k, .fz (.int b), .fz (.tuple (fs.map PyData.int)), s4, .fz (.int x), .fz (.int (7 * h)), .fz (.int (lastI h b (wrd h rows k fs b)))]) _ ⟨b, by omega, hlb.1, rfl, fun s q1 q2 => by omega, rfl⟩ (by omega) ?_
    intro m e hI
    obtain ⟨x, x0, x1, hm, hno, he⟩ := hI
    rw [he]
    have ht2 := law_told_eq (h := h) (tick := x) (fs := fs) hh o.hl o.hr hk
    have hw2 := told_w (h := h) (tick := x) (kind := k) (fs := fs.map PyData.int) o.hr
    have hn := word_neb hw2.2
    have hp : eqb (wordA h rows k (fs.map PyData.int) x) = brd h rows k fs x := rfl
    rw [hp] at hn
    have hfin : (x = lastI h b (wrd h rows k fs b) ∨ brd h rows k fs x = true) → finI h rows k fs b = x := fun q => nextB_eq x0 (by omega) hno fun r => by
      rcases q with q | q
      · omega
      · exact q
    by_cases c : x < lastI h b (wrd h rows k fs b)
    · have c' := decide_eq_true c
      cases hc : brd h rows k fs x with
      | true =>
        rw [hc] at hn
        simp! [c', ht2, hw2.1, hn, kWhl_f]
        rw [hfin (.inr hc)]
      | false =>
        rw [hc] at hn
        simp! [c', ht2, hw2.1, hn, kWhl_t, kTurn_nx]
        exact ⟨_, by rw [hm]; exact (by omega : (lastI h b (wrd h rows k fs b) - (x + 1)).toNat < (lastI h b (wrd h rows k fs b) - x).toNat), x + 1, by omega, by omega, rfl, fun s q1 q2 => by
          by_cases e : s = x
          · rw [e]; exact hc
          · exact hno s q1 (by omega), rfl⟩
    · have c' := decide_eq_false c
      simp! [c', kWhl_f]
      rw [hfin (.inl (by omega))]
  have w2 := hw.1
  have w3 := hw.2
  refine fo_eq ?_
  unfold F__law_end
  rw [fwp_mk]
  have lp := loop (wrd h rows k fs b)
  have hwd : wrd h rows k fs b = wordA h rows k (fs.map PyData.int) b := rfl
  rw [hwd] at lp
  generalize finI h rows k fs b = z at *
  generalize wordA h rows k (fs.map PyData.int) b = w at *
  rcases w3 with rfl | rfl | rfl | ⟨a, c, rfl, a1, a2, a3, a4⟩
  · simp! [B__law_end, ht, w2, m7, m27, tup_s, e14]
    exact lp _
  · simp! [B__law_end, ht, w2, m7, m27, tup_s, e14]
    exact lp _
  · simp! [B__law_end, ht, w2, m7, m27, tup_s, e14]
    exact lp _
  · simp! [B__law_end, ht, w2, m7, m27, tup_t, e14]
    exact lp _
end Vk21

namespace Vk21
open PySem PySem.Spec PyProof.Rows L2 ZZ
abbrev IL (ls : List Int) : List D := ls.map PyData.int
theorem rngL_app {a b c : Int} (h1 : a ≤ b) (h2 : b ≤ c) : rngL a c = rngL a b ++ rngL b c := by
  unfold rngL
  have e : (c - a).toNat = (b - a).toNat + (c - b).toNat := by omega
  rw [e, List.range_add, List.map_append, List.map_map]
  congr 1
  refine List.map_congr_left fun i _ => ?_
  show a + (((b - a).toNat + i : Nat) : Int) = b + (i : Nat)
  omega
theorem rngL_one (a : Int) : rngL a (a + 1) = [a] := by
  unfold rngL
  rw [show (a + 1 - a).toNat = 1 by omega]
  simp
theorem rngL_cons {s b : Int} {d : D} {rest : List D} (h : d :: rest = IL (rngL s b)) : s < b ∧ d = .int s ∧ rest = IL (rngL (s + 1) b) := by
  by_cases hs : s < b
  · have e : rngL s b = [s] ++ rngL (s + 1) b := by rw [rngL_app (by omega : s ≤ s + 1) (by omega : s + 1 ≤ b), rngL_one]
    rw [e] at h
    injection h with h1 h2
    exact ⟨hs, h1, h2⟩
  · have e : rngL s b = [] := by
      unfold rngL
      rw [show (b - s).toNat = 0 by omega]; rfl
    rw [e] at h; cases h
theorem rngL_fin {s b : Int} (h : [] = IL (rngL s b)) : b ≤ s := by
  have := congrArg List.length h
  rw [List.length_map, rngL_len, List.length_nil] at this
  omega
theorem filter_none {α : Type} {p : α → Bool} {l : List α} (h : ∀ x ∈ l, p x = false) : l.filter p = [] := by
  rw [List.filter_eq_nil_iff]
  intro x hx
  rw [h x hx]
  exact Bool.false_ne_true
/-! ### a change of signs -/
def chg (h : Int) (old new : List D) (k : D) (fs : List Int) (hh : HoursOk h) (o : SOk h old) : Chg where
  P := brd h old k fs
  Q := brd h new k fs
  L := fun b => lastI h b (wrd h old k fs b)
  N := (14 * h).toNat
  hL := fun b => last_b (hours_b hh).1 (wrd_ok o k fs b)
def barI (h : Int) (new : List D) (k : D) (fs : List Int) (t : Int) : Int := nextB (brd h new k fs) t (14 * h).toNat
def exB (h : Int) (old new : List D) (k : D) (fs : List Int) (t b : Int) : Bool := decide (barI h new k fs t < finI h old k fs b)
theorem ex_is {h : Int} {old new : List D} {k : D} {fs : List Int} (hh : HoursOk h) (o : SOk h old) (t b : Int) : (chg h old new k fs hh o).ex t b = exB h old new k fs t b := rfl
def exL (h : Int) (old new : List D) (k : D) (fs : List Int) (t : Int) : List Int := (rngL 0 t).filter (exB h old new k fs t)
theorem ex_low {h : Int} {old new : List D} {k : D} {fs : List Int} (hh : HoursOk h) (o : SOk h old) {t b : Int} (hb : b < t) (hx : exB h old new k fs t b = true) : t - 14 * h < b ∧ barI h new k fs t < t + 14 * h := by
  have := Chg.ex_spec (c := chg h old new k fs hh o) hb hx
  have h1 := (hours_b hh).1
  have e : ((14 * h).toNat : Int) = 14 * h := by omega
  have h2 : t - ((14 * h).toNat : Int) < b := this.1
  have h3 : barI h new k fs t < t + ((14 * h).toNat : Int) := this.2
  omega
/-- those of the last two weeks alone -/
theorem ex_from {h : Int} {old new : List D} {k : D} {fs : List Int} (hh : HoursOk h) (o : SOk h old) {t lo : Int} (h0 : 0 ≤ lo) (h1 : lo ≤ t) (h2 : lo ≤ t - 14 * h ∨ lo = 0) : (rngL lo t).filter (exB h old new k fs t) = exL h old new k fs t := by
  unfold exL
  rw [rngL_app h0 h1, List.filter_append, filter_none (l := rngL 0 lo) fun b hb => ?_, List.nil_append]
  obtain ⟨b0, b1⟩ := mem_rngL.mp hb
  cases hc : exB h old new k fs t b with
  | false => rfl
  | true =>
    have := ex_low hh o (by omega) hc
    omega
theorem exposed_begins_eq {h t : Int} {old new : List D} {k : D} {fs : List Int} (hh : HoursOk h) (o : SOk h old) (o2 : SOk h new) (hk : KindOk k) (t0 : 0 ≤ t) (t1 : t ≤ 2000) :
    F_exposed_begins [sgD h old, sgD h new, .int t, k, .tuple (fs.map PyData.int)] = .ok (.list (IL (exL h old new k fs t))) [] := by
  have hb := hours_b hh
  have m7 := mulOk_l (i := 7) (j := h) (by omega)
  have m27 := mulOk_l (i := 2) (j := 7 * h) (by omega)
  have e14 : 2 * (7 * h) = 14 * h := by omega
  have hnb := next_barred_eq (fs := fs) (lo := t) (hi := t + 14 * h) hh o2 hk t0 (by omega) (by omega)
  have hnx : ixD (.dict (dI (nbK (brd h new k fs) (t + 14 * h) (t + 14 * h - t).toNat))) (.int t) = some (.int (barI h new k fs t)) := by
    rw [dI_ix, dI_get, nbK_get (by omega) (by omega)]
    show some (PyData.int (nextB _ t (t + 14 * h - t).toNat)) = _
    rw [show t + 14 * h - t = 14 * h by omega]; rfl
  have hlo : 0 ≤ (if t - 14 * h > 0 then t - 14 * h else 0) ∧ (if t - 14 * h > 0 then t - 14 * h else 0) ≤ t ∧ ((if t - 14 * h > 0 then t - 14 * h else 0) ≤ t - 14 * h ∨ (if t - 14 * h > 0 then t - 14 * h else 0) = 0) := by split <;> omega
  refine fo_eq ?_
  unfold F_exposed_begins
  rw [fwp_mk]
  simp! [B_exposed_begins, m7, m27, e14, hnb, hnx]
  generalize (if t - 14 * h > 0 then t - 14 * h else 0) = lo at *
  have hen := ends_of_eq (fs := fs) (lo := lo) (hi := t) hh o hk hlo.1 hlo.2.1 (by omega)
  have hks : (dI (enK (finI h old k fs) lo (t - lo).toNat)).map (·.1) = (rngL lo t).map PyData.int := enK_keys _ _ _
  have hix : ∀ x, lo ≤ x → x < t → ixD (.dict (dI (enK (finI h old k fs) lo (t - lo).toNat))) (.int x) = some (.int (finI h old k fs x)) := fun x x0 x1 => by
    rw [dI_ix, dI_get, enK_get x0 (by omega)]; rfl
  simp! [hen, hks]
  refine kLc_ints (fun x => exB h old new k fs t x) (fun x => .int x) (fun x hx => ?_) (by rw [rngL_len lo t, sizeLine_eq]; omega) ?_
  · obtain ⟨x0, x1⟩ := mem_rngL.mp hx
    have hi := hix x x0 x1
    have e : exB h old new k fs t x = decide (finI h old k fs x > barI h new k fs t) := rfl
    cases hc : decide (finI h old k fs x > barI h new k fs t) with
    | true => simp! [hi, e, hc]; (repeat' (first | exact trivial | contradiction | rfl | refine And.intro ?_ ?_ | intro _))
    | false => simp! [hi, e, hc]; (repeat' (first | exact trivial | contradiction | rfl | refine And.intro ?_ ?_ | intro _))
  · have e : (rngL lo t).filter (fun x => exB h old new k fs t x) = exL h old new k fs t := ex_from hh o hlo.1 hlo.2.1 hlo.2.2
    rw [e]
    simp! []
end Vk21

namespace Vk21
open PySem PySem.Spec PyProof.Rows L2 ZZ
/-! ### stretches -/
def pD (p : Int × Int) : D := .tuple [.int p.1, .int p.2]
abbrev stD (ps : List (Int × Int)) : List D := ps.map pD
def stA (acc : List (Int × Int)) (x : Int) : List (Int × Int) := match acc.getLast? with
  | some p => if p.2 = x - 1 then acc.dropLast ++ [(p.1, x)] else acc ++ [(x, x)]
  | none => acc ++ [(x, x)]
def stF (acc : List (Int × Int)) (l : List Int) : List (Int × Int) := l.foldl stA acc
theorem stA_0 (x : Int) : stA [] x = [(x, x)] := rfl
theorem stA_1 (i : List (Int × Int)) (p : Int × Int) (x : Int) : stA (i ++ [p]) x = if p.2 = x - 1 then i ++ [(p.1, x)] else i ++ [p] ++ [(x, x)] := by
  unfold stA
  rw [List.getLast?_append, List.getLast?_singleton]
  dsimp only [Option.or]
  rw [List.dropLast_concat]
theorem nil_snoc {α : Type} (l : List α) : l = [] ∨ ∃ i p, l = i ++ [p] := by
  rcases List.eq_nil_or_concat l with h | ⟨i, p, h⟩
  · exact .inl h
  · exact .inr ⟨i, p, by rw [h, List.concat_eq_append]⟩
theorem stA_len (acc : List (Int × Int)) (x : Int) : (stA acc x).length ≤ acc.length + 1 := by
  rcases nil_snoc acc with rfl | ⟨i, p, rfl⟩
  · rw [stA_0]; simp
  · rw [stA_1]
    split <;> simp
theorem last_ix (i : List D) (d : D) : atI (i ++ [d]) (-1) = some d := by
  unfold atI ixN
  rw [if_neg (by omega), if_pos (by rw [List.length_append, List.length_singleton]; omega)]
  have : (-1 + ((i ++ [d]).length : Int)).toNat = i.length := by rw [List.length_append, List.length_singleton]; omega
  rw [this]; simp
theorem last_set (i : List D) (d v : D) : setIx (i ++ [d]) (-1) v = some (i ++ [v]) := by
  unfold setIx ixN
  rw [if_neg (by omega), if_pos (by rw [List.length_append, List.length_singleton]; omega)]
  have : (-1 + ((i ++ [d]).length : Int)).toNat = i.length := by rw [List.length_append, List.length_singleton]; omega
  rw [this]; simp
theorem dep_ps : ∀ ps : List (Int × Int), PyData.canLayAll0 (stD ps) = true ∧ PyData.depthAll (stD ps) ≤ 2
  | [] => ⟨rfl, by simp [PyData.depthAll]⟩
  | q :: t => by
    obtain ⟨h1, h2⟩ := dep_ps t
    refine ⟨?_, ?_⟩
    · simp only [List.map_cons, PyData.canLayAll0, h1, Bool.and_true]; rfl
    · have h2 : PyData.depthAll (List.map pD t) ≤ 2 := h2
      simp only [List.map_cons, PyData.depthAll, pD, PyData.depth]
      omega
theorem shaped_ps (ps : List (Int × Int)) : SeqAt.shaped (.list (stD ps)) = true := by
  obtain ⟨h1, h2⟩ := dep_ps ps
  unfold SeqAt.shaped
  rw [Bool.and_eq_true, decide_eq_true_eq]
  refine ⟨by simp only [PyData.canLay0]; exact h1, ?_⟩
  simp only [PyData.depth]; omega
theorem ne_ps0 (ps : List (Int × Int)) : neD (.list (stD ps)) (.list []) = some (.bool (!ps.isEmpty)) := by
  show (if SeqAt.shaped (.list (stD ps)) = true ∧ SeqAt.shaped (.list []) = true then some (PyData.bool (!PyData.eqv (.list (stD ps)) (.list []))) else none) = _
  rw [if_pos ⟨shaped_ps ps, by decide⟩]
  cases ps <;> rfl
theorem repr_ps {ps : List (Int × Int)} (hl : ps.length ≤ 1000) (h : ∀ p ∈ ps, 0 ≤ p.1 ∧ p.1 ≤ 1000000 ∧ 0 ≤ p.2 ∧ p.2 ≤ 1000000) : ∃ z, reprD (.tuple (stD ps)) = some (.str z) := by
  obtain ⟨h1, h2⟩ := dep_ps ps
  have key : ∀ ps : List (Int × Int), (∀ p ∈ ps, 0 ≤ p.1 ∧ p.1 ≤ 1000000 ∧ 0 ≤ p.2 ∧ p.2 ≤ 1000000) → PyData.showableAll (stD ps) = true ∧ ((PyData.shownAll (stD ps)).map (·.length)).sum ≤ 50 * ps.length ∧ (PyData.shownAll (stD ps)).length = ps.length := by
    intro ps
    induction ps with
    | nil => intro _; exact ⟨rfl, by simp [PyData.shownAll], rfl⟩
    | cons q t ih =>
      intro h
      obtain ⟨i1, i2, i3⟩ := ih fun p hp => h p (List.mem_cons_of_mem _ hp)
      obtain ⟨q1, q2, q3, q4⟩ := h q List.mem_cons_self
      have s := showable_ints [q.1, q.2] fun x hx => by
        simp only [List.mem_cons, List.not_mem_nil, or_false] at hx
        rcases hx with rfl | rfl <;> omega
      obtain ⟨w1, w2⟩ := shown_ints 18 (by omega) [q.1, q.2] fun x hx => by
        simp only [List.mem_cons, List.not_mem_nil, or_false] at hx
        rcases hx with rfl | rfl <;> omega
      have w3 := tupleText_len_le (PyData.shownAll ([q.1, q.2].map PyData.int))
      rw [w2] at w3
      simp only [List.map_cons, List.map_nil, List.length_cons, List.length_nil] at s w1 w3
      have e1 : PyData.showable (pD q) = true := by unfold pD; rw [PyData.showable]; exact s
      have e2 : (PyData.shown (pD q)).length ≤ 50 := by
        unfold pD; rw [PyData.shown]; omega
      have e3 : ∀ (a : D) (l : List D), PyData.showableAll (a :: l) = (PyData.showable a && PyData.showableAll l) := fun a l => by rw [PyData.showableAll]
      have e4 : ∀ (a : D) (l : List D), PyData.shownAll (a :: l) = PyData.shown a :: PyData.shownAll l := fun a l => by rw [PyData.shownAll]
      rw [stD, List.map_cons, e3, e4, List.map_cons, List.sum_cons, List.length_cons, List.length_cons]
      refine ⟨by rw [e1, i1]; rfl, ?_, by rw [i3]⟩
      have i2 : ((PyData.shownAll (List.map pD t)).map (·.length)).sum ≤ 50 * t.length := i2
      omega
  obtain ⟨k1, k2, k3⟩ := key ps h
  have w := tupleText_len_le (PyData.shownAll (stD ps))
  unfold reprD
  refine ⟨_, if_pos ⟨by simp only [PyData.canLay0]; exact h1, by simp only [PyData.showable]; exact k1, by simp only [PyData.depth]; omega, ?_⟩⟩
  simp only [PyData.shown]
  rw [sizeLine_eq]
  omega
theorem law_stretches_eq {l : List Int} (hl : l.length ≤ 100000) : F__law_stretches [.list (IL l)] = .ok (.tuple (stD (stF [] l))) [] := by
  refine fo_eq ?_
  unfold F__law_stretches
  rw [fwp_mk]
  simp! [B__law_stretches]
  refine wp_forL (fun rest e => ∃ (xs : List Int) (acc : List (Int × Int)) (s : Sl), rest = IL xs ∧ acc.length + xs.length ≤ 100000 ∧ stF acc xs = stF [] l ∧ e = [.fz (.list (IL l)), .op (.list (stD acc)), s]) ?_ ?_ _ _ ⟨l, [], _, rfl, by simpa using hl, rfl, rfl⟩
  · intro d rest e hI
    obtain ⟨xs, acc, s, hrest, hn, hf, he⟩ := hI
    cases xs with
    | nil => cases hrest
    | cons x xs =>
    injection hrest with q1 q2
    rw [List.length_cons] at hn
    have hal := stA_len acc x
    have hne := ne_ps0 acc
    have hfin : ∃ (xs' : List Int) (acc' : List (Int × Int)) (s : Sl), rest = IL xs' ∧ acc'.length + xs'.length ≤ 100000 ∧ stF acc' xs' = stF [] l ∧ ([.fz (.list (IL l)), .op (.list (stD (stA acc x))), .fz (.int x)] : En) = [.fz (.list (IL l)), .op (.list (stD acc')), s] := ⟨xs, stA acc x, _, q2, by omega, hf, rfl⟩
    rw [he, q1]
    rcases nil_snoc acc with rfl | ⟨i, p, rfl⟩
    · have hz : 0 < sizeLine := by rw [sizeLine_eq]; omega
      have em0 : stD [] = [] := rfl
      rw [em0] at hne ⊢
      simp only [List.isEmpty_nil] at hne
      simp! [hne, hz, kTurn_nx]
      exact hfin
    · have ie : (i ++ [p]).isEmpty = false := by cases i <;> rfl
      rw [ie] at hne
      have em : stD (i ++ [p]) = stD i ++ [.tuple [.int p.1, .int p.2]] := by rw [stD, List.map_append]; rfl
      have hz : (stD i ++ [PyData.tuple [.int p.1, .int p.2]]).length < sizeLine := by rw [← em, List.length_map, sizeLine_eq]; omega
      rw [em] at hne ⊢
      rw [stA_1] at hfin
      by_cases c : p.2 = x - 1
      · rw [if_pos c] at hfin
        have e2 : stD (i ++ [(p.1, x)]) = stD i ++ [.tuple [.int p.1, .int x]] := by rw [stD, List.map_append]; rfl
        rw [e2] at hfin
        simp! [hne, last_ix, last_set, decide_eq_true c, kTurn_nx]
        exact hfin
      · rw [if_neg c] at hfin
        have e2 : stD (i ++ [p] ++ [(x, x)]) = stD i ++ [.tuple [.int p.1, .int p.2]] ++ [.tuple [.int x, .int x]] := by rw [stD, List.map_append, List.map_append]; rfl
        rw [e2] at hfin
        simp! [hne, last_ix, decide_eq_false c, hz, kTurn_nx]
        exact hfin
  · intro e hI
    obtain ⟨xs, acc, s, hrest, hn, hf, he⟩ := hI
    cases xs with
    | cons x xs => cases hrest
    | nil =>
    rw [he, ← hf]
    simp! []
    rfl
theorem exL_mem {h : Int} {old new : List D} {k : D} {fs : List Int} {t x : Int} (hx : x ∈ exL h old new k fs t) : 0 ≤ x ∧ x < t := mem_rngL.mp (List.mem_filter.mp hx).1
theorem exL_len {h : Int} {old new : List D} {k : D} {fs : List Int} {t : Int} : (exL h old new k fs t).length ≤ t.toNat := by
  have := List.length_filter_le (exB h old new k fs t) (rngL 0 t)
  rw [rngL_len] at this
  unfold exL
  omega
theorem exposed_eq {h t : Int} {old new : List D} {k : D} {fs : List Int} (hh : HoursOk h) (o : SOk h old) (o2 : SOk h new) (hk : KindOk k) (hf : FeastsOk (.tuple (fs.map PyData.int))) (t0 : 0 ≤ t) (t1 : t ≤ 2000) :
    F_exposed [sgD h old, sgD h new, .int t, k, .tuple (fs.map PyData.int)] = .ok (.tuple (stD (stF [] (exL h old new k fs t)))) [] := by
  have c1 := check_signs_eq hh o o2
  have c2 := chk_kind hk
  have c3 := chk_tick (t := t) t0 (by omega)
  have c4 := chk_feasts hf
  have he := exposed_begins_eq (fs := fs) hh o o2 hk t0 t1
  have hll := exL_len (h := h) (old := old) (new := new) (k := k) (fs := fs) (t := t)
  generalize exL h old new k fs t = l at *
  refine fo_eq ?_
  unfold F_exposed
  rw [fwp_mk]
  simp! [B_exposed, c1, c2, c3, c4, he]
  refine wp_forL (fun rest e => ∃ (xs : List Int) (acc : List (Int × Int)) (s : Sl), rest = IL xs ∧ acc.length + xs.length ≤ 100000 ∧ stF acc xs = stF [] l ∧ e = [.fz (sgD h old), .fz (sgD h new), .fz (.int t), .fz k, .fz (.tuple (fs.map PyData.int)), .op (.list (stD acc)), s]) ?_ ?_ _ _ ⟨l, [], _, rfl, by rw [List.length_nil]; omega, rfl, rfl⟩
  · intro d rest e hI
    obtain ⟨xs, acc, s, hrest, hn, hf, he⟩ := hI
    cases xs with
    | nil => cases hrest
    | cons x xs =>
    injection hrest with q1 q2
    rw [List.length_cons] at hn
    have hal := stA_len acc x
    have hne := ne_ps0 acc
    have hfin : ∃ (xs' : List Int) (acc' : List (Int × Int)) (s : Sl), rest = IL xs' ∧ acc'.length + xs'.length ≤ 100000 ∧ stF acc' xs' = stF [] l ∧ ([.fz (sgD h old), .fz (sgD h new), .fz (.int t), .fz k, .fz (.tuple (fs.map PyData.int)), .op (.list (stD (stA acc x))), .fz (.int x)] : En) = [.fz (sgD h old), .fz (sgD h new), .fz (.int t), .fz k, .fz (.tuple (fs.map PyData.int)), .op (.list (stD acc')), s] := ⟨xs, stA acc x, _, q2, by omega, hf, rfl⟩
    rw [he, q1]
    rcases nil_snoc acc with rfl | ⟨i, p, rfl⟩
    · have hz : 0 < sizeLine := by rw [sizeLine_eq]; omega
      have em0 : stD [] = [] := rfl
      rw [em0] at hne ⊢
      simp only [List.isEmpty_nil] at hne
      simp! [hne, hz, kTurn_nx]
      exact hfin
    · have ie : (i ++ [p]).isEmpty = false := by cases i <;> rfl
      rw [ie] at hne
      have em : stD (i ++ [p]) = stD i ++ [.tuple [.int p.1, .int p.2]] := by rw [stD, List.map_append]; rfl
      have hz : (stD i ++ [PyData.tuple [.int p.1, .int p.2]]).length < sizeLine := by rw [← em, List.length_map, sizeLine_eq]; omega
      rw [em] at hne ⊢
      rw [stA_1] at hfin
      by_cases c : p.2 = x - 1
      · rw [if_pos c] at hfin
        have e2 : stD (i ++ [(p.1, x)]) = stD i ++ [.tuple [.int p.1, .int x]] := by rw [stD, List.map_append]; rfl
        rw [e2] at hfin
        simp! [hne, last_ix, last_set, decide_eq_true c, kTurn_nx]
        exact hfin
      · rw [if_neg c] at hfin
        have e2 : stD (i ++ [p] ++ [(x, x)]) = stD i ++ [.tuple [.int p.1, .int p.2]] ++ [.tuple [.int x, .int x]] := by rw [stD, List.map_append, List.map_append]; rfl
        rw [e2] at hfin
        simp! [hne, last_ix, decide_eq_false c, hz, kTurn_nx]
        exact hfin
  · intro e hI
    obtain ⟨xs, acc, s, hrest, hn, hf, he⟩ := hI
    cases xs with
    | cons x xs => cases hrest
    | nil =>
    rw [he, ← hf]
    simp! []
    rfl
/-- the stretches' ends are begins -/
theorem stF_mem {P : Int → Prop} : ∀ (l : List Int) (acc : List (Int × Int)), (∀ x ∈ l, P x) → (∀ p ∈ acc, P p.1 ∧ P p.2) → ∀ p ∈ stF acc l, P p.1 ∧ P p.2
  | [], acc, _, h2 => h2
  | x :: l, acc, h1, h2 => stF_mem l (stA acc x) (fun y hy => h1 y (List.mem_cons_of_mem _ hy)) fun p hp => by
    have hx := h1 x List.mem_cons_self
    rcases nil_snoc acc with rfl | ⟨i, q, rfl⟩
    · rw [stA_0, List.mem_singleton] at hp
      rw [hp]; exact ⟨hx, hx⟩
    · rw [stA_1] at hp
      split at hp
      · rcases List.mem_append.mp hp with hp | hp
        · exact h2 p (List.mem_append_left _ hp)
        · rw [List.mem_singleton] at hp
          rw [hp]; exact ⟨(h2 q (List.mem_append_right _ (List.mem_singleton.mpr rfl))).1, hx⟩
      · rcases List.mem_append.mp hp with hp | hp
        · exact h2 p hp
        · rw [List.mem_singleton] at hp
          rw [hp]; exact ⟨hx, hx⟩
theorem stF_len : ∀ (l : List Int) (acc : List (Int × Int)), (stF acc l).length ≤ acc.length + l.length
  | [], acc => by show acc.length ≤ _; omega
  | x :: l, acc => by
    have h1 := stF_len l (stA acc x)
    have h2 := stA_len acc x
    show (stF (stA acc x) l).length ≤ _
    rw [List.length_cons]; omega
theorem repr_st {h t : Int} {old new : List D} {k : D} {fs : List Int} (t1 : t ≤ 900) : ∃ z, reprD (.tuple (stD (stF [] (exL h old new k fs t)))) = some (.str z) := by
  have h1 := stF_len (exL h old new k fs t) []
  have h2 := exL_len (h := h) (old := old) (new := new) (k := k) (fs := fs) (t := t)
  rw [List.length_nil] at h1
  refine repr_ps (by omega) fun p hp => ?_
  obtain ⟨a, b⟩ := stF_mem (P := fun x => 0 ≤ x ∧ x ≤ 1000000) _ _ (fun x hx => by have := exL_mem hx; omega) (fun p hp => by cases hp) p hp
  exact ⟨a.1, a.2, b.1, b.2⟩
/-! ### the law's own exposed begins -/
abbrev enL (h : Int) (old : List D) (k : D) (fs : List Int) (n : Int) : List Int := (rngL 0 n).map (finI h old k fs)
theorem enL_at {h n b : Int} {old : List D} {k : D} {fs : List Int} (h0 : 0 ≤ b) (h1 : b < n) : atI (IL (enL h old k fs n)) b = some (.int (finI h old k fs b)) := by
  refine atI_nn h0 ?_
  show (((rngL 0 n).map (finI h old k fs)).map PyData.int)[b.toNat]? = _
  unfold rngL
  rw [List.map_map, List.map_map, List.getElem?_map, List.getElem?_range (by omega)]
  show some (PyData.int (finI h old k fs (0 + ((b.toNat : Nat) : Int)))) = _
  rw [show (0 : Int) + ((b.toNat : Nat) : Int) = b by omega]
theorem law_exposed_eq {h t n : Int} {old new : List D} {k : D} {fs : List Int} (hh : HoursOk h) (o : SOk h old) (o2 : SOk h new) (hk : KindOk k) (t0 : 0 ≤ t) (tn : t ≤ n) (n1 : n ≤ 2000) :
    F__law_exposed [sgD h old, sgD h new, .int t, k, .tuple (fs.map PyData.int), .list (IL (enL h old k fs n))] = .ok (.list (IL (exL h old new k fs t))) [] := by
  have hB := hours_b hh
  have m14 := mulOk_l (i := 14) (j := h) (by omega)
  refine fo_eq ?_
  unfold F__law_exposed
  rw [fwp_mk]
  simp! [B__law_exposed]
  refine wp_whl (fun m e => ∃ x : Int, t ≤ x ∧ x ≤ t + 14 * h ∧ m = (t + 14 * h - x).toNat ∧ (∀ s, t ≤ s → s < x → brd h new k fs s = false) ∧ e = [.fz (sgD h old), .fz (sgD h new), .fz (.int t), .fz k, .fz (.tuple (fs.map PyData.int)), .fz (.list (IL (enL h old k fs n))), .fz (.int x), .un]) _ ⟨t, by omega, by omega, rfl, fun s q1 q2 => by omega, rfl⟩ (by omega) ?_
  intro m e hI
  obtain ⟨x, x0, x1, hm, hno, he⟩ := hI
  rw [he]
  have ht2 := law_told_eq (h := h) (tick := x) (fs := fs) hh o2.hl o2.hr hk
  have hw2 := told_w (h := h) (tick := x) (kind := k) (fs := fs.map PyData.int) o2.hr
  have hn := word_neb hw2.2
  have hp : eqb (wordA h new k (fs.map PyData.int) x) = brd h new k fs x := rfl
  rw [hp] at hn
  have ex : ∀ c1 : Bool, (x = t + 14 * h ∨ brd h new k fs x = true) → Wp (sRet (lcM [7] (range1 [(vr 2)]) (setN 7) (andM (boolOf (ZZ.bin gtD (ZZ.bin ixD (vr 5) (vr 7)) (vr 6))) (boolOf (ZZ.bin ltD (vr 6) (ZZ.bin addD (vr 2) (ZZ.bin mulD (ZZ.ret (.int 14)) (ZZ.bin ixD (vr 0) (ZZ.ret (.int 0)))))))) (vr 7))) [.fz (sgD h old), .fz (sgD h new), .fz (.int t), .fz k, .fz (.tuple (fs.map PyData.int)), .fz (.list (IL (enL h old k fs n))), .fz (.int x), .un] (endF [false, false, false, false, false, false] fun d os => d = .list (IL (exL h old new k fs t)) ∧ os = []) := fun _ q => by
    have hbar : barI h new k fs t = x := nextB_eq x0 (by omega) hno fun r => by
      rcases q with q | q
      · omega
      · exact q
    have hrng := rng_ints 0 t
    simp! [rOk_s (a := t) (by omega), hrng]
    refine kLc_ints (fun b => decide (finI h old k fs b > x) && decide (x < t + 14 * h)) (fun x => .int x) (fun b hb => ?_) (by rw [rngL_len 0 t, sizeLine_eq]; omega) ?_
    · obtain ⟨b0, b1⟩ := mem_rngL.mp hb
      have hi := enL_at (h := h) (n := n) (old := old) (k := k) (fs := fs) b0 (by omega : b < n)
      by_cases c1 : finI h old k fs b > x
      · have c1' := decide_eq_true c1
        by_cases c2 : x < t + 14 * h
        · have c2' := decide_eq_true c2
          simp! [hi, m14, c1', c2']; (repeat' (first | exact trivial | contradiction | rfl | refine And.intro ?_ ?_ | intro _))
        · have c2' := decide_eq_false c2
          simp! [hi, m14, c1', c2']; (repeat' (first | exact trivial | contradiction | rfl | refine And.intro ?_ ?_ | intro _))
      · have c1' := decide_eq_false c1
        simp! [hi, m14, c1']; (repeat' (first | exact trivial | contradiction | rfl | refine And.intro ?_ ?_ | intro _))
    · have e : (rngL 0 t).filter (fun b => decide (finI h old k fs b > x) && decide (x < t + 14 * h)) = exL h old new k fs t := by
        unfold exL
        refine List.filter_congr fun b hb => ?_
        obtain ⟨b0, b1⟩ := mem_rngL.mp hb
        unfold exB
        rw [hbar]
        have hf := fin_b (b := b) hB.1 o k fs
        by_cases c : x < finI h old k fs b
        · have c2 : x < t + 14 * h := by omega
          show (decide (x < finI h old k fs b) && decide (x < t + 14 * h)) = decide (x < finI h old k fs b)
          rw [decide_eq_true c, decide_eq_true c2]; rfl
        · show (decide (x < finI h old k fs b) && decide (x < t + 14 * h)) = decide (x < finI h old k fs b)
          rw [decide_eq_false c]; rfl
      rw [e]
      simp! []
  by_cases c : x < t + 14 * h
  · have c' := decide_eq_true c
    cases hc : brd h new k fs x with
    | true =>
      rw [hc] at hn
      simp! [m14, c', ht2, hw2.1, hn, kWhl_f]
      have := ex true (.inr hc)
      simp! [] at this
      exact this
    | false =>
      rw [hc] at hn
      simp! [m14, c', ht2, hw2.1, hn, kWhl_t, kTurn_nx]
      exact ⟨_, by rw [hm]; exact (by omega : (t + 14 * h - (x + 1)).toNat < (t + 14 * h - x).toNat), x + 1, by omega, by omega, rfl, fun s q1 q2 => by
        by_cases e : s = x
        · rw [e]; exact hc
        · exact hno s q1 (by omega), rfl⟩
  · have c' := decide_eq_false c
    simp! [m14, c', kWhl_f]
    have := ex true (.inl (by omega))
    simp! [] at this
    exact this
end Vk21

namespace Vk21
open PySem PySem.Spec PyProof.Rows L2 ZZ
theorem rngL_snoc {a s : Int} (h : a ≤ s) : rngL a (s + 1) = rngL a s ++ [s] := by
  rw [rngL_app h (by omega : s ≤ s + 1), rngL_one]
theorem IL_app (a b : List Int) : IL (a ++ b) = IL a ++ IL b := List.map_append
theorem rngL_none {a b : Int} (h : b ≤ a) : rngL a b = [] := by
  unfold rngL
  rw [show (b - a).toNat = 0 by omega]; rfl
/-- whether a tick is unsafe for a kind -/
def badB (h : Int) (old new : List D) (k : D) (fs : List Int) (b : Int) : Bool := !(exL h old new k fs b).isEmpty
theorem bad_iff {h : Int} {old new : List D} {k : D} {fs : List Int} {b : Int} : badB h old new k fs b = true ↔ ∃ x, 0 ≤ x ∧ x < b ∧ exB h old new k fs b x = true := by
  unfold badB exL
  rw [Bool.not_eq_true', List.isEmpty_eq_false_iff_exists_mem]
  constructor
  · rintro ⟨x, hx⟩
    obtain ⟨h1, h2⟩ := List.mem_filter.mp hx
    obtain ⟨h3, h4⟩ := mem_rngL.mp h1
    exact ⟨x, h3, h4, h2⟩
  · rintro ⟨x, h1, h2, h3⟩
    exact ⟨x, List.mem_filter.mpr ⟨mem_rngL.mpr ⟨h1, h2⟩, h3⟩⟩
/-- what the walk asks at each tick -/
def walkB (h : Int) (old new : List D) (k : D) (fs : List Int) (m hi b : Int) : Bool := decide (nextB (brd h new k fs) b (hi + 14 * h - b).toNat < mxI (finI h old k fs) m (b - m).toNat)
theorem walk_is {h : Int} {old new : List D} {k : D} {fs : List Int} (hh : HoursOk h) (o : SOk h old) {m hi b : Int} (m0 : 0 ≤ m) (mb : m ≤ b) (hm : m ≤ b - 14 * h ∨ m = 0) (b1 : b ≤ hi) : walkB h old new k fs m hi b = badB h old new k fs b := by
  have hB := hours_b hh
  have u := Chg.unsafe_iff (c := chg h old new k fs hh o) (t := b) (m := m) (n := (hi + 14 * h - b).toNat) (show (14 * h).toNat ≤ _ by omega) (show m ≤ b - ((14 * h).toNat : Int) ∨ m ≤ 0 by omega)
  have x := mxI_lt (f := finI h old k fs) (m := m) (x := nextB (brd h new k fs) b (hi + 14 * h - b).toNat) (by have := nextB_ge (brd h new k fs) (hi + 14 * h - b).toNat b; omega) (b - m).toNat
  rw [Bool.eq_iff_iff, bad_iff]
  unfold walkB
  rw [decide_eq_true_eq, x]
  constructor
  · rintro ⟨y, y0, y1, y2⟩
    exact u.mp ⟨y, y0, by omega, by omega, y2⟩
  · intro q
    obtain ⟨y, y0, y1, y2, y3⟩ := u.mpr q
    exact ⟨y, y0, by omega, y3⟩
theorem unsafe_ticks_eq {h lo hi : Int} {old new : List D} {k : D} {fs : List Int} (hh : HoursOk h) (o : SOk h old) (o2 : SOk h new) (hk : KindOk k) (l0 : 0 ≤ lo) (l1 : lo ≤ hi) (h1 : hi ≤ 2000) :
    F_unsafe_ticks [sgD h old, sgD h new, k, .tuple (fs.map PyData.int), .int lo, .int hi] = .ok (.list (IL ((rngL lo hi).filter (badB h old new k fs)))) [] := by
  have hB := hours_b hh
  have m7 := mulOk_l (i := 7) (j := h) (by omega)
  have m27 := mulOk_l (i := 2) (j := 7 * h) (by omega)
  have e14 : 2 * (7 * h) = 14 * h := by omega
  have hnb := next_barred_eq (fs := fs) (lo := lo) (hi := hi + 14 * h) hh o2 hk l0 (by omega) (by omega)
  have hlo : 0 ≤ (if lo - 14 * h > 0 then lo - 14 * h else 0) ∧ (if lo - 14 * h > 0 then lo - 14 * h else 0) ≤ lo ∧ ((if lo - 14 * h > 0 then lo - 14 * h else 0) ≤ lo - 14 * h ∨ (if lo - 14 * h > 0 then lo - 14 * h else 0) = 0) := by split <;> omega
  refine fo_eq ?_
  unfold F_unsafe_ticks
  rw [fwp_mk]
  simp! [B_unsafe_ticks, m7, m27, e14, hnb]
  generalize hmm : (if lo - 14 * h > 0 then lo - 14 * h else 0) = m at *
  have hen := ends_of_eq (fs := fs) (lo := m) (hi := hi) hh o hk hlo.1 (by omega) (by omega)
  have hrng := rng_ints m hi
  simp! [hen, m27, e14, hmm, rOk_s (a := m) (by omega), rOk_s (a := hi) (by omega), hrng]
  refine wp_forL (fun rest e => ∃ (s : Int) (sx : Sl), m ≤ s ∧ s ≤ hi ∧ rest = IL (rngL s hi) ∧ e = [.fz (sgD h old), .fz (sgD h new), .fz k, .fz (.tuple (fs.map PyData.int)), .fz (.int lo), .fz (.int hi), .fz (.int (7 * h)), .fz (.dict (dI (nbK (brd h new k fs) (hi + 14 * h) (hi + 14 * h - lo).toNat))), .fz (.dict (dI (enK (finI h old k fs) m (hi - m).toNat))), .op (.list (IL ((rngL lo s).filter (badB h old new k fs)))), .fz (.int (mxI (finI h old k fs) m (s - m).toNat)), sx]) ?_ ?_ _ _ ⟨m, .un, by omega, by omega, rfl, ?_⟩
  · intro d rest e hI
    obtain ⟨s, sx, s0, s1, hrest, he⟩ := hI
    obtain ⟨s2, q1, q2⟩ := rngL_cons hrest
    have hen2 : ixD (.dict (dI (enK (finI h old k fs) m (hi - m).toNat))) (.int s) = some (.int (finI h old k fs s)) := by
      rw [dI_ix, dI_get, enK_get s0 (by omega)]; rfl
    have hmx : mxI (finI h old k fs) m (s + 1 - m).toNat = if finI h old k fs s > mxI (finI h old k fs) m (s - m).toNat then finI h old k fs s else mxI (finI h old k fs) m (s - m).toNat := by
      have e1 : (s + 1 - m).toNat = (s - m).toNat + 1 := by omega
      have e2 : m + ((s - m).toNat : Int) = s := by omega
      rw [e1]
      show (if finI h old k fs (m + ((s - m).toNat : Int)) > _ then finI h old k fs (m + ((s - m).toNat : Int)) else _) = _
      rw [e2]
    rw [he, q1]
    by_cases c : s ≥ lo
    · have c' := decide_eq_true c
      have hnx : ixD (.dict (dI (nbK (brd h new k fs) (hi + 14 * h) (hi + 14 * h - lo).toNat))) (.int s) = some (.int (nextB (brd h new k fs) s (hi + 14 * h - s).toNat)) := by
        rw [dI_ix, dI_get, nbK_get (by omega) (by omega)]; rfl
      have hw := walk_is (new := new) (fs := fs) (k := k) hh o hlo.1 s0 (by omega : m ≤ s - 14 * h ∨ m = 0) s1
      unfold walkB at hw
      have hfl : (rngL lo (s + 1)).filter (badB h old new k fs) = (rngL lo s).filter (badB h old new k fs) ++ if badB h old new k fs s = true then [s] else [] := by
        rw [rngL_snoc c, List.filter_append]
        congr 1
        rw [List.filter_cons]; rfl
      have hlen : (IL ((rngL lo s).filter (badB h old new k fs))).length < sizeLine := by
        have := List.length_filter_le (badB h old new k fs) (rngL lo s)
        rw [rngL_len] at this
        rw [List.length_map, sizeLine_eq]; omega
      cases hc : badB h old new k fs s with
      | true =>
        rw [hc] at hw
        rw [hc, if_pos rfl] at hfl
        simp! [c', hnx, gt_iff_lt, hw, hen2, hlen, kTurn_nx]
        refine ⟨s + 1, .fz (.int s), by omega, by omega, q2, ?_⟩
        rw [hfl, hmx, IL_app]; rfl
      | false =>
        rw [hc] at hw
        rw [hc, if_neg Bool.false_ne_true, List.append_nil] at hfl
        simp! [c', hnx, gt_iff_lt, hw, hen2, kTurn_nx]
        refine ⟨s + 1, .fz (.int s), by omega, by omega, q2, ?_⟩
        rw [hfl, hmx]
    · have c' := decide_eq_false c
      simp! [c', hen2, kTurn_nx]
      refine ⟨s + 1, .fz (.int s), by omega, by omega, q2, ?_⟩
      rw [rngL_none (show s + 1 ≤ lo by omega), rngL_none (show s ≤ lo by omega), hmx]
  · intro e hI
    obtain ⟨s, sx, s0, s1, hrest, he⟩ := hI
    have := rngL_fin hrest
    obtain rfl : s = hi := by omega
    rw [he]
    simp! []
  · rw [rngL_none hlo.2.1, Int.sub_self]; rfl
/-! ### the first safe tick -/
def bT (ks : List Int) : List (D × D) := ks.map fun k => (.int k, .bool true)
def addI (ks : List Int) (x : Int) : List Int := if x ∈ ks then ks else ks ++ [x]
def addIs (ks xs : List Int) : List Int := xs.foldl addI ks
theorem bT_any (ks : List Int) (x : Int) : ((bT ks).any fun p => PyData.eqv p.1 (.int x)) = decide (x ∈ ks) := by
  unfold bT
  rw [List.any_map, Bool.eq_iff_iff, List.any_eq_true, decide_eq_true_eq]
  constructor
  · rintro ⟨u, hu, h⟩
    have h : PyData.eqv (.int u) (.int x) = true := h
    rw [eqv_ii, decide_eq_true_eq] at h
    exact h ▸ hu
  · intro h
    exact ⟨x, h, by show PyData.eqv (.int x) (.int x) = true; rw [eqv_ii]; exact decide_eq_true rfl⟩
theorem put_bT (ks : List Int) (x : Int) : putD (bT ks) (.int x) (.bool true) = bT (addI ks x) := by
  unfold putD addI
  rw [bT_any]
  by_cases h : x ∈ ks
  · rw [decide_eq_true h, if_pos rfl, if_pos h]
    unfold bT
    rw [List.map_map]
    refine List.map_congr_left fun u _ => ?_
    show (if PyData.eqv (.int u) (.int x) = true then ((PyData.int u, PyData.bool true) : D × D) else (.int u, .bool true)) = _
    split <;> rfl
  · rw [decide_eq_false h, if_neg Bool.false_ne_true, if_neg h]
    unfold bT
    rw [List.map_append]; rfl
theorem addI_len (ks : List Int) (x : Int) : (addI ks x).length ≤ ks.length + 1 := by
  unfold addI
  split
  · omega
  · rw [List.length_append]; simp
theorem mem_addI {ks : List Int} {x y : Int} : y ∈ addI ks x ↔ y ∈ ks ∨ y = x := by
  unfold addI
  split
  · rename_i h
    exact ⟨.inl, fun q => q.elim id fun q => q ▸ h⟩
  · rw [List.mem_append, List.mem_singleton]
theorem mem_addIs : ∀ {xs ks : List Int} {y : Int}, y ∈ addIs ks xs ↔ y ∈ ks ∨ y ∈ xs
  | [], ks, y => by simp [addIs]
  | x :: xs, ks, y => by
    show y ∈ addIs (addI ks x) xs ↔ _
    rw [mem_addIs, mem_addI, List.mem_cons, or_assoc]
theorem addIs_len : ∀ (xs ks : List Int), (addIs ks xs).length ≤ ks.length + xs.length
  | [], ks => by show ks.length ≤ _; omega
  | x :: xs, ks => by
    have h1 := addIs_len xs (addI ks x)
    have h2 := addI_len ks x
    show (addIs (addI ks x) xs).length ≤ _
    rw [List.length_cons]; omega
theorem nin_bT (ks : List Int) (x : Int) : ninD (.int x) (.dict (bT ks)) = some (.bool (!decide (x ∈ ks))) := by
  unfold ninD
  show (some (PyData.bool ((bT ks).any fun z => PyData.eqv z.1 (.int x)))).bind notD = _
  rw [bT_any]; rfl
theorem ne_il0 (xs : List Int) : neD (.list (IL xs)) (.list []) = some (.bool (!xs.isEmpty)) := by
  have hs : SeqAt.shaped (.list (IL xs)) = true := by
    unfold SeqAt.shaped
    rw [Bool.and_eq_true, decide_eq_true_eq]
    have : PyData.depthAll (IL xs) ≤ 1 := depth_ints xs
    refine ⟨by simp only [PyData.canLay0]; exact canLay_ints xs, ?_⟩
    simp only [PyData.depth]; omega
  show (if SeqAt.shaped (.list (IL xs)) = true ∧ SeqAt.shaped (.list []) = true then some (PyData.bool (!PyData.eqv (.list (IL xs)) (.list []))) else none) = _
  rw [if_pos ⟨hs, by decide⟩]
  cases xs <;> rfl
def oD : Option Int → D
  | none => .none
  | some t => .int t
/-- none of some kinds is exposed there -/
def safeB (h : Int) (old new : List D) (ks : List D) (fs : List Int) (b : Int) : Bool := ks.all fun k => !badB h old new k fs b
theorem safe_tick_eq {h t days : Int} {old new : List D} {fs : List Int} (hh : HoursOk h) (o : SOk h old) (o2 : SOk h new) (hf : FeastsOk (.tuple (fs.map PyData.int))) (t0 : 0 ≤ t) (t1 : t ≤ 500) (d0 : 1 ≤ days) (d1 : days ≤ 60) (hw : days * h ≤ 400) :
    F_safe_tick [sgD h old, sgD h new, .int t, .tuple (fs.map PyData.int), .int days] = .ok (oD ((rngL t (t + days * h)).find? (safeB h old new (KL old new) fs))) [] := by
  have hB := hours_b hh
  have c1 := check_signs_eq hh o o2
  have c3 := chk_tick (t := t) t0 (by omega)
  have c4 := chk_feasts hf
  have cc : F_check_change [sgD h old, sgD h new, .int t, .tuple (fs.map PyData.int)] = .ok .none [] := by
    refine fo_eq ?_
    unfold F_check_change
    rw [fwp_mk]
    simp! [B_check_change, c1, c3, c4]
  have cb := is_between_i days 1 60
  rw [decide_eq_true d0, decide_eq_true d1] at cb
  have md := mulOk_r (i := days) (j := h) (by omega)
  have hpos : 0 ≤ days * h := Int.mul_nonneg (by omega) (by omega)
  have hnm := named_eq o.hr o2.hr
  have hkl := KL_len old new
  have hko := KL_ok old new
  have hrng := rng_ints t (t + days * h)
  refine fo_eq ?_
  unfold F_safe_tick
  rw [fwp_mk]
  simp! [B_safe_tick, cc, cb, md, hnm]
  generalize hHi : t + days * h = hi at *
  have hu : ∀ k, KindOk k → F_unsafe_ticks [sgD h old, sgD h new, k, .tuple (fs.map PyData.int), .int t, .int hi] = .ok (.list (IL ((rngL t hi).filter (badB h old new k fs)))) [] := fun k hk => unsafe_ticks_eq hh o o2 hk t0 (by omega) (by omega)
  have hul : ∀ k, ((rngL t hi).filter (badB h old new k fs)).length ≤ 400 := fun k => by
    have := List.length_filter_le (badB h old new k fs) (rngL t hi)
    rw [rngL_len] at this; omega
  refine wp_forL (fun rest e => ∃ (ks : List Int) (s7 s8 : Sl), (∀ k ∈ rest, KindOk k) ∧ ks.length + 400 * rest.length ≤ 1200 ∧ (∀ x, x ∈ ks ∨ (x ∈ rngL t hi ∧ ∃ k ∈ rest, badB h old new k fs x = true) ↔ x ∈ rngL t hi ∧ ∃ k ∈ KL old new, badB h old new k fs x = true) ∧ e = [.fz (sgD h old), .fz (sgD h new), .fz (.int t), .fz (.tuple (fs.map PyData.int)), .fz (.int days), .fz (.int hi), .op (.dict (bT ks)), s7, s8, .un]) ?_ ?_ _ _ ⟨[], _, _, hko, by rw [List.length_nil]; omega, fun x => by simp, rfl⟩
  · intro k rest e hI
    obtain ⟨ks, s7, s8, hr, hn, hm, he⟩ := hI
    have hk := hr k List.mem_cons_self
    have huk := hu k hk
    have hulk := hul k
    rw [List.length_cons] at hn
    rw [he]
    simp! [huk]
    refine wp_forL (fun rest2 e => ∃ (xs ks2 : List Int) (s8 : Sl), rest2 = IL xs ∧ ks2.length + xs.length + 400 * rest.length ≤ 1200 ∧ addIs ks2 xs = addIs ks ((rngL t hi).filter (badB h old new k fs)) ∧ e = [.fz (sgD h old), .fz (sgD h new), .fz (.int t), .fz (.tuple (fs.map PyData.int)), .fz (.int days), .fz (.int hi), .op (.dict (bT ks2)), .fz k, s8, .un]) ?_ ?_ _ _ ⟨(rngL t hi).filter (badB h old new k fs), ks, _, rfl, by omega, rfl, rfl⟩
    · intro d rest2 e hJ
      obtain ⟨xs, ks2, s8, hrest, hn2, ha, he⟩ := hJ
      cases xs with
      | nil => cases hrest
      | cons x xs =>
      injection hrest with q1 q2
      rw [List.length_cons] at hn2
      have hal := addI_len ks2 x
      have hz : (bT ks2).length < sizeLine := by
        unfold bT
        rw [List.length_map, sizeLine_eq]; omega
      rw [he, q1]
      simp! [hz, put_bT, kTurn_nx]
      exact ⟨xs, addI ks2 x, _, q2, by omega, ha, rfl⟩
    · intro e hJ
      obtain ⟨xs, ks2, s8, hrest, hn2, ha, he⟩ := hJ
      cases xs with
      | cons x xs => cases hrest
      | nil =>
      rw [he]
      simp only [kTurn_nx]
      have ha : ks2 = addIs ks ((rngL t hi).filter (badB h old new k fs)) := ha
      refine ⟨ks2, _, _, fun k hk => hr k (List.mem_cons_of_mem _ hk), by rw [List.length_nil] at hn2; omega, fun x => ?_, rfl⟩
      rw [← hm x, ha, mem_addIs, List.mem_filter]
      constructor
      · rintro ((h1 | ⟨h1, h2⟩) | ⟨h1, j, h2, h3⟩)
        · exact .inl h1
        · exact .inr ⟨h1, k, List.mem_cons_self, h2⟩
        · exact .inr ⟨h1, j, List.mem_cons_of_mem _ h2, h3⟩
      · rintro (h1 | ⟨h1, j, h2, h3⟩)
        · exact .inl (.inl h1)
        · rcases List.mem_cons.mp h2 with h2 | h2
          · exact .inl (.inr ⟨h1, h2 ▸ h3⟩)
          · exact .inr ⟨h1, j, h2, h3⟩
  · intro e hI
    obtain ⟨ks, s7, s8, hr, hn, hm, he⟩ := hI
    rw [he]
    simp! [rOk_s (a := t) (by omega), rOk_s (a := hi) (by omega), hrng]
    refine kLc_ints (fun x => !decide (x ∈ ks)) (fun x => .int x) (fun x hx => ?_) (by rw [rngL_len t hi, sizeLine_eq]; omega) ?_
    · have hni := nin_bT ks x
      cases hc : decide (x ∈ ks) with
      | true => rw [hc] at hni; simp! [hni]; (repeat' (first | exact trivial | contradiction | rfl | refine And.intro ?_ ?_ | intro _))
      | false => rw [hc] at hni; simp! [hni]; (repeat' (first | exact trivial | contradiction | rfl | refine And.intro ?_ ?_ | intro _))
    · have e : (rngL t hi).filter (fun x => !decide (x ∈ ks)) = (rngL t hi).filter (safeB h old new (KL old new) fs) := by
        refine List.filter_congr fun x hx => ?_
        have := hm x
        rw [Bool.eq_iff_iff]
        unfold safeB
        rw [List.all_eq_true, Bool.not_eq_true', decide_eq_false_iff_not]
        constructor
        · intro hn k hk
          cases hc : badB h old new k fs x with
          | false => rfl
          | true =>
            rcases this.mpr ⟨hx, k, hk, hc⟩ with q | ⟨_, j, q, _⟩
            · exact absurd q hn
            · cases q
        · intro ha hmem
          obtain ⟨_, k, hk, hc⟩ := this.mp (.inl hmem)
          have := ha k hk
          rw [hc] at this; cases this
      rw [e, ← List.head?_filter]
      generalize (rngL t hi).filter (safeB h old new (KL old new) fs) = F
      have hne := ne_il0 F
      cases F with
      | nil =>
        simp only [IL, List.map_nil, List.isEmpty_nil] at hne
        simp! [hne, List.map_nil]
        rfl
      | cons x xs =>
        simp only [IL, List.map_cons, List.isEmpty_cons] at hne
        simp! [hne, List.map_cons]
        rfl
end Vk21

namespace Vk21
open PySem PySem.Spec PyProof.Rows L2 ZZ
theorem ne_str (z : Str) : neD (.str z) (.str z) = some (.bool false) := by rw [neD_s, decide_eq_true rfl]; rfl
theorem eq_str (z : Str) : eqD (.str z) (.str z) = some (.bool true) := by rw [eqD_s, decide_eq_true rfl]
theorem repr_int {n : Int} (h0 : 0 ≤ n) (h1 : n ≤ 1000000) : ∃ z, reprD (.int n) = some (.str z) := by
  have := showable_ints [n] (fun x hx => by rw [List.mem_singleton.mp hx]; omega)
  simp only [List.map_cons, PyData.showableAll, Bool.and_eq_true] at this
  refine reprD_of rfl this.1 (by simp only [PyData.depth]; omega) ?_
  simp only [PyData.shown]
  have := toString_length_le h0 (by omega : 0 < 18) (by omega : n < 10 ^ 18)
  omega
theorem repr_oD {o : Option Int} (h : ∀ n, o = some n → 0 ≤ n ∧ n ≤ 1000000) : ∃ z, reprD (oD o) = some (.str z) := by
  cases o with
  | none => exact reprD_of rfl rfl (by simp only [oD, PyData.depth]; omega) (by decide)
  | some n => exact repr_int (h n rfl).1 (h n rfl).2
/-! ### the law's kinds -/
abbrev KS : List D := [.none, .str "bus", .str "van"]
theorem KS_ok : ∀ k ∈ KS, KindOk k := by
  intro k hk
  simp only [List.mem_cons, List.not_mem_nil, or_false] at hk
  rcases hk with rfl | rfl | rfl
  · exact .inl rfl
  · exact .inr (.inr (.inl rfl))
  · exact .inr (.inl rfl)
theorem bad_kind {h b : Int} {old new : List D} {x : Str} {fs : List Int} (hx : x = kB ∨ x = kW) (o : SOk h old) (o2 : SOk h new) (h1 : x ∉ kAll old) (h2 : x ∉ kAll new) : badB h old new (.str x) fs b = badB h old new .none fs b := by
  have e1 : ∀ t, wrd h old (.str x) fs t = wrd h old .none fs t := kind_wrd hx o.hr h1 fs
  have e2 : ∀ t, wrd h new (.str x) fs t = wrd h new .none fs t := kind_wrd hx o2.hr h2 fs
  have b1 : brd h old (.str x) fs = brd h old .none fs := funext fun t => by unfold brd; rw [e1]
  have b2 : brd h new (.str x) fs = brd h new .none fs := funext fun t => by unfold brd; rw [e2]
  have f1 : finI h old (.str x) fs = finI h old .none fs := funext fun t => by unfold finI; rw [e1, b1]
  have g1 : ∀ t, barI h new (.str x) fs t = barI h new .none fs t := fun t => by unfold barI; rw [b2]
  have x1 : exB h old new (.str x) fs b = exB h old new .none fs b := funext fun y => by unfold exB; rw [f1, g1]
  unfold badB exL
  rw [x1]
theorem safe_kinds {h b : Int} {old new : List D} {fs : List Int} (o : SOk h old) (o2 : SOk h new) : safeB h old new (KL old new) fs b = safeB h old new KS fs b := by
  have q1 : kB ∉ kAll old ++ kAll new → badB h old new (.str kB) fs b = badB h old new .none fs b := fun hn => bad_kind (.inl rfl) o o2 (fun q => hn (List.mem_append_left _ q)) fun q => hn (List.mem_append_right _ q)
  have q2 : kW ∉ kAll old ++ kAll new → badB h old new (.str kW) fs b = badB h old new .none fs b := fun hn => bad_kind (.inr rfl) o o2 (fun q => hn (List.mem_append_left _ q)) fun q => hn (List.mem_append_right _ q)
  unfold safeB KL sK
  show (_ : Bool) = ((!badB h old new .none fs b) && ((!badB h old new (.str kB) fs b) && ((!badB h old new (.str kW) fs b) && true)))
  by_cases c1 : kB ∈ kAll old ++ kAll new
  · rw [if_pos c1]
    by_cases c2 : kW ∈ kAll old ++ kAll new
    · rw [if_pos c2]; rfl
    · rw [if_neg c2, q2 c2]
      show ((!badB h old new .none fs b) && ((!badB h old new (.str kB) fs b) && true)) = _
      cases badB h old new .none fs b <;> cases badB h old new (.str kB) fs b <;> rfl
  · rw [if_neg c1, q1 c1]
    by_cases c2 : kW ∈ kAll old ++ kAll new
    · rw [if_pos c2]
      show ((!badB h old new .none fs b) && ((!badB h old new (.str kW) fs b) && true)) = _
      cases badB h old new .none fs b <;> cases badB h old new (.str kW) fs b <;> rfl
    · rw [if_neg c2, q2 c2]
      show ((!badB h old new .none fs b) && true) = _
      cases badB h old new .none fs b <;> rfl
theorem ex_none {h t : Int} {old new : List D} {k : D} {fs : List Int} (q : ∀ b, b < t → exB h old new k fs t b = false) : exL h old new k fs t = [] := by
  unfold exL
  exact filter_none fun x hx => q x (mem_rngL.mp hx).2
theorem ex_self {h t : Int} {old : List D} {k : D} {fs : List Int} (hh : HoursOk h) (o : SOk h old) : exL h old old k fs t = [] := ex_none fun b hb => Chg.ex_same (c := chg h old old k fs hh o) (fun _ => rfl) hb
theorem top_sok {h : Int} {rows : List D} {w : D} (hh : HoursOk h) (hw : WordOk w) (o : SOk h rows) : SOk h (rows.take 11 ++ [topR w]) where
  hl := by rw [List.length_append, List.length_take, List.length_singleton]; omega
  hr := fun r hx => (List.mem_append.mp hx).elim (fun q => o.hr r (List.mem_of_mem_take q)) fun q => by rw [List.mem_singleton.mp q]; exact top_ok hh hw
theorem top_brd {h : Int} {rows : List D} {w : D} (hh : HoursOk h) (hw : WordOk w) (o : SOk h rows) (k : D) (fs : List Int) (t : Int) : brd h (rows.take 11 ++ [topR w]) k fs t = eqb w := by
  unfold brd
  rw [top_wrd hh hw (fun r hx => o.hr r (List.mem_of_mem_take hx))]
theorem ex_bar {h t : Int} {old new : List D} {k : D} {fs : List Int} (hh : HoursOk h) (o : SOk h old) : exL h (old.take 11 ++ [topR (.str "barred")]) new k fs t = [] := by
  have hw : WordOk (.str "barred") := .inr (.inl rfl)
  exact ex_none fun b hb => Chg.ex_barred (c := chg h _ new k fs hh (top_sok hh hw o)) (fun s => by
    show brd h (old.take 11 ++ [topR (.str "barred")]) k fs s = true
    rw [top_brd hh hw o]; decide +kernel) hb
theorem ex_fre {h t : Int} {old new : List D} {k : D} {fs : List Int} (hh : HoursOk h) (o : SOk h old) (o2 : SOk h new) : exL h old (new.take 11 ++ [topR (.str "free")]) k fs t = [] := by
  have hw : WordOk (.str "free") := .inl rfl
  exact ex_none fun b hb => Chg.ex_free (c := chg h old (new.take 11 ++ [topR (.str "free")]) k fs hh o) (fun s => by
    show brd h (new.take 11 ++ [topR (.str "free")]) k fs s = false
    rw [top_brd hh hw o2]; decide +kernel) hb
theorem pickD_5 (a b c d e : D) : pickD [0, 1, 2, 3, 4] [a, b, c, d, e] = [a, b, c, d, e] := rfl
theorem ne_t0 : neD (.tuple (stD (stF [] []))) (.tuple []) = some (.bool false) := of_bIs (by decide +kernel)
@[irreducible] noncomputable def L0 : M Fl := (sSetN 8 (vr 9) (lcM [14] (range1 [(ZZ.bin addD (vr 5) (ZZ.bin mulD (vr 6) (vr 1)))]) (setN 14) (ZZ.ret true) (callM F__law_end [.v (vr 2), .v (vr 9), .v (vr 14), .v (vr 4)])))
@[irreducible] noncomputable def L1 : M Fl := (sFor (range1 [(ZZ.ret (.int 3))]) (setN 10) (sSeq (sAsg (setN 14) (una ZZ.intD (callM F__law_take [.io 0, .v (ZZ.bin addD (vr 5) (ZZ.ret (.int 1)))]))) (sSeq (sAsg (setN 15) (callM F__law_end [.v (vr 2), .v (vr 9), .v (vr 14), .v (vr 4)])) (sIf (boolOf (ZZ.bin neD (una reprD (callK F_lawful_end [0, 1, 2, 3] [(vr 2), (vr 9), (vr 14), (vr 4)])) (una reprD (vr 15)))) (sRet (ZZ.ret (.bool false))) sNx))))
@[irreducible] noncomputable def L2 : M Fl := (sAsg (setN 11) (callM F__law_exposed [.v (vr 2), .v (vr 3), .v (vr 5), .v (vr 9), .v (vr 4), .v (getNM 8 (vr 9))]))
@[irreducible] noncomputable def L3 : M Fl := (sIf (boolOf (ZZ.bin neD (una reprD (callK F_exposed [0, 1, 2, 3, 4] [(vr 2), (vr 3), (vr 5), (vr 9), (vr 4)])) (una reprD (callM F__law_stretches [.v (vr 11)])))) (sRet (ZZ.ret (.bool false))) sNx)
@[irreducible] noncomputable def L4 : M Fl := (sIf (orM (ZZ.andM (boolOf (ZZ.bin neD (vr 11) (lstM []))) (boolOf (ZZ.bin leD (ZZ.bin ixD (vr 11) (ZZ.ret (.int 0))) (ZZ.bin subD (vr 5) (ZZ.bin mulD (ZZ.ret (.int 14)) (vr 1)))))) (boolOf (ZZ.bin neD (callM F_exposed [.v (vr 2), .v (vr 2), .v (vr 5), .v (vr 9), .v (vr 4)]) (tupM [])))) (sRet (ZZ.ret (.bool false))) sNx)
@[irreducible] noncomputable def L5 : M Fl := (sAsg (setN 12) (tupM [(vr 1), (ZZ.bin addD (slM (ZZ.bin ixD (vr 2) (ZZ.ret (.int 1))) none (some (ZZ.ret (.int 11)))) (tupM [(tupM [(ZZ.ret (.int 0)), (ZZ.ret (.int 0)), (ZZ.ret (.str "any")), (tupM []), (ZZ.ret (.str "barred"))])]))]))
@[irreducible] noncomputable def L6 : M Fl := (sAsg (setN 13) (tupM [(vr 1), (ZZ.bin addD (slM (ZZ.bin ixD (vr 3) (ZZ.ret (.int 1))) none (some (ZZ.ret (.int 11)))) (tupM [(tupM [(ZZ.ret (.int 0)), (ZZ.ret (.int 0)), (ZZ.ret (.str "any")), (tupM []), (ZZ.ret (.str "free"))])]))]))
@[irreducible] noncomputable def L7 : M Fl := (sIf (orM (boolOf (ZZ.bin neD (callM F_exposed [.v (vr 12), .v (vr 3), .v (vr 5), .v (vr 9), .v (vr 4)]) (tupM []))) (boolOf (ZZ.bin neD (callM F_exposed [.v (vr 2), .v (vr 13), .v (vr 5), .v (vr 9), .v (vr 4)]) (tupM [])))) (sRet (ZZ.ret (.bool false))) sNx)
@[irreducible] noncomputable def P0 : M Fl := (sAsg (setN 1) (una ZZ.intD (ZZ.bin addD (ZZ.ret (.int 1)) (callM F__law_take [.io 0, .v (ZZ.ret (.int 3))]))))
@[irreducible] noncomputable def P1 : M Fl := (sAsg (setT [2, 3, 4]) (tupM [(callM F__law_sign [.io 0, .v (vr 1), .v (ZZ.ret (.int 6))]), (callM F__law_sign [.io 0, .v (vr 1), .v (ZZ.ret (.int 4))]), (callM F__law_feasts [.io 0, .v (ZZ.ret (.int 12))])]))
@[irreducible] noncomputable def P2 : M Fl := (sAsg (setTr [6, 5]) (tupM [(una ZZ.intD (callM F__law_take [.io 0, .v (ZZ.bin mulD (ZZ.ret (.int 22)) (vr 1))])), (una ZZ.intD (ZZ.bin addD (ZZ.ret (.int 1)) (callM F__law_take [.io 0, .v (ZZ.ret (.int 5))])))]))
@[irreducible] noncomputable def P3 : M Fl := (sAsg (setN 6) (iteM (ZZ.andM (boolOf (ZZ.bin eqD (vr 1) (ZZ.ret (.int 1)))) (boolOf (ZZ.bin eqD (callM F__law_take [.io 0, .v (ZZ.ret (.int 3))]) (ZZ.ret (.int 0))))) (ZZ.ret (.int 60)) (vr 6)))
@[irreducible] noncomputable def P4 : M Fl := (sParN [7, 8] [.v (lstM [(ZZ.ret .none), (ZZ.ret (.str "bus")), (ZZ.ret (.str "van"))]), .o (ZZ.ret (.dict []))])
@[irreducible] noncomputable def P5 : M Fl := (sFor (walkA (vr 7)) (setN 9) (sSeq L0 (sSeq L1 (sSeq L2 (sSeq L3 (sSeq L4 (sSeq L5 (sSeq L6 L7))))))))
@[irreducible] noncomputable def P6 : M Fl := (sAsg (setN 15) (ZZ.ret .none))
@[irreducible] noncomputable def P7 : M Fl := (sFor (range2 [(vr 5), (ZZ.bin addD (vr 5) (ZZ.bin mulD (vr 6) (vr 1)))]) (setN 16) (sIf (ZZ.andM (boolOf (isN (vr 15))) (truM (una allD (lcM [9] (walkA (vr 7)) (setN 9) (ZZ.ret true) (ZZ.bin eqD (callM F__law_exposed [.v (vr 2), .v (vr 3), .v (vr 16), .v (vr 9), .v (vr 4), .v (getNM 8 (vr 9))]) (lstM [])))))) (sAsg (setN 15) (una ZZ.intD (vr 16))) sNx))
@[irreducible] noncomputable def P8 : M Fl := (sRet (ZZ.bin eqD (una reprD (callK F_safe_tick [0, 1, 2, 3, 4] [(vr 2), (vr 3), (vr 5), (vr 4), (vr 6)])) (una reprD (vr 15))))
theorem split_right : B__law_right = (sSeq P0 (sSeq P1 (sSeq P2 (sSeq P3 (sSeq P4 (sSeq P5 (sSeq P6 (sSeq P7 P8)))))))) := by
  unfold P0 P1 P2 P3 P4 P5 P6 P7 P8 L0 L1 L2 L3 L4 L5 L6 L7
  rfl
theorem l0_ok {h t days n : Int} {old new : List D} {fs : List Int} {k p : D} {s8 s10 s11 s12 s13 s14 s15 s16 : Sl} {psl : List (D × D)} {kk : Option Key} {Q : Fl → En → Prop} (h14 : s14 = .un ∨ ∃ d, s14 = .fz d) (hh : HoursOk h) (o : SOk h old) (hk : KindOk k) (hn : n = t + days * h) (n0 : 0 ≤ n) (n1 : n ≤ 500) (hm : mulOk days h = true)
    (hs : ndL (some s8) = some psl) (hl : psl.length < sizeLine) (hkk : keyN k = some kk)
    (q : Q .nx [.op p, .fz (.int h), .fz (sgD h old), .fz (sgD h new), .fz (.tuple (fs.map PyData.int)), .fz (.int t), .fz (.int days), .fz (.list KS), .nd (putD psl k (.list (IL (enL h old k fs n)))), .fz k, s10, s11, s12, s13, s14, s15, s16]) :
    Wp L0 [.op p, .fz (.int h), .fz (sgD h old), .fz (sgD h new), .fz (.tuple (fs.map PyData.int)), .fz (.int t), .fz (.int days), .fz (.list KS), s8, .fz k, s10, s11, s12, s13, s14, s15, s16] Q := by
  unfold L0
  have hrng := rng_ints 0 n
  rw [hn] at hrng n0 n1 q
  simp! [hm, rOk_s (a := t + days * h) (by omega), hrng]
  refine kLc_intsM (fun b => .int (finI h old k fs b)) (fun b hb => ?_) (by rw [rngL_len 0 (t + days * h), sizeLine_eq]; omega) ?_
  · obtain ⟨b0, b1⟩ := mem_rngL.mp hb
    have he := law_end_eq (fs := fs) (b := b) hh o hk b0 (by omega)
    simp! [he]; (repeat' (first | exact trivial | contradiction | rfl | refine And.intro ?_ ?_ | intro _))
  · have e : (rngL 0 (t + days * h)).map (fun b => PyData.int (finI h old k fs b)) = IL (enL h old k fs (t + days * h)) := by
      show _ = ((rngL 0 (t + days * h)).map (finI h old k fs)).map PyData.int
      rw [List.map_map]; rfl
    rw [e]
    rcases h14 with e14 | ⟨d14, e14⟩
    · rw [e14] at q ⊢
      simp! [hs, hkk, hl]
      exact q
    · rw [e14] at q ⊢
      simp! [hs, hkk, hl]
      exact q
theorem l1_ok {N h t days : Int} {old new : List D} {fs : List Int} {k p : D} {s8 s10 s11 s12 s13 s14 s15 s16 : Sl} {Q : Fl → En → Prop} (hh : HoursOk h) (o : SOk h old) (hk : KindOk k) (hf : FeastsOk (.tuple (fs.map PyData.int))) (t0 : 0 ≤ t) (t1 : t ≤ 200) (hp : PotOk N p) (hN : N ≤ 100000000)
    (q : ∀ (p' : D) (s10 : Sl) (d14 d15 : D), PotOk (N + 3) p' → Q .nx [.op p', .fz (.int h), .fz (sgD h old), .fz (sgD h new), .fz (.tuple (fs.map PyData.int)), .fz (.int t), .fz (.int days), .fz (.list KS), s8, .fz k, s10, s11, s12, s13, .fz d14, .fz d15, s16]) :
    Wp L1 [.op p, .fz (.int h), .fz (sgD h old), .fz (sgD h new), .fz (.tuple (fs.map PyData.int)), .fz (.int t), .fz (.int days), .fz (.list KS), s8, .fz k, s10, s11, s12, s13, s14, s15, s16] Q := by
  unfold L1
  have hrng := rng_ints 0 3
  simp! [rOk_s (a := 3) (by omega), hrng]
  refine wp_forL (fun rest e => ∃ (m : Nat) (p' : D) (s10 s14 s15 : Sl), rest.length + m = 3 ∧ PotOk (N + m) p' ∧ (m ≠ 0 → ∃ d14 d15, s14 = .fz d14 ∧ s15 = .fz d15) ∧ e = [.op p', .fz (.int h), .fz (sgD h old), .fz (sgD h new), .fz (.tuple (fs.map PyData.int)), .fz (.int t), .fz (.int days), .fz (.list KS), s8, .fz k, s10, s11, s12, s13, s14, s15, s16]) ?_ ?_ _ _ ⟨0, p, s10, s14, s15, by rw [List.length_map, rngL_len]; rfl, by simpa using hp, fun q => absurd rfl q, rfl⟩
  · intro d rest e hI
    obtain ⟨m, p', s10, s14, s15, hm, hp', _, he⟩ := hI
    rw [List.length_cons] at hm
    rw [he]
    simp! []
    refine (take_ok (u := t + 1) hp' (by omega) (by omega) (by omega)).mono ?_
    intro _ os hx
    obtain ⟨b, p2, e1, e2, b0, b1, hp2⟩ := hx
    rw [e1, e2]
    have a1 := law_end_eq (fs := fs) (b := b) hh o hk b0 (by omega)
    have a2 := lawful_end_eq (fs := fs) (b := b) hh o hk hf b0 (by omega)
    have a3 := fin_b (b := b) (hours_b hh).1 o k fs
    have hB := hours_b hh
    obtain ⟨z, hz⟩ := repr_int (n := finI h old k fs b) (by omega) (by omega)
    simp! [a1, a2, hz, ne_str, kTurn_nx]
    exact ⟨m + 1, p2, _, _, _, by omega, hp2.mono (by omega), fun _ => ⟨_, _, rfl, rfl⟩, rfl⟩
  · intro e hI
    obtain ⟨m, p', s10, s14, s15, hm, hp', hs, he⟩ := hI
    rw [List.length_nil] at hm
    obtain ⟨d14, d15, e1, e2⟩ := hs (by omega)
    rw [he, e1, e2]
    exact q p' s10 d14 d15 (hp'.mono (by omega))
theorem l27_ok {h t days n : Int} {old new : List D} {fs : List Int} {k p : D} {psl : List (D × D)} {kk : Option Key} {s10 s11 s12 s13 s16 : Sl} {d14 d15 : D} {Q : Fl → En → Prop} (hh : HoursOk h) (o : SOk h old) (o2 : SOk h new) (hk : KindOk k) (hf : FeastsOk (.tuple (fs.map PyData.int))) (t0 : 0 ≤ t) (t1 : t ≤ 200) (tn : t ≤ n) (n1 : n ≤ 500)
    (hkk : keyN k = some kk) (hg : getK psl k = some (.list (IL (enL h old k fs n))))
    (q : ∀ (s11 s12 s13 : Sl), Q .nx [.op p, .fz (.int h), .fz (sgD h old), .fz (sgD h new), .fz (.tuple (fs.map PyData.int)), .fz (.int t), .fz (.int days), .fz (.list KS), .nd psl, .fz k, s10, s11, s12, s13, .fz d14, .fz d15, s16]) :
    Wp (sSeq L2 (sSeq L3 (sSeq L4 (sSeq L5 (sSeq L6 L7))))) [.op p, .fz (.int h), .fz (sgD h old), .fz (sgD h new), .fz (.tuple (fs.map PyData.int)), .fz (.int t), .fz (.int days), .fz (.list KS), .nd psl, .fz k, s10, s11, s12, s13, .fz d14, .fz d15, s16] Q := by
  have hB := hours_b hh
  have a1 := law_exposed_eq (fs := fs) hh o o2 hk t0 tn (by omega)
  have a2 := exposed_eq (fs := fs) hh o o2 hk hf t0 (by omega)
  have a3 := exposed_eq (fs := fs) hh o o hk hf t0 (by omega)
  have wb : WordOk (.str "barred") := .inr (.inl rfl)
  have wf : WordOk (.str "free") := .inl rfl
  have a4 := exposed_eq (fs := fs) hh (top_sok hh wb o) o2 hk hf t0 (by omega)
  have a5 := exposed_eq (fs := fs) hh o (top_sok hh wf o2) hk hf t0 (by omega)
  rw [ex_self hh o] at a3
  rw [ex_bar hh o] at a4
  rw [ex_fre hh o o2] at a5
  unfold topR at a4 a5
  have m14 := mulOk_l (i := 14) (j := h) (by omega)
  obtain ⟨z, hz⟩ := repr_st (h := h) (t := t) (old := old) (new := new) (k := k) (fs := fs) (by omega)
  have hmm : ∀ x ∈ exL h old new k fs t, t - 14 * h < x := fun x hx => (ex_low hh o (exL_mem hx).2 (List.mem_filter.mp hx).2).1
  have hll := exL_len (h := h) (old := old) (new := new) (k := k) (fs := fs) (t := t)
  have c1 : cutD old none (some 11) = old.take 11 := cutD_take old 11
  have c2 : cutD new none (some 11) = new.take 11 := cutD_take new 11
  have tk1 : (old.take 11).length + 1 ≤ sizeLine := by rw [List.length_take, sizeLine_eq]; omega
  have tk2 : (new.take 11).length + 1 ≤ sizeLine := by rw [List.length_take, sizeLine_eq]; omega
  generalize exL h old new k fs t = X at *
  have a6 := law_stretches_eq (l := X) (by omega)
  have hne := ne_il0 X
  unfold L2 L3 L4
  cases X with
  | nil =>
    simp only [IL, List.map_nil, List.isEmpty_nil] at hne a1 a6
    simp! [pickD_5, hkk, hg, a1, a2, a6, hz, ne_str, hne, a3, ne_t0]
    unfold L5 L6 L7
    simp! [c1, c2, a4, a5, ne_t0, tk1, tk2]
    exact q _ _ _
  | cons x xs =>
    simp only [IL, List.map_cons, List.isEmpty_cons] at hne a1 a6
    have hx : decide (x ≤ t - 14 * h) = false := decide_eq_false (by have := hmm x List.mem_cons_self; omega)
    simp! [pickD_5, hkk, hg, a1, a2, a6, hz, ne_str, hne, m14, hx, a3, ne_t0]
    unfold L5 L6 L7
    simp! [c1, c2, a4, a5, ne_t0, tk1, tk2]
    exact q _ _ _
/-! ### the dict of all kinds' ends -/
abbrev eP (h : Int) (old : List D) (fs : List Int) (n : Int) (k : D) : D × D := (k, .list (IL (enL h old k fs n)))
theorem put0 (v : D) : putD [] .none v = [(.none, v)] := rfl
theorem put1 (v w : D) : putD [(.none, v)] (.str "bus") w = [(.none, v), (.str "bus", w)] := rfl
theorem put2 (v w x : D) : putD [(.none, v), (.str "bus", w)] (.str "van") x = [(.none, v), (.str "bus", w), (.str "van", x)] := rfl
theorem get0 (v : D) (l : List (D × D)) : getK ((.none, v) :: l) .none = some v := rfl
theorem get1 (v w : D) (l : List (D × D)) : getK ((.none, v) :: (.str "bus", w) :: l) (.str "bus") = some w := rfl
theorem get2 (v w x : D) (l : List (D × D)) : getK ((.none, v) :: (.str "bus", w) :: (.str "van", x) :: l) (.str "van") = some x := rfl
theorem getKS {h n : Int} {old : List D} {fs : List Int} : ∀ k ∈ KS, ∃ kk, keyN k = some kk ∧ getK (KS.map (eP h old fs n)) k = some (.list (IL (enL h old k fs n))) := by
  intro k hk
  simp only [List.mem_cons, List.not_mem_nil, or_false] at hk
  rcases hk with rfl | rfl | rfl
  · exact ⟨_, rfl, rfl⟩
  · exact ⟨_, rfl, rfl⟩
  · exact ⟨_, rfl, rfl⟩
theorem eq_il0 (xs : List Int) : eqD (.list (IL xs)) (.list []) = some (.bool xs.isEmpty) := by
  have := ne_il0 xs
  unfold neD at this
  unfold eqD
  have s : strs2 (.list (IL xs)) (.list []) = none := rfl
  rw [s] at this ⊢
  simp only at this ⊢
  by_cases c : SeqAt.shaped (.list (IL xs)) = true ∧ SeqAt.shaped (.list []) = true
  · rw [if_pos c] at this ⊢
    cases xs <;> rfl
  · rw [if_neg c] at this; cases this
theorem p5_ok {N h t days n : Int} {old new : List D} {fs : List Int} {p : D} {Q : Fl → En → Prop} (hh : HoursOk h) (o : SOk h old) (o2 : SOk h new) (hf : FeastsOk (.tuple (fs.map PyData.int))) (t0 : 0 ≤ t) (t1 : t ≤ 200) (hn : n = t + days * h) (tn : t ≤ n) (n1 : n ≤ 500) (hm : mulOk days h = true) (hp : PotOk N p) (hN : N ≤ 10000000)
    (q : ∀ (p' d9 : D) (s10 s11 s12 s13 s14 s15 : Sl), PotOk (N + 9) p' → Q .nx [.op p', .fz (.int h), .fz (sgD h old), .fz (sgD h new), .fz (.tuple (fs.map PyData.int)), .fz (.int t), .fz (.int days), .fz (.list KS), .nd (KS.map (eP h old fs n)), .fz d9, s10, s11, s12, s13, s14, s15, .un]) :
    Wp P5 [.op p, .fz (.int h), .fz (sgD h old), .fz (sgD h new), .fz (.tuple (fs.map PyData.int)), .fz (.int t), .fz (.int days), .fz (.list KS), .op (.dict []), .un, .un, .un, .un, .un, .un, .un, .un] Q := by
  have body : ∀ {k p : D} {s8 s9 s10 s11 s12 s13 s14 s15 : Sl} {psl : List (D × D)} {kk : Option Key} {M : Int} {R : Fl → En → Prop}, KindOk k → PotOk M p → M ≤ 100000000 → (s14 = .un ∨ ∃ d, s14 = .fz d) → ndL (some s8) = some psl → psl.length < sizeLine → keyN k = some kk → getK (putD psl k (.list (IL (enL h old k fs n)))) k = some (.list (IL (enL h old k fs n))) →
      (∀ (p' : D) (s10 s11 s12 s13 s15 : Sl) (d14 : D), PotOk (M + 3) p' → R .nx [.op p', .fz (.int h), .fz (sgD h old), .fz (sgD h new), .fz (.tuple (fs.map PyData.int)), .fz (.int t), .fz (.int days), .fz (.list KS), .nd (putD psl k (.list (IL (enL h old k fs n)))), .fz k, s10, s11, s12, s13, .fz d14, s15, .un]) →
      onS (setN 9 k [.op p, .fz (.int h), .fz (sgD h old), .fz (sgD h new), .fz (.tuple (fs.map PyData.int)), .fz (.int t), .fz (.int days), .fz (.list KS), s8, s9, s10, s11, s12, s13, s14, s15, .un]) fun e1 => Wp (sSeq L0 (sSeq L1 (sSeq L2 (sSeq L3 (sSeq L4 (sSeq L5 (sSeq L6 L7))))))) e1 R := by
    intro k p s8 s9 s10 s11 s12 s13 s14 s15 psl kk M R hk hp hM h14 hs hl hkk hg r
    simp only [setN_s, setN_z, Option.map_some, onS_s, wp_seq]
    refine l0_ok h14 hh o hk hn (by omega) n1 hm hs hl hkk ?_
    simp only [kSeq_nx]
    simp only [wp_seq]
    refine l1_ok hh o hk hf t0 t1 hp hM fun p1 s10 d14 d15 hp1 => ?_
    simp only [kSeq_nx]
    exact l27_ok hh o o2 hk hf t0 t1 tn n1 hkk hg fun s11 s12 s13 => r p1 _ _ _ _ _ _ hp1
  unfold P5
  simp! []
  refine wp_forL (fun rest e => ∃ (j : Nat) (p' : D) (s8 s9 s10 s11 s12 s13 s14 s15 : Sl), j ≤ 3 ∧ rest = KS.drop j ∧ PotOk (N + 3 * j) p' ∧ (s14 = .un ∨ ∃ d, s14 = .fz d) ∧ (j ≠ 0 → ∃ d9, s9 = .fz d9) ∧ (s8 = if j = 0 then .op (.dict []) else .nd ((KS.take j).map (eP h old fs n))) ∧ e = [.op p', .fz (.int h), .fz (sgD h old), .fz (sgD h new), .fz (.tuple (fs.map PyData.int)), .fz (.int t), .fz (.int days), .fz (.list KS), s8, s9, s10, s11, s12, s13, s14, s15, .un]) ?_ ?_ _ _ ⟨0, p, _, .un, .un, .un, .un, .un, .un, .un, by omega, rfl, by simpa using hp, .inl rfl, fun q => absurd rfl q, rfl, rfl⟩
  · intro d rest e hI
    obtain ⟨j, p', s8, s9, s10, s11, s12, s13, s14, s15, hj, hrest, hp', h14, h9, h8, he⟩ := hI
    rw [he]
    have : j = 0 ∨ j = 1 ∨ j = 2 ∨ j = 3 := by omega
    rcases this with e0 | e0 | e0 | e0
    · rw [e0] at hrest h8 hp'
      injection hrest with q1 q2
      rw [q1]
      rw [if_pos rfl] at h8
      refine body (psl := []) (.inl rfl) hp' (by omega) h14 (by rw [h8]; rfl) (by rw [sizeLine_eq]; simp) rfl rfl ?_
      intro p2 s10 s11 s12 s13 s15 d14 hp2
      simp only [kTurn_nx]
      exact ⟨1, p2, _, _, s10, s11, s12, s13, _, s15, by omega, q2, hp2.mono (by omega), .inr ⟨d14, rfl⟩, fun _ => ⟨_, rfl⟩, rfl, rfl⟩
    · rw [e0] at hrest h8 hp'
      injection hrest with q1 q2
      rw [q1]
      rw [if_neg (by omega)] at h8
      refine body (psl := (KS.take 1).map (eP h old fs n)) (.inr (.inr (.inl rfl))) hp' (by omega) h14 (by rw [h8]; rfl) (by rw [sizeLine_eq]; simp) rfl rfl ?_
      intro p2 s10 s11 s12 s13 s15 d14 hp2
      simp only [kTurn_nx]
      exact ⟨2, p2, _, _, s10, s11, s12, s13, _, s15, by omega, q2, hp2.mono (by omega), .inr ⟨d14, rfl⟩, fun _ => ⟨_, rfl⟩, rfl, rfl⟩
    · rw [e0] at hrest h8 hp'
      injection hrest with q1 q2
      rw [q1]
      rw [if_neg (by omega)] at h8
      refine body (psl := (KS.take 2).map (eP h old fs n)) (.inr (.inl rfl)) hp' (by omega) h14 (by rw [h8]; rfl) (by rw [sizeLine_eq]; simp) rfl rfl ?_
      intro p2 s10 s11 s12 s13 s15 d14 hp2
      simp only [kTurn_nx]
      exact ⟨3, p2, _, _, s10, s11, s12, s13, _, s15, by omega, q2, hp2.mono (by omega), .inr ⟨d14, rfl⟩, fun _ => ⟨_, rfl⟩, rfl, rfl⟩
    · rw [e0] at hrest
      cases hrest
  · intro e hI
    obtain ⟨j, p', s8, s9, s10, s11, s12, s13, s14, s15, hj, hrest, hp', h14, h9, h8, he⟩ := hI
    have : j = 0 ∨ j = 1 ∨ j = 2 ∨ j = 3 := by omega
    rcases this with e0 | e0 | e0 | e0
    · rw [e0] at hrest; cases hrest
    · rw [e0] at hrest; cases hrest
    · rw [e0] at hrest; cases hrest
    · rw [e0] at h8 hp'
      rw [if_neg (by omega)] at h8
      obtain ⟨d9, e9⟩ := h9 (by omega)
      rw [he, h8, e9]
      exact q p' _ _ _ _ _ _ _ (hp'.mono (by omega))
theorem p7_ok {h t days n : Int} {old new : List D} {fs : List Int} {p : D} {d9 : D} {s10 s11 s12 s13 s14 : Sl} {Q : Fl → En → Prop} (hh : HoursOk h) (o : SOk h old) (o2 : SOk h new) (t0 : 0 ≤ t) (t1 : t ≤ 200) (hn : n = t + days * h) (tn : t ≤ n) (n1 : n ≤ 500) (hm : mulOk days h = true)
    (q : ∀ (s16 : Sl), Q .nx [.op p, .fz (.int h), .fz (sgD h old), .fz (sgD h new), .fz (.tuple (fs.map PyData.int)), .fz (.int t), .fz (.int days), .fz (.list KS), .nd (KS.map (eP h old fs n)), .fz d9, s10, s11, s12, s13, s14, .fz (oD ((rngL t n).find? (safeB h old new KS fs))), s16]) :
    Wp P7 [.op p, .fz (.int h), .fz (sgD h old), .fz (sgD h new), .fz (.tuple (fs.map PyData.int)), .fz (.int t), .fz (.int days), .fz (.list KS), .nd (KS.map (eP h old fs n)), .fz d9, s10, s11, s12, s13, s14, .fz .none, .un] Q := by
  unfold P7
  have hrng := rng_ints t n
  rw [hn] at hrng
  simp! [hm, rOk_s (a := t) (by omega), rOk_s (a := t + days * h) (by omega), hrng]
  rw [← hn]
  refine wp_forL (fun rest e => ∃ (s : Int) (s16 : Sl), t ≤ s ∧ s ≤ n ∧ rest = IL (rngL s n) ∧ e = [.op p, .fz (.int h), .fz (sgD h old), .fz (sgD h new), .fz (.tuple (fs.map PyData.int)), .fz (.int t), .fz (.int days), .fz (.list KS), .nd (KS.map (eP h old fs n)), .fz d9, s10, s11, s12, s13, s14, .fz (oD ((rngL t s).find? (safeB h old new KS fs))), s16]) ?_ ?_ _ _ ⟨t, .un, by omega, tn, rfl, by rw [rngL_none (by omega)]; rfl⟩
  · intro d rest e hI
    obtain ⟨s, s16, s0, s1, hrest, he⟩ := hI
    obtain ⟨s2, q1, q2⟩ := rngL_cons hrest
    have hsn : (rngL t (s + 1)).find? (safeB h old new KS fs) = ((rngL t s).find? (safeB h old new KS fs)).or (if safeB h old new KS fs s = true then some s else none) := by
      rw [rngL_snoc s0, List.find?_append]
      congr 1
      rw [List.find?_cons]
      cases safeB h old new KS fs s <;> rfl
    rw [he, q1]
    cases hfd : (rngL t s).find? (safeB h old new KS fs) with
    | some y =>
      rw [hfd] at hsn
      simp! [oD, kTurn_nx]
      exact ⟨s + 1, _, by omega, by omega, q2, by rw [hsn]; rfl⟩
    | none =>
      rw [hfd] at hsn
      simp! [oD]
      refine kLc_map (fun k => .bool (exL h old new k fs s).isEmpty) (fun k hk => ?_) (by rw [sizeLine_eq]; simp) ?_
      · have he := law_exposed_eq (fs := fs) (t := s) (n := n) hh o o2 (KS_ok k hk) (by omega) s1 (by omega)
        obtain ⟨kk, hkk, hg⟩ := getKS (h := h) (n := n) (old := old) (fs := fs) k hk
        simp! [hkk, hg, he, eq_il0]; (repeat' (first | exact trivial | contradiction | rfl | refine And.intro ?_ ?_ | intro _))
      · have ha : allD (.list (KS.map fun k => .bool (exL h old new k fs s).isEmpty)) = some (.bool (safeB h old new KS fs s)) := by
          rw [allD_b]
          unfold safeB badB
          simp only [Bool.not_not]
        simp! [ha]
        cases hc : safeB h old new KS fs s with
        | true =>
          rw [hc, if_pos rfl] at hsn
          simp! [kTurn_nx]
          exact ⟨s + 1, _, by omega, by omega, q2, by rw [hsn]; rfl⟩
        | false =>
          rw [hc, if_neg Bool.false_ne_true] at hsn
          simp! [kTurn_nx]
          exact ⟨s + 1, _, by omega, by omega, q2, by rw [hsn]; rfl⟩
  · intro e hI
    obtain ⟨s, s16, s0, s1, hrest, he⟩ := hI
    have := rngL_fin hrest
    obtain rfl : s = n := by omega
    rw [he]
    exact q _
end Vk21

namespace Vk21
open PySem PySem.Spec PyProof.Rows L2 ZZ
@[irreducible] noncomputable def W0 : M Fl := (sAsg (setT [1, 2, 3]) (tupM [(callM F__law_sign [.io 0, .v (ZZ.ret (.int 24)), .v (ZZ.ret (.int 3))]), (callM F__law_sign [.io 0, .v (ZZ.ret (.int 24)), .v (ZZ.ret (.int 3))]), (callM F__law_feasts [.io 0, .v (ZZ.ret (.int 3))])]))
@[irreducible] noncomputable def W1 : M Fl := (sAsg (setT [4, 5]) (tupM [(una ZZ.intD (callM F__law_take [.io 0, .v (ZZ.ret (.int 40))])), (callM F__law_of [.io 0, .v (lstM [(ZZ.ret .none), (ZZ.ret (.str "van"))])])]))
@[irreducible] noncomputable def W2 : M Fl := (sAsg (setN 6) (lcM [7] (range1 [(vr 4)]) (setN 7) (ZZ.ret true) (callM F__law_end [.v (vr 1), .v (vr 5), .v (vr 7), .v (vr 3)])))
@[irreducible] noncomputable def W3 : M Fl := (sAsg (setN 8) (callM F__law_exposed [.v (vr 1), .v (vr 2), .v (vr 4), .v (vr 5), .v (vr 3), .v (vr 6)]))
@[irreducible] noncomputable def W4 : M Fl := (sIf (boolOf (ZZ.bin neD (una reprD (callM F_exposed [.v (vr 1), .v (vr 2), .v (vr 4), .v (vr 5), .v (vr 3)])) (una reprD (callM F__law_stretches [.v (vr 8)])))) (sRet (ZZ.ret (.bool false))) sNx)
@[irreducible] noncomputable def W5 : M Fl := (sRet (una allD (lcM [7] (range3p [(ZZ.ret (.int 0)), (vr 4), (ZZ.ret (.int 5))]) (setN 7) (ZZ.ret true) (ZZ.bin eqD (una reprD (callM F_lawful_end [.v (vr 1), .v (vr 5), .v (vr 7), .v (vr 3)])) (una reprD (ZZ.bin ixD (vr 6) (vr 7)))))))
theorem split_wide : B__law_is_wide_right = (sSeq W0 (sSeq W1 (sSeq W2 (sSeq W3 (sSeq W4 W5))))) := by
  unfold W0 W1 W2 W3 W4 W5
  rfl
theorem right_ok {N : Int} {pt : D} (hp : PotOk N pt) (hN : N ≤ 1000000) : Fwp (F__law_right [pt]) fun d outs => ∃ p', d = .bool true ∧ outs = [p'] ∧ PotOk (N + 3000) p' := by
  unfold F__law_right
  rw [fwp_mk, split_right]
  simp! []
  unfold P0
  simp! []
  refine (take_ok (u := 3) hp (by omega) (by omega) (by omega)).mono ?_
  intro _ os hx
  obtain ⟨k, p1, e1, e2, k0, k1, hp1⟩ := hx
  rw [e1, e2]
  simp! []
  generalize hh0 : (1 : Int) + k = h at *
  have hb : 1 ≤ h ∧ h ≤ 3 := by omega
  have hh : HoursOk h := by
    have : h = 1 ∨ h = 2 ∨ h = 3 := by omega
    rcases this with r | r | r
    · exact .inl r
    · exact .inr (.inl r)
    · exact .inr (.inr (.inl r))
  unfold P1
  simp! []
  refine (sign_ok (most := 6) (by omega) (by omega) hp1 (by omega) hh).mono ?_
  intro d os hx
  obtain ⟨p2, old, e1, hl, hr, e2, hp2⟩ := hx
  rw [e1, e2]
  simp! []
  refine (sign_ok (most := 4) (by omega) (by omega) hp2 (by omega) hh).mono ?_
  intro d os hx
  obtain ⟨p3, new, e1, hl2, hr2, e2, hp3⟩ := hx
  rw [e1, e2]
  simp! []
  refine (feasts_ok (m := 12) (by omega) (by omega) hp3 (by omega)).mono ?_
  intro d os hx
  obtain ⟨p4, fs, e1, hfl, hfp, hfa, e2, hp4⟩ := hx
  rw [e1, e2]
  have o : SOk h old := ⟨by omega, hr⟩
  have o2 : SOk h new := ⟨by omega, hr2⟩
  have hf : FeastsOk (.tuple (fs.map PyData.int)) := ⟨fs, rfl, by omega, hfp, fun x hx => by have := hfa x hx; omega⟩
  have m22 := mulOk_l (i := 22) (j := h) (by omega)
  unfold P2
  simp! [m22]
  refine (take_ok (u := 22 * h) hp4 (by omega) (by omega) (by omega)).mono ?_
  intro _ os hx
  obtain ⟨t, p5, e1, e2, t0, t1, hp5⟩ := hx
  rw [e1, e2]
  simp! []
  refine (take_ok (u := 5) hp5 (by omega) (by omega) (by omega)).mono ?_
  intro _ os hx
  obtain ⟨dd, p6, e1, e2, d0, d1, hp6⟩ := hx
  rw [e1, e2]
  simp! []
  have rest : ∀ (days : Int) (p7 : D), 1 ≤ days → days ≤ 60 → days * h ≤ 60 → 0 ≤ days * h → PotOk (N + 2020) p7 → Wp (sSeq P4 (sSeq P5 (sSeq P6 (sSeq P7 P8)))) [.op p7, .fz (.int h), .fz (sgD h old), .fz (sgD h new), .fz (.tuple (fs.map PyData.int)), .fz (.int t), .fz (.int days), .un, .un, .un, .un, .un, .un, .un, .un, .un, .un] (endF [true] fun d outs => ∃ p', d = .bool true ∧ outs = [p'] ∧ PotOk (N + 3000) p') := by
    intro days p7 g0 g1 g2 g3 hp7
    have hm := mulOk_r (i := days) (j := h) (by omega)
    generalize hn : t + days * h = n
    unfold P4
    simp! []
    refine p5_ok (n := n) hh o o2 hf t0 (by omega) hn.symm (by omega) (by omega) hm hp7 (by omega) ?_
    intro p8 d9 s10 s11 s12 s13 s14 s15 hp8
    unfold P6
    simp! []
    refine p7_ok (n := n) hh o o2 t0 (by omega) hn.symm (by omega) (by omega) hm ?_
    intro s16
    have hs := safe_tick_eq (fs := fs) (t := t) (days := days) hh o o2 hf t0 (by omega) g0 g1 (by omega)
    rw [find_congr fun b _ => safe_kinds o o2, hn] at hs
    obtain ⟨z, hz⟩ := repr_oD (o := (rngL t n).find? (safeB h old new KS fs)) fun x hx => by
      have := mem_rngL.mp (List.mem_of_find?_eq_some hx)
      omega
    unfold P8
    simp! [pickD_5, hs, hz, eq_str]
    exact ⟨p8, rfl, hp8.mono (by omega)⟩
  unfold P3
  by_cases c : h = 1
  · have c' := decide_eq_true c
    simp! [c']
    refine (take_ok (u := 3) hp6 (by omega) (by omega) (by omega)).mono ?_
    intro _ os hx
    obtain ⟨l, p7, e1, e2, l0, l1, hp7⟩ := hx
    rw [e1, e2]
    simp! []
    by_cases c2 : l = 0
    · have c2' := decide_eq_true c2
      simp! [c2']
      have := rest 60 p7 (by omega) (by omega) (by omega) (by omega) (hp7.mono (by omega))
      simp! [] at this
      exact this
    · have c2' := decide_eq_false c2
      simp! [c2']
      have := rest (1 + dd) p7 (by omega) (by omega) (by rw [c]; omega) (by rw [c]; omega) (hp7.mono (by omega))
      simp! [] at this
      exact this
  · have c' := decide_eq_false c
    simp! [c']
    have e23 : h = 2 ∨ h = 3 := by omega
    have := rest (1 + dd) p6 (by omega) (by omega) (by rcases e23 with r | r <;> rw [r] <;> omega) (by rcases e23 with r | r <;> rw [r] <;> omega) (hp6.mono (by omega))
    simp! [] at this
    exact this
def chk5 (t : Int) : Bool := rg3Ok 0 t 5 && ((List.range (rsz 0 t 5)).map fun i : Nat => (0 : Int) + (i : Int) * 5).all fun x => decide (0 ≤ x) && decide (x < t)
theorem chk5_all : ((List.range 40).all fun n : Nat => chk5 (n : Int)) = true := by decide +kernel
theorem range5 {t : Int} (t0 : 0 ≤ t) (t1 : t < 40) : ∃ xs : List Int, irg3 [.int 0, .int t, .int 5] = some (IL xs) ∧ (∀ x ∈ xs, 0 ≤ x ∧ x < t) ∧ xs.length ≤ 100000 := by
  have h := List.all_eq_true.mp chk5_all t.toNat (List.mem_range.mpr (by omega))
  rw [show ((t.toNat : Nat) : Int) = t by omega] at h
  unfold chk5 at h
  rw [Bool.and_eq_true, List.all_eq_true] at h
  have hl := (rg3Ok_of h.1).2
  refine ⟨(List.range (rsz 0 t 5)).map fun i : Nat => (0 : Int) + (i : Int) * 5, ?_, fun x hx => ?_, ?_⟩
  · show (if rg3Ok 0 t 5 = true then some (rngC 0 5 (rsz 0 t 5)) else none) = _
    rw [if_pos h.1]
    unfold rngC
    rw [IL, List.map_map]; rfl
  · have := h.2 x hx
    simp only [Bool.and_eq_true, decide_eq_true_eq] at this
    exact this
  · rw [List.length_map, List.length_range]
    have : (rsz 0 t 5 : Nat) ≤ 8 := by
      have q : ((List.range 40).all fun n : Nat => decide (rsz 0 (n : Int) 5 ≤ 8)) = true := by decide +kernel
      have := List.all_eq_true.mp q t.toNat (List.mem_range.mpr (by omega))
      rw [show ((t.toNat : Nat) : Int) = t by omega] at this
      exact of_decide_eq_true this
    omega
theorem wide_ok {N : Int} {pt : D} (hp : PotOk N pt) (hN : N ≤ 1000000) : Fwp (F__law_is_wide_right [pt]) fun d outs => ∃ p', d = .bool true ∧ outs = [p'] ∧ PotOk (N + 3000) p' := by
  have hh : HoursOk 24 := .inr (.inr (.inr (.inr rfl)))
  unfold F__law_is_wide_right
  rw [fwp_mk, split_wide]
  simp! []
  unfold W0
  simp! []
  refine (sign_ok (most := 3) (by omega) (by omega) hp (by omega) hh).mono ?_
  intro d os hx
  obtain ⟨p2, old, e1, hl, hr, e2, hp2⟩ := hx
  rw [e1, e2]
  simp! []
  refine (sign_ok (most := 3) (by omega) (by omega) hp2 (by omega) hh).mono ?_
  intro d os hx
  obtain ⟨p3, new, e1, hl2, hr2, e2, hp3⟩ := hx
  rw [e1, e2]
  simp! []
  refine (feasts_ok (m := 3) (by omega) (by omega) hp3 (by omega)).mono ?_
  intro d os hx
  obtain ⟨p4, fs, e1, hfl, hfp, hfa, e2, hp4⟩ := hx
  rw [e1, e2]
  have o : SOk 24 old := ⟨by omega, hr⟩
  have o2 : SOk 24 new := ⟨by omega, hr2⟩
  have hf : FeastsOk (.tuple (fs.map PyData.int)) := ⟨fs, rfl, by omega, hfp, fun x hx => by have := hfa x hx; omega⟩
  unfold W1
  simp! []
  refine (take_ok (u := 40) hp4 (by omega) (by omega) (by omega)).mono ?_
  intro _ os hx
  obtain ⟨t, p5, e1, e2, t0, t1, hp5⟩ := hx
  rw [e1, e2]
  simp! []
  refine (of_ok hp5 (by omega) (by simp) (by simp)).mono ?_
  intro k os hx
  obtain ⟨p6, hm, e2, hp6⟩ := hx
  rw [e2]
  have hk : KindOk k := by
    simp only [List.mem_cons, List.not_mem_nil, or_false] at hm
    rcases hm with r | r
    · exact .inl r
    · exact .inr (.inl r)
  have hrng := rng_ints 0 t
  unfold W2
  simp! [rOk_s (a := t) (by omega), hrng]
  refine kLc_intsM (fun b => .int (finI 24 old k fs b)) (fun b hb => ?_) (by rw [rngL_len 0 t, sizeLine_eq]; omega) ?_
  · obtain ⟨b0, b1⟩ := mem_rngL.mp hb
    have he := law_end_eq (fs := fs) (b := b) hh o hk b0 (by omega)
    simp! [he]; (repeat' (first | exact trivial | contradiction | rfl | refine And.intro ?_ ?_ | intro _))
  · have e : (rngL 0 t).map (fun b => PyData.int (finI 24 old k fs b)) = IL (enL 24 old k fs t) := by
      show _ = ((rngL 0 t).map (finI 24 old k fs)).map PyData.int
      rw [List.map_map]; rfl
    rw [e]
    have a1 := law_exposed_eq (fs := fs) (n := t) hh o o2 hk t0 (by omega) (by omega)
    have a2 := exposed_eq (fs := fs) hh o o2 hk hf t0 (by omega)
    obtain ⟨z, hz⟩ := repr_st (h := 24) (t := t) (old := old) (new := new) (k := k) (fs := fs) (by omega)
    have hll := exL_len (h := 24) (old := old) (new := new) (k := k) (fs := fs) (t := t)
    have a6 := law_stretches_eq (l := exL 24 old new k fs t) (by omega)
    unfold W3 W4
    simp! [pickD_5, a1, a2, a6, hz, ne_str]
    obtain ⟨xs, hx1, hx2, hx3⟩ := range5 t0 t1
    unfold W5
    simp! [hx1]
    refine kLc_intsM (fun b => .bool true) (fun b hb => ?_) (by rw [sizeLine_eq]; omega) ?_
    · obtain ⟨b0, b1⟩ := hx2 b hb
      have a7 := lawful_end_eq (fs := fs) (b := b) hh o hk hf b0 (by omega)
      have a8 := enL_at (h := 24) (n := t) (old := old) (k := k) (fs := fs) b0 b1
      have a3 := fin_b (b := b) (h := 24) (by omega) o k fs
      obtain ⟨z, hz⟩ := repr_int (n := finI 24 old k fs b) (by omega) (by omega)
      simp! [a7, a8, hz, eq_str]; (repeat' (first | exact trivial | contradiction | rfl | refine And.intro ?_ ?_ | intro _))
    · have ha : allD (.list (xs.map fun _ => PyData.bool true)) = some (.bool true) := by
        rw [allD_b (fun _ => true)]
        simp
      simp! [ha]
      exact ⟨p6, rfl, hp6.mono (by omega)⟩
theorem good (ns : List Int) (h : ns.length ≤ 63) (hb : ∀ z ∈ ns, Builtin.Int.intBits z ≤ 1048576) : ∃ outs, F_law [.list (ns.map PyData.int)] = .ok (.bool true) outs := by
  refine ⟨[], fo_eq ?_⟩
  obtain ⟨k, hk, hcells⟩ := cells_ok ns h
  unfold F_law
  rw [fwp_mk]
  simp! [B_law]
  refine hcells.mono ?_
  intro d os hx
  obtain ⟨e1, e2⟩ := hx
  rw [e1, e2]
  simp! []
  refine wp_forL (fun rest e0 => ∃ (s1 s2 : Sl), (∀ d ∈ rest, ∃ t : Int, d = .int t ∧ 0 ≤ t ∧ t ≤ 1) ∧ e0 = [.fz (.list (ns.map PyData.int)), s1, s2, .un]) ?_ ?_ _ _ ⟨_, _, fun d hd => ?_, rfl⟩
  · intro d rest e0 hI
    obtain ⟨s1, s2, hds, he⟩ := hI
    obtain ⟨t, ht, t0, t1⟩ := hds d List.mem_cons_self
    rw [he, ht]
    simp! []
    refine (pot_ok ns t t0 t1).mono ?_
    intro p os hx
    obtain ⟨hp, e2⟩ := hx
    rw [e2]
    simp! [rOk_s (a := 2) (by omega)]
    refine kLc_of (fun rest acc e => ∃ p' : D, e = [.fz (.list (ns.map PyData.int)), .fz (.int t), .op p', .un] ∧ acc = List.replicate acc.length (.bool true) ∧ acc.length + rest.length ≤ 2 ∧ PotOk (3000 * acc.length) p') ?_ ?_ ?_
    · simp! []
      refine ⟨p, rfl, ?_, by simpa using hp⟩
      rw [rng_len]; simp
    · intro d rest2 acc e0 hJ
      obtain ⟨p', he, ha, hn, hp'⟩ := hJ
      rw [List.length_cons] at hn
      rw [he]
      simp! []
      refine (right_ok hp' (by omega)).mono ?_
      intro d os hx
      obtain ⟨p2, e1, e2, hp2⟩ := hx
      rw [e1, e2]
      simp! [kCond_t, kElt_ap]
      refine ⟨p2, rfl, ?_, by rw [List.length_append, List.length_cons, List.length_nil]; omega, hp2.mono (by rw [List.length_append, List.length_cons, List.length_nil]; omega)⟩
      rw [List.length_append, List.length_cons, List.length_nil, List.replicate_succ', ← ha]
    · intro acc e0 hJ
      obtain ⟨p', he, ha, hn, hp'⟩ := hJ
      rw [List.length_nil] at hn
      rw [he]
      refine ⟨by rw [sizeLine_eq]; omega, ?_⟩
      have hall : allD (.list acc) = some (.bool true) := by
        rw [ha]
        have : List.replicate acc.length (PyData.bool true) = (List.replicate acc.length ()).map fun _ => PyData.bool true := by rw [List.map_replicate]
        rw [this, allD_b (fun _ => true)]
        simp
      simp! [hall]
      refine (take_ok (u := 8) hp' (by omega) (by omega) (by omega)).mono ?_
      intro _ os hx
      obtain ⟨l, p7, e1, e2, l0, l1, hp7⟩ := hx
      rw [e1, e2]
      simp! []
      by_cases c : l = 0
      · have c' := decide_eq_true c
        simp! [c']
        refine (wide_ok hp7 (by omega)).mono ?_
        intro d os hx
        obtain ⟨p8, e1, e2, hp8⟩ := hx
        rw [e1, e2]
        simp! [kTurn_nx]
        exact ⟨_, _, fun d hd => hds d (List.mem_cons_of_mem _ hd), rfl⟩
      · have c' := decide_eq_false c
        simp! [c', kTurn_nx]
        exact ⟨_, _, fun d hd => hds d (List.mem_cons_of_mem _ hd), rfl⟩
  · intro e0 hI
    obtain ⟨s1, s2, hds, he⟩ := hI
    rw [he]
    simp! []
  · rw [rng_ints 0] at hd
    obtain ⟨t, ht, e⟩ := List.mem_map.mp hd
    obtain ⟨t0, t1⟩ := mem_rngL.mp ht
    exact ⟨t, e.symm, t0, by rcases hk with rfl | rfl <;> omega⟩
end Vk21

open PySem PySem.W PyProof.Rows
set_option maxHeartbeats 0 in
theorem PySem.Challenge.cw_kerbtruth_k21_whole_begins_that_changes_holds : PySem.Challenge.rw_kerbtruth_k21_whole_begins_that_changes.Holds := by
  w_on; o_law; k_head; (case hw => w_witness2)
  k_fill
  refine ZZ.walkG (n := 63) (k := 12) (st := Vk21.st_law) (x := "script") (FL := Vk21.F_law) rfl rfl (by decide) rfl ⟨rfl, by decide, by decide⟩ (fun w h Y => PySem.W.kIn_of Y) ?F Vk21.good
  case F =>
    intro w mg fa h Y KX G hmg
    refine' (Vk21.all_mk KX G hmg ?a1 ?l1 ?c1 ?k1 ?a2 ?l2 ?c2 ?k2 ?a3 ?l3 ?c3 ?k3 ?a4 ?l4 ?c4 ?k4 ?a5 ?l5 ?c5 ?k5 ?a6 ?l6 ?c6 ?k6 ?a7 ?l7 ?c7 ?k7 ?a8 ?l8 ?c8 ?k8 ?a9 ?l9 ?c9 ?k9 ?a10 ?l10 ?c10 ?k10 ?a11 ?l11 ?c11 ?k11 ?a12 ?l12 ?c12 ?k12 ?a13 ?l13 ?c13 ?k13 ?a14 ?l14 ?c14 ?k14 ?a15 ?l15 ?c15 ?k15 ?a16 ?l16 ?c16 ?k16 ?a17 ?l17 ?c17 ?k17 ?a18 ?l18 ?c18 ?k18 ?a19 ?l19 ?c19 ?k19 ?a20 ?l20 ?c20 ?k20 ?a21 ?l21 ?c21 ?k21 ?a22 ?l22 ?c22 ?k22 ?a23 ?l23 ?c23 ?k23 ?a24 ?l24 ?c24 ?k24 ?a25 ?l25 ?c25 ?k25 ?a26 ?l26 ?c26 ?k26 ?a27 ?l27 ?c27 ?k27 ?a28 ?l28 ?c28 ?k28 ?a29 ?l29 ?c29 ?k29 ?a30 ?l30 ?c30 ?k30 ?a31 ?l31 ?c31 ?k31 ?a32 ?l32 ?c32 ?k32 ?a33 ?l33 ?c33 ?k33 ?a34 ?l34 ?c34 ?k34 ?a35 ?l35 ?c35 ?k35 ?a36 ?l36 ?c36 ?k36 ?a37 ?l37 ?c37 ?k37 ?a38 ?l38 ?c38 ?k38 ?a39 ?l39 ?c39 ?k39 ?a40 ?l40 ?c40 ?k40 ?a41 ?l41 ?c41 ?k41 ?a42 ?l42 ?c42 ?k42 ?a43 ?l43 ?c43 ?k43 ?a44 ?l44 ?c44 ?k44 ?a45 ?l45 ?c45 ?k45 ?z_abs ?z_all ?z_bool ?z_int ?z_isinstance ?z_len ?z_list ?z_max ?z_min ?z_range ?z_repr ?z_sorted ?z_str ?z_sum ?z_tuple ?z_zip ?g_MOST_SIGNS ?g_LETTERS ?g_FIGURES ?g_MOST_KINDS ?g_MOST_LIMIT ?g_MOST_GONE ?g_DAYS ?g_ANY ?g_PLAIN ?g_FEAST ?g_EVE ?g_MOST_HOURS ?g_MOST_ROWS ?g_LAST_TICK ?g_MOST_FEASTS ?g_LAST_DAY ?g_FREE ?g_BARRED ?g_MOST_DAYS).2
    (case a1 => k_is)
    (case l1 => k_is)
    (case c1 => k_is)
    (case k1 => k_is)
    (case a2 => k_is)
    (case l2 => k_is)
    (case c2 => k_is)
    (case k2 => k_is)
    (case a3 => k_is)
    (case l3 => k_is)
    (case c3 => k_is)
    (case k3 => k_is)
    (case a4 => k_is)
    (case l4 => k_is)
    (case c4 => k_is)
    (case k4 => k_is)
    (case a5 => k_is)
    (case l5 => k_is)
    (case c5 => k_is)
    (case k5 => k_is)
    (case a6 => k_is)
    (case l6 => k_is)
    (case c6 => k_is)
    (case k6 => k_is)
    (case a7 => k_is)
    (case l7 => k_is)
    (case c7 => k_is)
    (case k7 => k_is)
    (case a8 => k_is)
    (case l8 => k_is)
    (case c8 => k_is)
    (case k8 => k_is)
    (case a9 => k_is)
    (case l9 => k_is)
    (case c9 => k_is)
    (case k9 => k_is)
    (case a10 => k_is)
    (case l10 => k_is)
    (case c10 => k_is)
    (case k10 => k_is)
    (case a11 => k_is)
    (case l11 => k_is)
    (case c11 => k_is)
    (case k11 => k_is)
    (case a12 => k_is)
    (case l12 => k_is)
    (case c12 => k_is)
    (case k12 => k_is)
    (case a13 => k_is)
    (case l13 => k_is)
    (case c13 => k_is)
    (case k13 => k_is)
    (case a14 => k_is)
    (case l14 => k_is)
    (case c14 => k_is)
    (case k14 => k_is)
    (case a15 => k_is)
    (case l15 => k_is)
    (case c15 => k_is)
    (case k15 => k_is)
    (case a16 => k_is)
    (case l16 => k_is)
    (case c16 => k_is)
    (case k16 => k_is)
    (case a17 => k_is)
    (case l17 => k_is)
    (case c17 => k_is)
    (case k17 => k_is)
    (case a18 => k_is)
    (case l18 => k_is)
    (case c18 => k_is)
    (case k18 => k_is)
    (case a19 => k_is)
    (case l19 => k_is)
    (case c19 => k_is)
    (case k19 => k_is)
    (case a20 => k_is)
    (case l20 => k_is)
    (case c20 => k_is)
    (case k20 => k_is)
    (case a21 => k_is)
    (case l21 => k_is)
    (case c21 => k_is)
    (case k21 => k_is)
    (case a22 => k_is)
    (case l22 => k_is)
    (case c22 => k_is)
    (case k22 => k_is)
    (case a23 => k_is)
    (case l23 => k_is)
    (case c23 => k_is)
    (case k23 => k_is)
    (case a24 => k_is)
    (case l24 => k_is)
    (case c24 => k_is)
    (case k24 => k_is)
    (case a25 => k_is)
    (case l25 => k_is)
    (case c25 => k_is)
    (case k25 => k_is)
    (case a26 => k_is)
    (case l26 => k_is)
    (case c26 => k_is)
    (case k26 => k_is)
    (case a27 => k_is)
    (case l27 => k_is)
    (case c27 => k_is)
    (case k27 => k_is)
    (case a28 => k_is)
    (case l28 => k_is)
    (case c28 => k_is)
    (case k28 => k_is)
    (case a29 => k_is)
    (case l29 => k_is)
    (case c29 => k_is)
    (case k29 => k_is)
    (case a30 => k_is)
    (case l30 => k_is)
    (case c30 => k_is)
    (case k30 => k_is)
    (case a31 => k_is)
    (case l31 => k_is)
    (case c31 => k_is)
    (case k31 => k_is)
    (case a32 => k_is)
    (case l32 => k_is)
    (case c32 => k_is)
    (case k32 => k_is)
    (case a33 => k_is)
    (case l33 => k_is)
    (case c33 => k_is)
    (case k33 => k_is)
    (case a34 => k_is)
    (case l34 => k_is)
    (case c34 => k_is)
    (case k34 => k_is)
    (case a35 => k_is)
    (case l35 => k_is)
    (case c35 => k_is)
    (case k35 => k_is)
    (case a36 => k_is)
    (case l36 => k_is)
    (case c36 => k_is)
    (case k36 => k_is)
    (case a37 => k_is)
    (case l37 => k_is)
    (case c37 => k_is)
    (case k37 => k_is)
    (case a38 => k_is)
    (case l38 => k_is)
    (case c38 => k_is)
    (case k38 => k_is)
    (case a39 => k_is)
    (case l39 => k_is)
    (case c39 => k_is)
    (case k39 => k_is)
    (case a40 => k_is)
    (case l40 => k_is)
    (case c40 => k_is)
    (case k40 => k_is)
    (case a41 => k_is)
    (case l41 => k_is)
    (case c41 => k_is)
    (case k41 => k_is)
    (case a42 => k_is)
    (case l42 => k_is)
    (case c42 => k_is)
    (case k42 => k_is)
    (case a43 => k_is)
    (case l43 => k_is)
    (case c43 => k_is)
    (case k43 => k_is)
    (case a44 => k_is)
    (case l44 => k_is)
    (case c44 => k_is)
    (case k44 => k_is)
    (case a45 => k_is)
    (case l45 => k_is)
    (case c45 => k_is)
    (case k45 => k_is)
    (case z_abs => k_is)
    (case z_all => k_is)
    (case z_bool => k_is)
    (case z_int => k_is)
    (case z_isinstance => k_is)
    (case z_len => k_is)
    (case z_list => k_is)
    (case z_max => k_is)
    (case z_min => k_is)
    (case z_range => k_is)
    (case z_repr => k_is)
    (case z_sorted => k_is)
    (case z_str => k_is)
    (case z_sum => k_is)
    (case z_tuple => k_is)
    (case z_zip => k_is)
    (case g_MOST_SIGNS => k_is)
    (case g_LETTERS => k_is)
    (case g_FIGURES => k_is)
    (case g_MOST_KINDS => k_is)
    (case g_MOST_LIMIT => k_is)
    (case g_MOST_GONE => k_is)
    (case g_DAYS => k_is)
    (case g_ANY => k_is)
    (case g_PLAIN => k_is)
    (case g_FEAST => k_is)
    (case g_EVE => k_is)
    (case g_MOST_HOURS => k_is)
    (case g_MOST_ROWS => k_is)
    (case g_LAST_TICK => k_is)
    (case g_MOST_FEASTS => k_is)
    (case g_LAST_DAY => k_is)
    (case g_FREE => k_is)
    (case g_BARRED => k_is)
    (case g_MOST_DAYS => k_is)
