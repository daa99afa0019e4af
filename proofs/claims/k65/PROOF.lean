import PyProof.Rows.All
import Wide.All
import OpenK.AllK
import Wide.FinOn
import HandS.ForMost
import HandS.Walk
import HandS.Deep
import HandS.Style
import HandS.Zip
import HandS.TupAny
import HandS.IsInst
import HandS.Wide
import HandS.Conv
import KE.SortData
import KE.KStar
import KE.GoesNew
import HandS.Star
import KE.DataMinMax
import KE.KTupSum
import HandS.ExcValue
import HandS.Iter
import KE.GoesMore
import HandS.NoneIn
import HandS.SetFor
import HandS.Set
import HandS.Words
import PySem.Challenge.RW_eachtheirown_k65_whole_forty_pledges_one
set_option Elab.async false
set_option linter.all false
set_option maxRecDepth 100000
set_option maxHeartbeats 8000000
/-! Ev, part A: data, worlds, readings of expressions as functions of data. -/
namespace Ev
open PySem L2

abbrev Dt := PyData
abbrev En := List (Option Dt)
abbrev Pt := Int × Int × Int
def Mo (α : Type) : Type := Pt → Option (α × Pt)
namespace Mo
def ret {α : Type} (a : α) : Mo α := fun p => some (a, p)
def bnd {α β : Type} (m : Mo α) (f : α → Mo β) : Mo β := fun p => match m p with
  | some (a, q) => f a q
  | none => none
def fail {α : Type} : Mo α := fun _ => none
def ofO {α : Type} : Option α → Mo α
  | some a => ret a
  | none => fail
theorem bnd_some {α β : Type} {m : Mo α} {f : α → Mo β} {p q : Pt} {b : β} (h : bnd m f p = some (b, q)) : ∃ a p1, m p = some (a, p1) ∧ f a p1 = some (b, q) := by
  unfold bnd at h
  cases e : m p with
  | none => rw [e] at h; cases h
  | some x => obtain ⟨a, p1⟩ := x; rw [e] at h; exact ⟨a, p1, rfl, h⟩
theorem ofO_some {α : Type} {o : Option α} {p q : Pt} {b : α} (h : ofO o p = some (b, q)) : o = some b ∧ q = p := by
  cases o with
  | none => cases h
  | some a => cases h; exact ⟨rfl, rfl⟩
end Mo

/-! ### what stands for data -/
def keyD : Key → Dt
  | .inl i => .int i
  | .inr x => .str x
/-- a list, tracked, frozen or one of the module's own objects -/
def SqE (K : PySem.W.Frag) (R : Hp) (a : Addr) (xs : List V) : Prop :=
  Rd R a (.lst xs) ∨ ∃ (its : Array Value) (n : Nat), K.lookup a = some { cls := .type "list", data := .seq its n } ∧ its.size ≤ sizeLine ∧ Vals xs its.toList
theorem SqE.of {K : PySem.W.Frag} {R : Hp} {a : Addr} {xs : List V} (h : R a = some (.lst xs)) : SqE K R a xs := .inl (.inl h)
theorem SqE.sqL {K : PySem.W.Frag} {R : Hp} {a : Addr} {xs : List V} : SqE K R a xs → SqL K R a xs
  | .inl h => .inl h
  | .inr ⟨its, n, h, z, r⟩ => .inr ⟨_, its, n, h, rfl, rfl, rfl, z, r⟩
mutual
inductive Rp (K : PySem.W.Frag) (R : Hp) : V → Dt → Prop
  | non : Rp K R .non .none
  | bl (b : Bool) : Rp K R (.bl b) (.bool b)
  | int (i : Int) : Rp K R (.int i) (.int i)
  | str (x : Str) : Rp K R (.str x) (.str x)
  | lst {a : Addr} {xs : List V} {ds : List Dt} : SqE K R a xs → RpL K R xs ds → ds.length ≤ sizeLine → Rp K R (.ref a) (.list ds)
  | tup {a : Addr} {xs : List V} {ds : List Dt} : SqT K R a xs → RpL K R xs ds → ds.length ≤ sizeLine → Rp K R (.ref a) (.tuple ds)
  | dK {a : Addr} {kvs : List (Key × V)} {ds : List (Dt × Dt)} : R a = some (.dK kvs) → RpK K R kvs ds → Rp K R (.ref a) (.dict ds)
  | dT {a : Addr} {kvs : List (List Key × V)} {ds : List (Dt × Dt)} : R a = some (.dT kvs) → RpT K R kvs ds → Rp K R (.ref a) (.dict ds)
inductive RpL (K : PySem.W.Frag) (R : Hp) : List V → List Dt → Prop
  | nil : RpL K R [] []
  | cons {v : V} {vs : List V} {d : Dt} {ds : List Dt} : Rp K R v d → RpL K R vs ds → RpL K R (v :: vs) (d :: ds)
inductive RpK (K : PySem.W.Frag) (R : Hp) : List (Key × V) → List (Dt × Dt) → Prop
  | nil : RpK K R [] []
  | cons {k : Key} {v : V} {kvs : List (Key × V)} {d : Dt} {ds : List (Dt × Dt)} : Rp K R v d → RpK K R kvs ds → RpK K R ((k, v) :: kvs) ((keyD k, d) :: ds)
inductive RpT (K : PySem.W.Frag) (R : Hp) : List (List Key × V) → List (Dt × Dt) → Prop
  | nil : RpT K R [] []
  | cons {k : List Key} {v : V} {kvs : List (List Key × V)} {d : Dt} {ds : List (Dt × Dt)} : Rp K R v d → RpT K R kvs ds → RpT K R ((k, v) :: kvs) ((.tuple (k.map keyD), d) :: ds)
end

def Sub (R H : Hp) : Prop := ∀ a o, R a = some o → H a = some o
theorem Sub.refl (H : Hp) : Sub H H := fun _ _ h => h
theorem Sub.trans {A B C : Hp} (x : Sub A B) (y : Sub B C) : Sub A C := fun a o h => y a o (x a o h)
theorem Sub.rd {R H : Hp} (x : Sub R H) {a : Addr} {u : HO} (h : Rd R a u) : Rd H a u := h.elim (fun h => .inl (x _ _ h)) fun ⟨o, h⟩ => .inr ⟨o, x _ _ h⟩
theorem Sub.sqL {K : PySem.W.Frag} {R H : Hp} (x : Sub R H) {a : Addr} {xs : List V} (h : SqL K R a xs) : SqL K H a xs := h.elim (fun h => .inl (x.rd h)) .inr
theorem Sub.sqE {K : PySem.W.Frag} {R H : Hp} (x : Sub R H) {a : Addr} {xs : List V} (h : SqE K R a xs) : SqE K H a xs := h.elim (fun h => .inl (x.rd h)) .inr
theorem Sub.sqT {K : PySem.W.Frag} {R H : Hp} (x : Sub R H) {a : Addr} {xs : List V} (h : SqT K R a xs) : SqT K H a xs := h.elim (fun h => .inl (x.rd h)) .inr
section
variable {K : PySem.W.Frag} {R R' : Hp}
mutual
theorem Rp.up (x : Sub R R') {v : V} {d : Dt} : Rp K R v d → Rp K R' v d
  | .non => .non
  | .bl b => .bl b
  | .int i => .int i
  | .str s => .str s
  | .lst h l z => .lst (x.sqE h) (RpL.up x l) z
  | .tup h l z => .tup (x.sqT h) (RpL.up x l) z
  | .dK h l => .dK (x _ _ h) (RpK.up x l)
  | .dT h l => .dT (x _ _ h) (RpT.up x l)
theorem RpL.up (x : Sub R R') {vs : List V} {ds : List Dt} : RpL K R vs ds → RpL K R' vs ds
  | .nil => .nil
  | .cons h l => .cons (Rp.up x h) (RpL.up x l)
theorem RpK.up (x : Sub R R') {vs : List (Key × V)} {ds : List (Dt × Dt)} : RpK K R vs ds → RpK K R' vs ds
  | .nil => .nil
  | .cons h l => .cons (Rp.up x h) (RpK.up x l)
theorem RpT.up (x : Sub R R') {vs : List (List Key × V)} {ds : List (Dt × Dt)} : RpT K R vs ds → RpT K R' vs ds
  | .nil => .nil
  | .cons h l => .cons (Rp.up x h) (RpT.up x l)
end
theorem RpL.len : ∀ {vs : List V} {ds : List Dt}, RpL K R vs ds → vs.length = ds.length
  | _, _, .nil => rfl
  | _, _, .cons _ l => by rw [List.length_cons, List.length_cons, RpL.len l]
theorem RpL.get : ∀ {vs : List V} {ds : List Dt}, RpL K R vs ds → ∀ {i : Nat} {d : Dt}, ds[i]? = some d → ∃ v, vs[i]? = some v ∧ Rp K R v d
  | _, _, .nil, _, _, h => by simp at h
  | _, _, .cons r _, 0, _, h => by simp at h; subst h; exact ⟨_, rfl, r⟩
  | _, _, .cons _ l, i + 1, d, h => by simp at h; obtain ⟨v, e, r⟩ := RpL.get l h; exact ⟨v, by simpa using e, r⟩
theorem RpL.at_ : ∀ {vs : List V} {ds : List Dt}, RpL K R vs ds → ∀ {i : Nat} {v : V}, vs[i]? = some v → ∃ d, ds[i]? = some d ∧ Rp K R v d
  | _, _, .nil, _, _, h => by simp at h
  | _, _, .cons r _, 0, _, h => by simp at h; subst h; exact ⟨_, rfl, r⟩
  | _, _, .cons _ l, i + 1, d, h => by simp at h; obtain ⟨v, e, r⟩ := RpL.at_ l h; exact ⟨v, by simpa using e, r⟩
theorem RpL.app : ∀ {vs ws : List V} {ds es : List Dt}, RpL K R vs ds → RpL K R ws es → RpL K R (vs ++ ws) (ds ++ es)
  | _, _, _, _, .nil, h => h
  | _, _, _, _, .cons r l, h => .cons r (RpL.app l h)
theorem RpL.take : ∀ {vs : List V} {ds : List Dt} (n : Nat), RpL K R vs ds → RpL K R (vs.take n) (ds.take n)
  | _, _, 0, _ => .nil
  | _, _, _ + 1, .nil => .nil
  | _, _, n + 1, .cons r l => .cons r (RpL.take n l)
theorem RpL.drop : ∀ {vs : List V} {ds : List Dt} (n : Nat), RpL K R vs ds → RpL K R (vs.drop n) (ds.drop n)
  | _, _, 0, h => h
  | _, _, _ + 1, .nil => .nil
  | _, _, n + 1, .cons _ l => RpL.drop n l
theorem RpL.set {v : V} {d : Dt} (r : Rp K R v d) : ∀ {vs : List V} {ds : List Dt} (n : Nat), RpL K R vs ds → RpL K R (vs.set n v) (ds.set n d)
  | _, _, _, .nil => .nil
  | _, _, 0, .cons _ l => .cons r l
  | _, _, n + 1, .cons q l => .cons q (RpL.set r n l)
theorem RpL.rev : ∀ {vs : List V} {ds : List Dt}, RpL K R vs ds → RpL K R vs.reverse ds.reverse
  | _, _, .nil => .nil
  | _, _, .cons r l => by rw [List.reverse_cons, List.reverse_cons]; exact RpL.app (RpL.rev l) (.cons r .nil)
theorem RpL.ints : ∀ {vs : List V} {ns : List Int}, RpL K R vs (ns.map PyData.int) → vs = ns.map V.int
  | _, [], h => by cases h; rfl
  | _, n :: ns, h => by
    cases h with
    | cons r l => cases r; rw [RpL.ints l]; rfl
theorem RpL.of_ints : ∀ ns : List Int, RpL K R (ns.map V.int) (ns.map PyData.int)
  | [] => .nil
  | n :: ns => .cons (.int n) (RpL.of_ints ns)
theorem RpL.bools : ∀ {vs : List V} {ns : List Bool}, RpL K R vs (ns.map PyData.bool) → vs = ns.map V.bl
  | _, [], h => by cases h; rfl
  | _, n :: ns, h => by
    cases h with
    | cons r l => cases r; rw [RpL.bools l]; rfl
theorem RpL.strs : ∀ {vs : List V} {ns : List Str}, RpL K R vs (ns.map PyData.str) → vs = ns.map V.str
  | _, [], h => by cases h; rfl
  | _, n :: ns, h => by
    cases h with
    | cons r l => cases r; rw [RpL.strs l]; rfl
end

/-! data without dicts: as the library's own relation -/
mutual
def flat : Dt → Bool
  | .none | .bool _ | .int _ | .str _ => true
  | .list xs | .tuple xs => flatL xs
  | .dict _ => false
def flatL : List Dt → Bool
  | [] => true
  | x :: xs => flat x && flatL xs
end
section
variable {K : PySem.W.Frag} {R : Hp}
mutual
theorem Rp.dp : ∀ (d : Dt) {v : V}, Rp K R v d → flat d = true → Dp K R v d
  | .none, _, h, _ => by cases h; exact .non
  | .bool b, _, h, _ => by cases h; exact .bl b
  | .int i, _, h, _ => by cases h; exact .int i
  | .str s, _, h, _ => by cases h; exact .str s
  | .list ds, _, h, f => by
    cases h with
    | lst h l _ => exact .lst h.sqL (RpL.dp ds l f)
  | .tuple ds, _, h, f => by
    cases h with
    | tup h l _ => exact .tup h (RpL.dp ds l f)
  | .dict _, _, _, f => by cases f
theorem RpL.dp : ∀ (ds : List Dt) {vs : List V}, RpL K R vs ds → flatL ds = true → DpAll K R vs ds
  | [], _, h, _ => by cases h; exact .nil
  | d :: ds, _, h, f => by
    cases h with
    | cons h l =>
      have f' : (flat d && flatL ds) = true := f
      rw [Bool.and_eq_true] at f'
      exact .cons (Rp.dp d h f'.1) (RpL.dp ds l f'.2)
end
mutual
theorem flat_lay : ∀ d : Dt, d.canLay0 = true → flat d = true
  | .none, _ | .bool _, _ | .int _, _ | .str _, _ => rfl
  | .list xs, h => flatL_lay xs h
  | .tuple xs, h => flatL_lay xs h
  | .dict _, h => nomatch h
theorem flatL_lay : ∀ ds : List Dt, PyData.canLayAll0 ds = true → flatL ds = true
  | [], _ => rfl
  | d :: ds, h => by
    simp only [PyData.canLayAll0, Bool.and_eq_true] at h
    simp only [flatL, flat_lay d h.1, flatL_lay ds h.2, Bool.and_self]
end
end

/-! ### worlds -/
def PotAt (po : Option Addr) (H : Hp) (pt : Pt) : Prop := ∀ p, po = some p → H p = some (.lst [.int pt.1, .int pt.2.1, .int pt.2.2])
/-- from (R, H) to (R', H'): all stands but the pot; what is new in R' is new -/
structure Ext (po : Option Addr) (R H R' H' : Hp) : Prop where
  r : Sub R R'
  s : Sub R' H'
  k : ∀ a o, H a = some o → po ≠ some a → H' a = some o
  d : ∀ a, H' a = none → H a = none
  f : ∀ a, R' a ≠ none → R a ≠ none ∨ H a = none
theorem Ext.refl {po : Option Addr} {R H : Hp} (h : Sub R H) : Ext po R H R H := ⟨Sub.refl R, h, fun _ _ e _ => e, fun _ e => e, fun _ e => .inl e⟩
theorem Ext.trans {po : Option Addr} {R H R1 H1 R2 H2 : Hp} (x : Ext po R H R1 H1) (y : Ext po R1 H1 R2 H2) : Ext po R H R2 H2 :=
  ⟨x.r.trans y.r, y.s, fun a o e n => y.k a o (x.k a o e n) n, fun a e => x.d a (y.d a e), fun a e => (y.f a e).elim (x.f a) fun h => .inr (x.d a h)⟩
/-- a call without the pot -/
theorem Ext.none {po : Option Addr} {R H R' H' : Hp} (x : Ext .none R H R' H') : Ext po R H R' H' := ⟨x.r, x.s, fun a o e _ => x.k a o e (fun z => nomatch z), x.d, x.f⟩
/-- a new object, read from now on -/
theorem Ext.new {po : Option Addr} {R H : Hp} {p : Addr} {o : HO} (h : Sub R H) (n : H p = .none) : Ext po R H (upd R p o) (upd H p o) := by
  have rn : R p = .none := by
    cases q : R p with
    | none => rfl
    | some u => rw [h p u q] at n; cases n
  refine ⟨fun a u e => ?_, fun a u e => ?_, fun a u e _ => ?_, fun a e => ?_, fun a e => ?_⟩
  · rw [upd_ne (ne_of_none e rn)]; exact e
  · by_cases z : a = p
    · subst z; rw [upd_same] at e ⊢; exact e
    · rw [upd_ne z] at e ⊢; exact h a u e
  · rw [upd_ne (ne_of_none e n)]; exact e
  · by_cases z : a = p
    · subst z; exact n
    · rw [upd_ne z] at e; exact e
  · by_cases z : a = p
    · subst z; exact .inr n
    · rw [upd_ne z] at e; exact .inl e
/-- a new object, not yet read -/
theorem Ext.side {po : Option Addr} {R H : Hp} {p : Addr} {o : HO} (h : Sub R H) (n : H p = .none) : Ext po R H R (upd H p o) := by
  refine ⟨Sub.refl R, fun a u e => ?_, fun a u e _ => ?_, fun a e => ?_, fun a e => .inl e⟩
  · rw [upd_ne (ne_of_none (h a u e) n)]; exact h a u e
  · rw [upd_ne (ne_of_none e n)]; exact e
  · by_cases z : a = p
    · subst z; exact n
    · rw [upd_ne z] at e; exact e

/-- what may be looked at: a value that stands in R, or a list of such, a dict of such, in H -/
def Shal (K : PySem.W.Frag) (po : Option Addr) (R H : Hp) (v : V) (d : Dt) : Prop :=
  Rp K R v d ∨ ∃ a, v = .ref a ∧ po ≠ some a ∧ ((∃ xs ds, d = .list ds ∧ H a = some (.lst xs) ∧ RpL K R xs ds ∧ ds.length ≤ sizeLine) ∨
    (∃ kvs ds, d = .dict ds ∧ H a = some (.dK kvs) ∧ RpK K R kvs ds) ∨ (∃ kvs ds, d = .dict ds ∧ H a = some (.dT kvs) ∧ RpT K R kvs ds))
theorem Shal.up {K : PySem.W.Frag} {po : Option Addr} {R H R' H' : Hp} {v : V} {d : Dt} (x : Ext po R H R' H') : Shal K po R H v d → Shal K po R' H' v d
  | .inl h => .inl (h.up x.r)
  | .inr ⟨a, e, n, .inl ⟨xs, ds, e1, h, r, z⟩⟩ => .inr ⟨a, e, n, .inl ⟨xs, ds, e1, x.k a _ h n, r.up x.r, z⟩⟩
  | .inr ⟨a, e, n, .inr (.inl ⟨xs, ds, e1, h, r⟩)⟩ => .inr ⟨a, e, n, .inr (.inl ⟨xs, ds, e1, x.k a _ h n, r.up x.r⟩)⟩
  | .inr ⟨a, e, n, .inr (.inr ⟨xs, ds, e1, h, r⟩)⟩ => .inr ⟨a, e, n, .inr (.inr ⟨xs, ds, e1, x.k a _ h n, r.up x.r⟩)⟩

/-- the world in which an expression is read: ps the slot of the pot; S the slots whose things may be handed on -/
structure Wd (K : PySem.W.Frag) (ps : Option Nat) (S : List Nat) (po : Option Addr) (σ : L2.St) (env : En) (pt : Pt) (R H : Hp) : Prop where
  sub : Sub R H
  pot : PotAt po H pt
  pof : ∀ p, po = some p → R p = none
  pos : ∀ i, ps = some i → ∃ p, po = some p ∧ σ[i]? = some (some (.ref p))
  sl : ∀ i d, env[i]? = some (some d) → ∃ v, σ[i]? = some (some v) ∧ Shal K po R H v d ∧ (i ∈ S → Rp K R v d)
  len : σ.length = env.length
section
variable {K : PySem.W.Frag} {ps : Option Nat} {S : List Nat} {po : Option Addr} {σ : L2.St} {env : En} {pt pt' : Pt} {R H R' H' : Hp}
theorem Wd.up (w : Wd K ps S po σ env pt R H) (x : Ext po R H R' H') (p : PotAt po H' pt') : Wd K ps S po σ env pt' R' H' := by
  refine ⟨x.s, p, fun q e => ?_, w.pos, fun i d e => ?_, w.len⟩
  · cases z : R' q with
    | none => rfl
    | some o =>
      exfalso
      rcases x.f q (by rw [z]; exact fun y => nomatch y) with h | h
      · exact h (w.pof q e)
      · rw [w.pot q e] at h; cases h
  · obtain ⟨v, h1, h2, h3⟩ := w.sl i d e
    exact ⟨v, h1, h2.up x, fun m => (h3 m).up x.r⟩
theorem Wd.less {S' : List Nat} (w : Wd K ps S po σ env pt R H) (h : ∀ i ∈ S', i ∈ S) : Wd K ps S' po σ env pt R H :=
  ⟨w.sub, w.pot, w.pof, w.pos, fun i d e => let ⟨v, h1, h2, h3⟩ := w.sl i d e; ⟨v, h1, h2, fun m => h3 (h i m)⟩, w.len⟩
end

/-! ### readings as functions of data -/
abbrev Dn := En → Mo Dt
/-- its value stands in R' -/
def TD (K : PySem.W.Frag) (ps : Option Nat) (S : List Nat) (f : Dn) : TE := fun σ H Q =>
  ∃ po env pt d pt' R, Wd K ps S po σ env pt R H ∧ f env pt = some (d, pt') ∧ ∀ v R' H', Ext po R H R' H' → PotAt po H' pt' → Rp K R' v d → Q v H'
/-- its value may be looked at -/
def TB (K : PySem.W.Frag) (ps : Option Nat) (S : List Nat) (f : Dn) : TE := fun σ H Q =>
  ∃ po env pt d pt' R, Wd K ps S po σ env pt R H ∧ f env pt = some (d, pt') ∧ ∀ v R' H', Ext po R H R' H' → PotAt po H' pt' → Shal K po R' H' v d → Q v H'
/-- its value is a new list or dict, not in R', or no list and no dict -/
def Fresh (K : PySem.W.Frag) (H R' H' : Hp) (v : V) (d : Dt) : Prop := ∃ a, v = .ref a ∧ H a = none ∧ R' a = none ∧
  ((∃ xs ds, d = .list ds ∧ H' a = some (.lst xs) ∧ RpL K R' xs ds ∧ ds.length ≤ sizeLine) ∨ (∃ kvs ds, d = .dict ds ∧ H' a = some (.dK kvs) ∧ RpK K R' kvs ds) ∨ (∃ kvs ds, d = .dict ds ∧ H' a = some (.dT kvs) ∧ RpT K R' kvs ds))
def Still : Dt → Bool
  | .list _ | .dict _ => false
  | _ => true
def Nw (K : PySem.W.Frag) (H R' H' : Hp) (v : V) (d : Dt) : Prop := Fresh K H R' H' v d ∨ (Still d = true ∧ Rp K R' v d)
/-- the new thing is read from now on -/
theorem Nw.rp {K : PySem.W.Frag} {po : Option Addr} {R H R' H' : Hp} {v : V} {d : Dt} (x : Ext po R H R' H') (n : Nw K H R' H' v d) : ∃ R2, Ext po R H R2 H' ∧ Rp K R2 v d := by
  rcases n with ⟨a, e, h0, h1, n⟩ | ⟨_, r⟩
  · have go : ∀ o, H' a = some o → Ext po R H (upd R' a o) H' ∧ Sub R' (upd R' a o) := fun o e => by
      have s1 : Sub R' (upd R' a o) := fun b u q => by rw [upd_ne (ne_of_none q h1)]; exact q
      refine ⟨⟨x.r.trans s1, fun b u q => ?_, x.k, x.d, fun b q => ?_⟩, s1⟩
      · by_cases z : b = a
        · subst z; rw [upd_same] at q; rw [e]; exact q
        · rw [upd_ne z] at q; exact x.s b u q
      · by_cases z : b = a
        · subst z; exact .inr h0
        · rw [upd_ne z] at q; exact x.f b q
    subst e
    rcases n with ⟨xs, ds, rfl, e, r, z⟩ | ⟨kvs, ds, rfl, e, r⟩ | ⟨kvs, ds, rfl, e, r⟩
    · obtain ⟨g1, g2⟩ := go _ e
      exact ⟨_, g1, .lst (.of upd_same) (r.up g2) z⟩
    · obtain ⟨g1, g2⟩ := go _ e
      exact ⟨_, g1, .dK upd_same (r.up g2)⟩
    · obtain ⟨g1, g2⟩ := go _ e
      exact ⟨_, g1, .dT upd_same (r.up g2)⟩
  · exact ⟨R', x, r⟩
def TF (K : PySem.W.Frag) (ps : Option Nat) (S : List Nat) (f : Dn) : TE := fun σ H Q =>
  ∃ po env pt d pt' R, Wd K ps S po σ env pt R H ∧ f env pt = some (d, pt') ∧ ∀ v R' H', Ext po R H R' H' → PotAt po H' pt' → Nw K H R' H' v d → Q v H'
/-- a test -/
def TT' (K : PySem.W.Frag) (ps : Option Nat) (S : List Nat) (f : Dn) : TT := fun σ H Q =>
  ∃ po env pt b pt' R, Wd K ps S po σ env pt R H ∧ f env pt = some (.bool b, pt') ∧ ∀ R' H', Ext po R H R' H' → PotAt po H' pt' → Q b H'
/-- arguments -/
abbrev Ln := En → Mo (List Dt)
def TAs (K : PySem.W.Frag) (ps : Option Nat) (S : List Nat) (f : Ln) : TA := fun σ H Q =>
  ∃ po env pt ds pt' R, Wd K ps S po σ env pt R H ∧ f env pt = some (ds, pt') ∧ ∀ vs R' H', Ext po R H R' H' → PotAt po H' pt' → RpL K R' vs ds → Q vs H'

section
variable {X : Cx} {e : Expr}
theorem pe_imp {t t' : TE} (h : PE X e t) (i : ∀ σ H Q, t' σ H Q → t σ H Q) : PE X e t' := ⟨fun pins s σ H Q I w => h.run pins s σ H Q I (i σ H Q w)⟩
theorem pt_imp {t t' : TT} (h : PT X e t) (i : ∀ σ H Q, t' σ H Q → t σ H Q) : PT X e t' := ⟨fun pins s σ H Q I w => h.run pins s σ H Q I (i σ H Q w)⟩
theorem pa_imp {es : List Expr} {t t' : TA} (h : PA X es t) (i : ∀ σ H Q, t' σ H Q → t σ H Q) : PA X es t' := ⟨fun p pins s σ H Q I w => h.run p pins s σ H Q I (i σ H Q w)⟩
variable {K : PySem.W.Frag} {ps : Option Nat} {S S' : List Nat} {f : Dn}
theorem TD.b {σ H Q} (h : TB K ps S f σ H Q) : TD K ps S f σ H Q := by
  obtain ⟨po, env, pt, d, pt', R, w, e, k⟩ := h
  exact ⟨po, env, pt, d, pt', R, w, e, fun v R' H' x p r => k v R' H' x p (.inl r)⟩
theorem TF.d {σ H Q} (h : TD K ps S f σ H Q) : TF K ps S f σ H Q := by
  obtain ⟨po, env, pt, d, pt', R, w, e, k⟩ := h
  refine ⟨po, env, pt, d, pt', R, w, e, fun v R' H' x p n => ?_⟩
  obtain ⟨R2, x2, r⟩ := n.rp x
  exact k v R2 H' x2 p r
theorem TD.less {σ H Q} (hS : ∀ i ∈ S', i ∈ S) (h : TD K ps S f σ H Q) : TD K ps S' f σ H Q := by
  obtain ⟨po, env, pt, d, pt', R, w, e, k⟩ := h
  exact ⟨po, env, pt, d, pt', R, w.less hS, e, k⟩
end
end Ev

/-! Ev, part B: operators, comparisons, logic, displays, subscripts. -/
namespace Ev
open PySem L2
section
variable {K : PySem.W.Frag} {po : Option Addr} {R H : Hp} {v : V}
/-! ### what a value is, by its data -/
theorem Shal.int {i : Int} : Shal K po R H v (.int i) → v = .int i
  | .inl h => by cases h; rfl
  | .inr ⟨_, _, _, h⟩ => by rcases h with ⟨_, _, e, _⟩ | ⟨_, _, e, _⟩ | ⟨_, _, e, _⟩ <;> cases e
theorem Shal.bool {b : Bool} : Shal K po R H v (.bool b) → v = .bl b
  | .inl h => by cases h; rfl
  | .inr ⟨_, _, _, h⟩ => by rcases h with ⟨_, _, e, _⟩ | ⟨_, _, e, _⟩ | ⟨_, _, e, _⟩ <;> cases e
theorem Shal.non : Shal K po R H v .none → v = .non
  | .inl h => by cases h; rfl
  | .inr ⟨_, _, _, h⟩ => by rcases h with ⟨_, _, e, _⟩ | ⟨_, _, e, _⟩ | ⟨_, _, e, _⟩ <;> cases e
theorem Shal.str {x : Str} : Shal K po R H v (.str x) → v = .str x
  | .inl h => by cases h; rfl
  | .inr ⟨_, _, _, h⟩ => by rcases h with ⟨_, _, e, _⟩ | ⟨_, _, e, _⟩ | ⟨_, _, e, _⟩ <;> cases e
theorem Shal.list (s : Sub R H) {ds : List Dt} : Shal K po R H v (.list ds) → ∃ a xs, v = .ref a ∧ SqE K H a xs ∧ RpL K R xs ds ∧ ds.length ≤ sizeLine
  | .inl h => by
    cases h with
    | lst h r z => exact ⟨_, _, rfl, s.sqE h, r, z⟩
  | .inr ⟨a, e, _, h⟩ => by
    rcases h with ⟨xs, _, q, h, r, z⟩ | ⟨_, _, q, _⟩ | ⟨_, _, q, _⟩
    · cases q; exact ⟨a, xs, e, .of h, r, z⟩
    · cases q
    · cases q
theorem Shal.tuple (s : Sub R H) {ds : List Dt} : Shal K po R H v (.tuple ds) → ∃ a xs, v = .ref a ∧ SqT K H a xs ∧ RpL K R xs ds ∧ ds.length ≤ sizeLine
  | .inl h => by
    cases h with
    | tup h r z => exact ⟨_, _, rfl, s.sqT h, r, z⟩
  | .inr ⟨a, e, _, h⟩ => by rcases h with ⟨_, _, q, _⟩ | ⟨_, _, q, _⟩ | ⟨_, _, q, _⟩ <;> cases q
/-- data without dicts, as the library has them -/
theorem Shal.dp (s : Sub R H) {d : Dt} (f : flat d = true) : Shal K po R H v d → Dp K H v d
  | .inl h => (h.up s).dp _ f
  | .inr ⟨a, e, _, h⟩ => by
    rcases h with ⟨xs, ds, rfl, h, r, z⟩ | ⟨_, _, rfl, _⟩ | ⟨_, _, rfl, _⟩
    · subst e; exact .lst (.of h) ((r.up s).dp _ f)
    · cases f
    · cases f
section
variable {X : Cx} {pins : List (Addr × Obj)} {s : Shared} {σ : St} {H : Hp} {l b : Addr} {xs zs : List V}
theorem Inv.listE (I : Inv X pins σ H s) (h : SqE X.K H l xs) : xs.length ≤ sizeLine ∧ ∃ (its : List Value) (n : Nat), Vals xs its ∧ xs.length = its.length ∧ s.heap.get? l = some { cls := .type "list", data := .seq its.toArray n } := by
  rcases h with h | ⟨its, n, h, z, r⟩
  · obtain ⟨z, its, n, r, e⟩ := h.ok I.hok
    exact ⟨z, its, n, r, r.length, e⟩
  · have e := r.length
    simp only [Array.length_toList] at e
    exact ⟨by omega, its.toList, n, r, by rw [Array.length_toList]; exact e, I.kIn l _ h⟩
def rCatE (K : PySem.W.Frag) : R2 := fun x y H Q => ∃ l b xs zs, x = .ref l ∧ y = .ref b ∧ SqE K H l xs ∧ SqE K H b zs ∧ xs.length + zs.length ≤ sizeLine ∧ ∀ p, H p = none → Q (.ref p) (upd H p (.lst (xs ++ zs)))
theorem op_catE : OpR X (binaryOp .Add) (rCatE X.K) := by
  intro pins s σ H x y v u Q I rx ry h
  obtain ⟨l, b, xs, zs, rfl, rfl, hH, hB, hz, q⟩ := h
  cases rx
  cases ry
  obtain ⟨z, its, n, r, hl, e⟩ := Inv.listE I hH
  obtain ⟨z2, its2, n2, r2, hl2, e2⟩ := Inv.listE I hB
  refine PySem.P.add_list e e2 ?_ (by rw [List.size_toArray, List.size_toArray]; omega)
  have ea : its.toArray ++ its2.toArray = (its ++ its2).toArray := by simp
  rw [ea]
  exact ⟨.ref _, _, I.lnew (t' := s.toks) (r.append r2) (by rw [List.length_append]; omega), rfl, q _ I.fresh⟩
def rRepE (K : PySem.W.Frag) : R2 := fun x y H Q => ∃ l k xs, x = .ref l ∧ y = .int k ∧ SqE K H l xs ∧ -(2 ^ 63) ≤ k ∧ k < 2 ^ 63 ∧ xs.length * k.toNat ≤ sizeLine ∧
  ∀ p, H p = none → Q (.ref p) (upd H p (.lst (List.replicate k.toNat xs).flatten))
theorem op_repE : OpR X (binaryOp .Mult) (rRepE X.K) := by
  intro pins s σ H x y v u Q I rx ry h
  obtain ⟨l, k, xs, rfl, rfl, hH, h1, h2, hz, q⟩ := h
  cases rx
  obtain ⟨t, rfl⟩ := ry
  obtain ⟨z, its, n, r, hl, e⟩ := Inv.listE I hH
  have hlen : its.toArray.size * k.toNat ≤ sizeLine := by rw [List.size_toArray, ← hl]; exact hz
  have hcap : ¬ its.toArray.size * k.toNat > (2 ^ 63 - 1) / 8 := by
    have : (sizeLine : Nat) ≤ (2 ^ 63 - 1) / 8 := by decide
    omega
  have hfit : ¬ (!Builtin.List.listFitsIndex k) = true := by
    rw [fitsIndex_both h1 h2]
    exact Bool.false_ne_true
  have hlong : ¬ Builtin.List.listTooLong (its.toArray.size * k.toNat) = true := by
    rw [notLongL hlen]
    exact Bool.false_ne_true
  have hnew : List.foldl (fun x1 x2 => x1 ++ x2) #[] (List.replicate (if its.toArray.isEmpty = true then 0 else k.toNat) its.toArray) = (List.replicate k.toNat its).flatten.toArray := by
    have f0 : ∀ m : Nat, List.foldl (fun x1 x2 => x1 ++ x2) #[] (List.replicate m its.toArray) = (List.replicate m its).flatten.toArray := fun m => by
      have := foldl_rep its m []
      rw [List.nil_append] at this
      exact this
    rw [f0]
    cases its with
    | nil => simp
    | cons a r' => rw [if_neg (by simp)]
  refine wpAny_binaryOp_repeat_ref (T := "list") (U := "int") (by decide) ⟨_, e, rfl⟩ (fun s' => typeIs_int s' k t) noFill_list_mul F.fills_int_mul F.slot_int_rmul repeat_list F.slot_int_index.lookup
    (call_meets F.slot_int_rmul (typeIs_int s k t) F.entry_int_rmul (F.args_int_rmul_2 _ _) (int___rmul___int_list k t l its.toArray n)
      ⟨e, rfl, ⟨_, e, rfl⟩, call_meets F.slot_list_mul ⟨_, e, rfl⟩ F.entry_list_mul (F.args_list_mul_2 _ _) (AutoListH.list___mul___list_int_3 l its.toArray n k t hfit hcap hlong) ⟨e, ?_⟩⟩)
  rw [hnew]
  exact ⟨.ref _, _, I.lnew (t' := s.toks) (r.rep k.toNat) (by rw [PyProof.Rows.lm_len_rep_flat, Nat.mul_comm]; exact hz), rfl, q _ I.fresh⟩
end
/-! ### what is wanted of a result -/
def Ko (K : PySem.W.Frag) (R H : Hp) (d : Dt) (Q : VK) : Prop := ∀ v R' H', Ext .none R H R' H' → Nw K H R' H' v d → Q v H'
variable {Q : VK}
theorem Ko.old {d : Dt} (k : Ko K R H d Q) (s : Sub R H) (r : Rp K R v d) (f : Still d = true) : Q v H := k v R H (.refl s) (.inr ⟨f, r⟩)
theorem Ko.int {i : Int} (k : Ko K R H (.int i) Q) (s : Sub R H) : Q (.int i) H := k.old s (.int i) rfl
theorem Ko.bool {b : Bool} (k : Ko K R H (.bool b) Q) (s : Sub R H) : Q (.bl b) H := k.old s (.bl b) rfl
theorem Ko.str {x : Str} (k : Ko K R H (.str x) Q) (s : Sub R H) : Q (.str x) H := k.old s (.str x) rfl
theorem Ko.lst {ds : List Dt} {xs : List V} (k : Ko K R H (.list ds) Q) (s : Sub R H) (r : RpL K R xs ds) (z : ds.length ≤ sizeLine) : ∀ p, H p = none → Q (.ref p) (upd H p (.lst xs)) := fun p n => by
  refine k _ R _ (.side s n) (.inl ⟨p, rfl, n, ?_, .inl ⟨xs, ds, rfl, upd_same, r, z⟩⟩)
  cases q : R p with
  | none => rfl
  | some o => rw [s p o q] at n; cases n
theorem Ko.tup {ds : List Dt} {xs : List V} (k : Ko K R H (.tuple ds) Q) (s : Sub R H) (r : RpL K R xs ds) (z : ds.length ≤ sizeLine) : ∀ p, H p = none → Q (.ref p) (upd H p (.tup xs)) := fun p n => by
  have x : Ext .none R H (upd R p (.tup xs)) (upd H p (.tup xs)) := .new s n
  exact k _ _ _ x (.inr ⟨rfl, .tup (.of upd_same) (r.up x.r) z⟩)
end
theorem PotAt.keep {po : Option Addr} {R H R' H' : Hp} {pt : Pt} (p : PotAt po H pt) (x : Ext .none R H R' H') : PotAt po H' pt := fun q e => x.k q _ (p q e) (fun z => nomatch z)
theorem Nw.back {K : PySem.W.Frag} {H H1 R' H' : Hp} {v : V} {d : Dt} (h : ∀ a, H1 a = none → H a = none) : Nw K H1 R' H' v d → Nw K H R' H' v d
  | .inl ⟨a, e, n, r⟩ => .inl ⟨a, e, h a n, r⟩
  | .inr x => .inr x

/-! ### two operands -/
def d2 (g : Dt → Dt → Option Dt) (f f' : Dn) : Dn := fun env => (f env).bnd fun x => (f' env).bnd fun y => Mo.ofO (g x y)
def d1 (g : Dt → Option Dt) (f : Dn) : Dn := fun env => (f env).bnd fun x => Mo.ofO (g x)
def V2 (K : PySem.W.Frag) (g : Dt → Dt → Option Dt) : R2 := fun x y H Q => ∃ po R dx dy d, Sub R H ∧ Shal K po R H x dx ∧ Shal K po R H y dy ∧ g dx dy = some d ∧ Ko K R H d Q
def V1 (K : PySem.W.Frag) (g : Dt → Option Dt) : V → Hp → VK → Prop := fun x H Q => ∃ po R dx d, Sub R H ∧ Shal K po R H x dx ∧ g dx = some d ∧ Ko K R H d Q
section
variable {K : PySem.W.Frag} {ps : Option Nat} {S : List Nat} {f f' : Dn} {σ : L2.St} {H : Hp} {Q : VK}
theorem tOp_V2 {g : Dt → Dt → Option Dt} (h : TF K ps S (d2 g f f') σ H Q) : tOp (V2 K g) (TB K ps S f) (TB K ps S f') σ H Q := by
  obtain ⟨po, env, pt, d, pt', R, w, e, k⟩ := h
  obtain ⟨dx, p1, e1, e⟩ := Mo.bnd_some e
  obtain ⟨dy, p2, e2, e⟩ := Mo.bnd_some e
  obtain ⟨e3, rfl⟩ := Mo.ofO_some e
  refine ⟨po, env, pt, dx, p1, R, w, e1, fun x R1 H1 x1 q1 s1 => ⟨po, env, p1, dy, pt', R1, w.up x1 q1, e2, fun y R2 H2 x2 q2 s2 => ?_⟩⟩
  exact ⟨po, R2, dx, dy, d, x2.s, s1.up x2, s2, e3, fun v R' H' x3 n => k v R' H' ((x1.trans x2).trans x3.none) (q2.keep x3) (n.back (x1.trans x2).d)⟩
theorem tUn_V1 {g : Dt → Option Dt} (h : TF K ps S (d1 g f) σ H Q) : tUn (V1 K g) (TB K ps S f) σ H Q := by
  obtain ⟨po, env, pt, d, pt', R, w, e, k⟩ := h
  obtain ⟨dx, p1, e1, e⟩ := Mo.bnd_some e
  obtain ⟨e3, rfl⟩ := Mo.ofO_some e
  refine ⟨po, env, pt, dx, pt', R, w, e1, fun x R1 H1 x1 q1 s1 => ?_⟩
  exact ⟨po, R1, dx, d, x1.s, s1, e3, fun v R' H' x3 n => k v R' H' (x1.trans x3.none) (q1.keep x3) (n.back x1.d)⟩
variable {X : Cx} {a b : Expr} {pos : Pos}
theorem de_bin {op : Operator} {g : Dt → Dt → Option Dt} (ho : OpR X (binaryOp op) (V2 K g)) (ha : PE X a (TB K ps S f)) (hb : PE X b (TB K ps S f')) : PE X (.BinOp a op b pos) (TF K ps S (d2 g f f')) :=
  pe_imp (pe_op ho ha hb) fun _ _ _ => tOp_V2
theorem de_un {op : UnaryOp} {g : Dt → Option Dt} (ho : UnR X (unaryOp op) (V1 K g)) (ha : PE X a (TB K ps S f)) : PE X (.UnaryOp op a pos) (TF K ps S (d1 g f)) :=
  pe_imp (pe_un ho ha) fun _ _ _ => tUn_V1
theorem de_cmp {op : CmpOp} {g : Dt → Dt → Option Dt} (ho : OpR X (compareOp op) (V2 K g)) (ha : PE X a (TB K ps S f)) (hb : PE X b (TB K ps S f')) (hm : behindInMarks op b = false) : PE X (.Compare a [op] [b] pos) (TF K ps S (d2 g f f')) :=
  pe_imp (pe_cmpR ho ha hb hm) fun _ _ _ => tOp_V2
end

/-! ### the operators on data -/
def okLen (n : Nat) : Bool := decide (n ≤ sizeLine)
def addD : Dt → Dt → Option Dt
  | .int i, .int j => some (.int (i + j))
  | .int i, .bool b => some (.int (i + PyProof.Rows.b2i b))
  | .list xs, .list ys => if xs.length + ys.length ≤ sizeLine then some (.list (xs ++ ys)) else none
  | .tuple xs, .tuple ys => if xs.length + ys.length ≤ sizeLine then some (.tuple (xs ++ ys)) else none
  | .str x, .str y => if x.length + y.length ≤ sizeLine then some (.str (x ++ y)) else none
  | _, _ => none
def subD : Dt → Dt → Option Dt
  | .int i, .int j => some (.int (i - j))
  | _, _ => none
def mulD : Dt → Dt → Option Dt
  | .int i, .int j => if i.natAbs.log2 + j.natAbs.log2 < 1000000 then some (.int (i * j)) else none
  | .list xs, .int k => if k < 2 ^ 20 ∧ -(2 ^ 20) < k ∧ xs.length * k.toNat ≤ sizeLine then some (.list (List.replicate k.toNat xs).flatten) else none
  | _, _ => none
def divD : Dt → Dt → Option Dt
  | .int i, .int j => if 0 < j ∧ j.natAbs.log2 < 9000 then some (.int (i / j)) else none
  | _, _ => none
def modD : Dt → Dt → Option Dt
  | .int i, .int j => if 0 < j then some (.int (i % j)) else none
  | _, _ => none
def powD : Dt → Dt → Option Dt
  | .int i, .int j => if 0 ≤ j ∧ ((i.natAbs.log2 + 1 : Nat) : Int) * j ≤ 2 ^ 27 then some (.int (i ^ j.toNat)) else none
  | _, _ => none
def negD : Dt → Option Dt
  | .int i => some (.int (-i))
  | _ => none
section
variable {X : Cx}
/-- a rule of two ints -/
theorem v2_int {f : Value → Value → Sem Value} {C : Int → Int → Prop} {g : Int → Int → V} {k : Int → Int → Dt} {G : Dt → Dt → Option Dt} (h : OpR X f (rI C g)) (hk : ∀ i j (K : PySem.W.Frag) R, Rp K R (g i j) (k i j) ∧ Still (k i j) = true)
    (hG : ∀ dx dy d, G dx dy = some d → ∃ i j, dx = .int i ∧ dy = .int j ∧ C i j ∧ d = k i j) : OpR X f (V2 X.K G) := fun pins s σ H x y v u Q I rx ry ⟨po, R, dx, dy, d, sb, sx, sy, e, ko⟩ => by
  obtain ⟨i, j, rfl, rfl, c, rfl⟩ := hG _ _ _ e
  obtain rfl := sx.int
  obtain rfl := sy.int
  exact h pins s σ H _ _ v u Q I rx ry ⟨i, j, rfl, rfl, c, ko.old sb (hk i j X.K R).1 (hk i j X.K R).2⟩
theorem v2_int0 {f : Value → Value → Sem Value} {g : Int → Int → V} {k : Int → Int → Dt} {G : Dt → Dt → Option Dt} (h : OpR X f (rI0 g)) (hk : ∀ i j (K : PySem.W.Frag) R, Rp K R (g i j) (k i j) ∧ Still (k i j) = true)
    (hG : ∀ dx dy d, G dx dy = some d → ∃ i j, dx = .int i ∧ dy = .int j ∧ d = k i j) : OpR X f (V2 X.K G) := fun pins s σ H x y v u Q I rx ry ⟨po, R, dx, dy, d, sb, sx, sy, e, ko⟩ => by
  obtain ⟨i, j, rfl, rfl, rfl⟩ := hG _ _ _ e
  obtain rfl := sx.int
  obtain rfl := sy.int
  exact h pins s σ H _ _ v u Q I rx ry ⟨i, j, rfl, rfl, ko.old sb (hk i j X.K R).1 (hk i j X.K R).2⟩
theorem ov_sub : OpR X (binaryOp .Sub) (V2 X.K subD) := v2_int0 op_sub (fun i j _ _ => ⟨.int _, rfl⟩) fun dx dy d e => by
  unfold subD at e
  split at e
  · cases e; exact ⟨_, _, rfl, rfl, rfl⟩
  · cases e
theorem ov_div : OpR X (binaryOp .FloorDiv) (V2 X.K divD) := v2_int op_fdivW (fun i j _ _ => ⟨.int _, rfl⟩) fun dx dy d e => by
  unfold divD at e
  split at e
  · split at e
    · cases e; exact ⟨_, _, rfl, rfl, by assumption, rfl⟩
    · cases e
  · cases e
theorem ov_mod : OpR X (binaryOp .Mod) (V2 X.K modD) := v2_int op_mod (fun i j _ _ => ⟨.int _, rfl⟩) fun dx dy d e => by
  unfold modD at e
  split at e
  · split at e
    · cases e; exact ⟨_, _, rfl, rfl, by assumption, rfl⟩
    · cases e
  · cases e
theorem op_powL : OpR X (binaryOp .Pow) (rI (fun i j => 0 ≤ j ∧ ((i.natAbs.log2 + 1 : Nat) : Int) * j ≤ 2 ^ 27) fun i j => .int (i ^ j.toNat)) := opI fun i j _ _ _ _ _ hc q => PyProof.Rows.pow_int hc.1 (by
  have h : Builtin.Int.intBits i ≤ i.natAbs.log2 + 1 := by
    unfold Builtin.Int.intBits
    split
    · exact Nat.zero_le _
    · exact Nat.le_refl _
  exact Int.le_trans (Int.mul_le_mul_of_nonneg_right (by omega) hc.1) hc.2) q
theorem ov_pow : OpR X (binaryOp .Pow) (V2 X.K powD) := v2_int op_powL (fun i j _ _ => ⟨.int _, rfl⟩) fun dx dy d e => by
  unfold powD at e
  split at e
  · split at e
    · cases e; exact ⟨_, _, rfl, rfl, by assumption, rfl⟩
    · cases e
  · cases e
theorem uv_neg : UnR X (unaryOp .USub) (V1 X.K negD) := fun pins s σ H x v Q I rx ⟨po, R, dx, d, sb, sx, e, ko⟩ => by
  unfold negD at e
  split at e
  · cases e
    obtain rfl := sx.int
    exact un_neg pins s σ H _ v Q I rx ⟨_, rfl, ko.int sb⟩
  · cases e
theorem ov_add : OpR X (binaryOp .Add) (V2 X.K addD) := fun pins s σ H x y v u Q I rx ry ⟨po, R, dx, dy, d, sb, sx, sy, e, ko⟩ => by
  unfold addD at e
  split at e
  · cases e
    obtain rfl := sx.int
    obtain rfl := sy.int
    exact op_add pins s σ H _ _ v u Q I rx ry ⟨_, _, rfl, rfl, ko.int sb⟩
  · cases e
    obtain rfl := sx.int
    obtain rfl := sy.bool
    exact op_add_ib pins s σ H _ _ v u Q I rx ry ⟨_, _, rfl, rfl, ko.int sb⟩
  · split at e
    · cases e
      obtain ⟨a, xs, rfl, h1, r1, z1⟩ := sx.list sb
      obtain ⟨b, ys, rfl, h2, r2, z2⟩ := sy.list sb
      refine op_catE pins s σ H _ _ v u Q I rx ry ⟨a, b, xs, ys, rfl, rfl, h1, h2, by rw [r1.len, r2.len]; assumption, ko.lst sb (r1.app r2) (by rw [List.length_append]; assumption)⟩
    · cases e
  · split at e
    · cases e
      obtain ⟨a, xs, rfl, h1, r1, z1⟩ := sx.tuple sb
      obtain ⟨b, ys, rfl, h2, r2, z2⟩ := sy.tuple sb
      have l1 := r1.len
      have l2 := r2.len
      refine op_catA pins s σ H _ _ v u Q I rx ry ⟨a, b, xs, ys, rfl, rfl, h1, h2, by rw [l1, l2]; assumption, fun n => ?_, fun n n2 => ?_, fun _ _ => ko.tup sb (r1.app r2) (by rw [List.length_append]; assumption)⟩
      · subst n
        cases r1
        refine ko.old sb ?_ rfl
        rcases sy with q | ⟨_, _, _, ⟨_, _, q, _⟩ | ⟨_, _, q, _⟩ | ⟨_, _, q, _⟩⟩
        · exact q
        all_goals cases q
      · subst n2
        cases r2
        rw [List.append_nil] at ko
        refine ko.old sb ?_ rfl
        rcases sx with q | ⟨_, _, _, ⟨_, _, q, _⟩ | ⟨_, _, q, _⟩ | ⟨_, _, q, _⟩⟩
        · exact q
        all_goals cases q
    · cases e
  · split at e
    · cases e
      obtain rfl := sx.str
      obtain rfl := sy.str
      exact op_add_str pins s σ H _ _ v u Q I rx ry ⟨_, _, rfl, rfl, by assumption, ko.str sb⟩
    · cases e
  · cases e
theorem flat_rep {K : PySem.W.Frag} {R : Hp} {xs : List V} {ds : List Dt} (r : RpL K R xs ds) : ∀ n : Nat, RpL K R (List.replicate n xs).flatten (List.replicate n ds).flatten
  | 0 => .nil
  | n + 1 => by
    rw [List.replicate_succ, List.flatten_cons, List.replicate_succ, List.flatten_cons]
    exact r.app (flat_rep r n)
theorem ov_mul : OpR X (binaryOp .Mult) (V2 X.K mulD) := fun pins s σ H x y v u Q I rx ry ⟨po, R, dx, dy, d, sb, sx, sy, e, ko⟩ => by
  unfold mulD at e
  split at e
  · split at e
    · cases e
      obtain rfl := sx.int
      obtain rfl := sy.int
      exact op_mulW pins s σ H _ _ v u Q I rx ry ⟨_, _, rfl, rfl, by assumption, ko.int sb⟩
    · cases e
  · split at e
    · rename_i h
      cases e
      obtain ⟨a, xs, rfl, h1, r1, z1⟩ := sx.list sb
      obtain rfl := sy.int
      refine op_repE pins s σ H _ _ v u Q I rx ry ⟨a, _, xs, rfl, rfl, h1, by omega, by omega, by rw [r1.len]; exact h.2.2, ko.lst sb (flat_rep r1 _) ?_⟩
      rw [List.length_flatten, List.map_replicate, List.sum_replicate_nat, Nat.mul_comm]
      exact h.2.2
    · cases e
  · cases e
end

/-! ### comparisons of data -/
def ltD : Dt → Dt → Option Dt
  | .int i, .int j => some (.bool (decide (i < j)))
  | _, _ => none
def leD : Dt → Dt → Option Dt
  | .int i, .int j => some (.bool (decide (i ≤ j)))
  | _, _ => none
def gtD : Dt → Dt → Option Dt
  | .int i, .int j => some (.bool (decide (j < i)))
  | _, _ => none
def geD : Dt → Dt → Option Dt
  | .int i, .int j => some (.bool (decide (j ≤ i)))
  | _, _ => none
def eqStr : Dt → Dt → Option Bool
  | .str a, .str b => some (decide (a = b))
  | _, _ => none
theorem eqStr_some {x y : Dt} {b : Bool} (h : eqStr x y = some b) : ∃ i j, x = .str i ∧ y = .str j ∧ b = decide (i = j) := by
  unfold eqStr at h
  split at h
  · cases h; exact ⟨_, _, rfl, rfl, rfl⟩
  · cases h
def eqD (x y : Dt) : Option Dt := if SeqAt.shaped x = true ∧ SeqAt.shaped y = true then some (.bool (PyData.eqv x y)) else (eqStr x y).map .bool
def neD (x y : Dt) : Option Dt := if SeqAt.shaped x = true ∧ SeqAt.shaped y = true then some (.bool (!PyData.eqv x y)) else (eqStr x y).map fun b => .bool (!b)
def isNone : Dt → Bool
  | .none => true
  | _ => false
def isD : Dt → Dt → Option Dt
  | .bool a, .bool b => some (.bool (decide (a = b)))
  | d, .none => some (.bool (isNone d))
  | _, _ => none
def isntD : Dt → Dt → Option Dt
  | .bool a, .bool b => some (.bool (!decide (a = b)))
  | d, .none => some (.bool (!isNone d))
  | _, _ => none
section
variable {X : Cx}
theorem ov_lt : OpR X (compareOp .Lt) (V2 X.K ltD) := v2_int0 op_lt (fun i j _ _ => ⟨.bl _, rfl⟩) fun dx dy d e => by
  unfold ltD at e
  split at e
  · cases e; exact ⟨_, _, rfl, rfl, rfl⟩
  · cases e
theorem ov_le : OpR X (compareOp .LtE) (V2 X.K leD) := v2_int0 op_le (fun i j _ _ => ⟨.bl _, rfl⟩) fun dx dy d e => by
  unfold leD at e
  split at e
  · cases e; exact ⟨_, _, rfl, rfl, rfl⟩
  · cases e
theorem ov_gt : OpR X (compareOp .Gt) (V2 X.K gtD) := v2_int0 op_gt (fun i j _ _ => ⟨.bl _, rfl⟩) fun dx dy d e => by
  unfold gtD at e
  split at e
  · cases e; exact ⟨_, _, rfl, rfl, rfl⟩
  · cases e
theorem ov_ge : OpR X (compareOp .GtE) (V2 X.K geD) := v2_int0 op_ge (fun i j _ _ => ⟨.bl _, rfl⟩) fun dx dy d e => by
  unfold geD at e
  split at e
  · cases e; exact ⟨_, _, rfl, rfl, rfl⟩
  · cases e
theorem ov_eq (hu : X.A.units + 64 < cLine) : OpR X (compareOp .Eq) (V2 X.K eqD) := fun pins s σ H x y v u Q I rx ry ⟨po, R, dx, dy, d, sb, sx, sy, e, ko⟩ => by
  unfold eqD at e
  split at e
  · rename_i h
    cases e
    exact op_eqD hu pins s σ H _ _ v u Q I rx ry ⟨dx, dy, sx.dp sb (flat_lay _ (SeqAt.canLay_of_shaped h.1)), sy.dp sb (flat_lay _ (SeqAt.canLay_of_shaped h.2)), h.1, h.2, ko.bool sb⟩
  · cases q : eqStr dx dy with
    | none => rw [q] at e; cases e
    | some b =>
      rw [q] at e; cases e
      obtain ⟨i, j, rfl, rfl, rfl⟩ := eqStr_some q
      obtain rfl := sx.str
      obtain rfl := sy.str
      refine op_eq pins s σ H _ _ v u Q I rx ry ⟨rfl, ?_⟩
      have e2 : decide (V.str i = V.str j) = decide (i = j) := by rw [Bool.eq_iff_iff]; simp
      rw [e2]
      exact ko.bool sb
theorem ov_ne (hu : X.A.units + 64 < cLine) : OpR X (compareOp .NotEq) (V2 X.K neD) := fun pins s σ H x y v u Q I rx ry ⟨po, R, dx, dy, d, sb, sx, sy, e, ko⟩ => by
  unfold neD at e
  split at e
  · rename_i h
    cases e
    exact op_neD hu pins s σ H _ _ v u Q I rx ry ⟨dx, dy, sx.dp sb (flat_lay _ (SeqAt.canLay_of_shaped h.1)), sy.dp sb (flat_lay _ (SeqAt.canLay_of_shaped h.2)), h.1, h.2, ko.bool sb⟩
  · cases q : eqStr dx dy with
    | none => rw [q] at e; cases e
    | some b =>
      rw [q] at e; cases e
      obtain ⟨i, j, rfl, rfl, rfl⟩ := eqStr_some q
      obtain rfl := sx.str
      obtain rfl := sy.str
      refine op_ne pins s σ H _ _ v u Q I rx ry ⟨rfl, ?_⟩
      have e2 : decide (V.str i = V.str j) = decide (i = j) := by rw [Bool.eq_iff_iff]; simp
      rw [e2]
      exact ko.bool sb
theorem Shal.isNon {K : PySem.W.Frag} {po : Option Addr} {R H : Hp} {v : V} {d : Dt} (h : Shal K po R H v d) : decide (v = .non) = isNone d := by
  rcases h with h | ⟨a, e, _, h⟩
  · cases h <;> rfl
  · subst e
    rcases h with ⟨_, _, rfl, _⟩ | ⟨_, _, rfl, _⟩ | ⟨_, _, rfl, _⟩ <;> rfl
theorem ov_is : OpR X (compareOp .Is) (V2 X.K isD) := fun pins s σ H x y v u Q I rx ry ⟨po, R, dx, dy, d, sb, sx, sy, e, ko⟩ => by
  unfold isD at e
  split at e
  · cases e
    obtain rfl := sx.bool
    obtain rfl := sy.bool
    exact op_isBl pins s σ H _ _ v u Q I rx ry ⟨_, _, rfl, rfl, ko.bool sb⟩
  · obtain rfl := sy.non
    refine op_isN pins s σ H _ _ v u Q I rx ry ⟨rfl, ?_⟩
    rw [sx.isNon]
    cases e
    exact ko.bool sb
  · cases e
theorem ov_isnt : OpR X (compareOp .IsNot) (V2 X.K isntD) := fun pins s σ H x y v u Q I rx ry ⟨po, R, dx, dy, d, sb, sx, sy, e, ko⟩ => by
  unfold isntD at e
  split at e
  · cases e
    obtain rfl := sx.bool
    obtain rfl := sy.bool
    exact op_notBl pins s σ H _ _ v u Q I rx ry ⟨_, _, rfl, rfl, ko.bool sb⟩
  · obtain rfl := sy.non
    refine op_notN pins s σ H _ _ v u Q I rx ry ⟨rfl, ?_⟩
    rw [sx.isNon]
    cases e
    exact ko.bool sb
  · cases e
end
end Ev

/-! Ev, part C: names, constants, logic, displays, subscripts, calls of own defs. -/
namespace Ev
open PySem L2

section
variable {K : PySem.W.Frag} {ps : Option Nat} {S S' : List Nat} {f f' : Dn} {X : Cx} {e a b c : Expr} {pos : Pos}
theorem pe_less (hS : ∀ i ∈ S', i ∈ S) (h : PE X e (TD K ps S' f)) : PE X e (TD K ps S f) := pe_imp h fun _ _ _ ⟨po, env, pt, d, pt', R, w, q⟩ => ⟨po, env, pt, d, pt', R, w.less hS, q⟩
theorem pe_lessF (hS : ∀ i ∈ S', i ∈ S) (h : PE X e (TF K ps S' f)) : PE X e (TF K ps S f) := pe_imp h fun _ _ _ ⟨po, env, pt, d, pt', R, w, q⟩ => ⟨po, env, pt, d, pt', R, w.less hS, q⟩
theorem pe_lessB (hS : ∀ i ∈ S', i ∈ S) (h : PE X e (TB K ps S' f)) : PE X e (TB K ps S f) := pe_imp h fun _ _ _ ⟨po, env, pt, d, pt', R, w, q⟩ => ⟨po, env, pt, d, pt', R, w.less hS, q⟩
theorem pt_less (hS : ∀ i ∈ S', i ∈ S) (h : PT X e (TT' K ps S' f)) : PT X e (TT' K ps S f) := pt_imp h fun _ _ _ ⟨po, env, pt, d, pt', R, w, q⟩ => ⟨po, env, pt, d, pt', R, w.less hS, q⟩
theorem pe_FD (h : PE X e (TF K ps S f)) : PE X e (TD K ps S f) := pe_imp h fun _ _ _ => TF.d
theorem pe_DB (h : PE X e (TD K ps S f)) : PE X e (TB K ps S f) := pe_imp h fun _ _ _ => TD.b

/-! ### names, constants -/
def dVar (i : Nat) : Dn := fun env => Mo.ofO (env[i]?.join)
def dLit (d : Dt) : Dn := fun _ => Mo.ret d
theorem var_some {i : Nat} {env : En} {pt pt' : Pt} {d : Dt} (h : dVar i env pt = some (d, pt')) : env[i]? = some (some d) ∧ pt' = pt := by
  obtain ⟨h, e⟩ := Mo.ofO_some h
  refine ⟨?_, e⟩
  cases q : env[i]? with
  | none => rw [q] at h; cases h
  | some o => rw [q] at h; exact congrArg some h
theorem db_var {i : Nat} {x : Str} (h : PE X (.Name x pos) (tVar i)) : PE X (.Name x pos) (TB K ps S (dVar i)) := pe_imp h fun σ H Q ⟨po, env, pt, d, pt', R, w, q, k⟩ => by
  obtain ⟨q1, e1⟩ := var_some q
  subst e1
  obtain ⟨v, h1, h2, _⟩ := w.sl i d q1
  exact ⟨v, h1, k v R H (.refl w.sub) w.pot h2⟩
theorem de_var {i : Nat} {x : Str} (hi : i ∈ S) (h : PE X (.Name x pos) (tVar i)) : PE X (.Name x pos) (TD K ps S (dVar i)) := pe_imp h fun σ H Q ⟨po, env, pt, d, pt', R, w, q, k⟩ => by
  obtain ⟨q1, e1⟩ := var_some q
  subst e1
  obtain ⟨v, h1, _, h2⟩ := w.sl i d q1
  exact ⟨v, h1, k v R H (.refl w.sub) w.pot (h2 hi)⟩
theorem de_lit {v : V} {d : Dt} (hs : Still d = true) (hr : ∀ R, Rp K R v d) (h : PE X e (tC v)) : PE X e (TF K ps S (dLit d)) := pe_imp h fun σ H Q ⟨po, env, pt, d', pt', R, w, q, k⟩ => by
  cases q
  exact k v R H (.refl w.sub) w.pot (.inr ⟨hs, hr R⟩)

/-! ### tests -/
/-- a reading that serves data serves a test -/
theorem tt_of {t : TE} {σ H Q} (h : ∀ Q, TF K ps S f σ H Q → t σ H Q) (q : TT' K ps S f σ H Q) : t σ H fun x H1 => ∃ k, x = .bl k ∧ Q k H1 := by
  obtain ⟨po, env, pt, b, pt', R, w, e, k⟩ := q
  refine h _ ⟨po, env, pt, .bool b, pt', R, w, e, fun v R' H' x p n => ?_⟩
  rcases n with ⟨_, _, _, _, ⟨_, _, z, _⟩ | ⟨_, _, z, _⟩ | ⟨_, _, z, _⟩⟩ | ⟨_, r⟩
  · cases z
  · cases z
  · cases z
  · cases r
    exact ⟨b, rfl, k R' H' x p⟩
theorem dt_cmp {op : CmpOp} {g : Dt → Dt → Option Dt} (ho : OpR X (compareOp op) (V2 K g)) (ha : PE X a (TB K ps S f)) (hb : PE X b (TB K ps S f')) (hm : behindInMarks op b = false) : PT X (.Compare a [op] [b] pos) (TT' K ps S (d2 g f f')) :=
  pt_imp (pt_cmpR ho ha hb hm) fun _ _ _ => tt_of fun _ => tOp_V2
theorem tt_ofD {σ H Q} (q : TT' K ps S f σ H Q) : TD K ps S f σ H fun x H1 => ∃ k, x = .bl k ∧ Q k H1 := by
  obtain ⟨po, env, pt, b, pt', R, w, e, k⟩ := q
  refine ⟨po, env, pt, .bool b, pt', R, w, e, fun v R' H' x p r => ?_⟩
  cases r
  exact ⟨b, rfl, k R' H' x p⟩
def plainTest : Expr → Bool
  | .UnaryOp .Not _ _ | .BoolOp .. | .IfExp .. | .Compare .. => false
  | _ => true
theorem plain_test (h : plainTest e = true) : ∀ whole, isTrue e X.env whole = (do let v ← whole; standAt e.pos; holding [v] (truthy v)) := by
  intro whole
  cases e with
  | UnaryOp o _ _ => cases o <;> first | rfl | cases h
  | BoolOp => cases h
  | IfExp => cases h
  | Compare => cases h
  | _ => rfl
theorem dt_val (hp : plainTest e = true) (h : PE X e (TD K ps S f)) : PT X e (TT' K ps S f) := pt_imp (pt_val h (plain_test hp)) fun _ _ _ => tt_ofD
/-- not, and, or -/
def notD : Dt → Option Dt
  | .bool b => some (.bool (!b))
  | _ => none
def dNot (f : Dn) : Dn := d1 notD f
def dAnd (f g : Dn) : Dn := fun env => (f env).bnd fun x => match x with
  | .bool true => g env
  | .bool false => Mo.ret (.bool false)
  | _ => Mo.fail
def dOr (f g : Dn) : Dn := fun env => (f env).bnd fun x => match x with
  | .bool true => Mo.ret (.bool true)
  | .bool false => g env
  | _ => Mo.fail
def dIf (f g h : Dn) : Dn := fun env => (f env).bnd fun x => match x with
  | .bool true => g env
  | .bool false => h env
  | _ => Mo.fail
theorem not_some {env : En} {pt pt' : Pt} {d : Dt} (h : dNot f env pt = some (d, pt')) : ∃ b, f env pt = some (.bool b, pt') ∧ d = .bool !b := by
  obtain ⟨x, p1, e1, h⟩ := Mo.bnd_some h
  obtain ⟨h, rfl⟩ := Mo.ofO_some h
  unfold notD at h
  split at h
  · cases h; exact ⟨_, e1, rfl⟩
  · cases h
theorem and_some {env : En} {pt pt' : Pt} {d : Dt} (h : dAnd f f' env pt = some (d, pt')) : (∃ p1, f env pt = some (.bool true, p1) ∧ f' env p1 = some (d, pt')) ∨ (f env pt = some (.bool false, pt') ∧ d = .bool false) := by
  obtain ⟨x, p1, e1, h⟩ := Mo.bnd_some h
  split at h
  · exact .inl ⟨p1, e1, h⟩
  · cases h; exact .inr ⟨e1, rfl⟩
  · cases h
theorem or_some {env : En} {pt pt' : Pt} {d : Dt} (h : dOr f f' env pt = some (d, pt')) : (∃ p1, f env pt = some (.bool false, p1) ∧ f' env p1 = some (d, pt')) ∨ (f env pt = some (.bool true, pt') ∧ d = .bool true) := by
  obtain ⟨x, p1, e1, h⟩ := Mo.bnd_some h
  split at h
  · cases h; exact .inr ⟨e1, rfl⟩
  · exact .inl ⟨p1, e1, h⟩
  · cases h
theorem if_some {g h' : Dn} {env : En} {pt pt' : Pt} {d : Dt} (h : dIf f g h' env pt = some (d, pt')) : ∃ b p1, f env pt = some (.bool b, p1) ∧ (if b = true then g else h') env p1 = some (d, pt') := by
  obtain ⟨x, p1, e1, h⟩ := Mo.bnd_some h
  split at h
  · exact ⟨true, p1, e1, h⟩
  · exact ⟨false, p1, e1, h⟩
  · cases h
theorem dt_not (h : PT X e (TT' K ps S f)) : PT X (.UnaryOp .Not e pos) (TT' K ps S (dNot f)) := pt_imp (pt_not h) fun σ H Q ⟨po, env, pt, b, pt', R, w, q, k⟩ => by
  obtain ⟨c, q1, z⟩ := not_some q
  cases z
  exact ⟨po, env, pt, c, pt', R, w, q1, k⟩
theorem dw_and1 {o : BoolOp} (h : PT X e (TT' K ps S f)) : PW X (.BoolOp .And [e] pos) (TT' K ps S f) := pw_and1 h
theorem dw_or1 (h : PT X e (TT' K ps S f)) : PW X (.BoolOp .Or [e] pos) (TT' K ps S f) := pw_or1 h
theorem pw_imp {t t' : TT} (h : PW X e t) (i : ∀ σ H Q, t' σ H Q → t σ H Q) : PW X e t' := ⟨fun wh pins s σ H Q I w => h.run wh pins s σ H Q I (i σ H Q w)⟩
theorem dw_and {es : List Expr} (ha : PT X a (TT' K ps S f)) (hb : PW X (.BoolOp .And (b :: es) pos) (TT' K ps S f')) : PW X (.BoolOp .And (a :: b :: es) pos) (TT' K ps S (dAnd f f')) :=
  pw_imp (pw_and ha hb) fun σ H Q ⟨po, env, pt, b, pt', R, w, q, k⟩ => by
    rcases and_some q with ⟨p1, e1, e2⟩ | ⟨e1, z⟩
    · exact ⟨po, env, pt, true, p1, R, w, e1, fun R1 H1 x p => ⟨po, env, p1, b, pt', R1, w.up x p, e2, fun R' H' x' p' => k R' H' (x.trans x') p'⟩⟩
    · cases z
      exact ⟨po, env, pt, false, pt', R, w, e1, fun R1 H1 x p => k R1 H1 x p⟩
theorem dw_or {es : List Expr} (ha : PT X a (TT' K ps S f)) (hb : PW X (.BoolOp .Or (b :: es) pos) (TT' K ps S f')) : PW X (.BoolOp .Or (a :: b :: es) pos) (TT' K ps S (dOr f f')) :=
  pw_imp (pw_or ha hb) fun σ H Q ⟨po, env, pt, b, pt', R, w, q, k⟩ => by
    rcases or_some q with ⟨p1, e1, e2⟩ | ⟨e1, z⟩
    · exact ⟨po, env, pt, false, p1, R, w, e1, fun R1 H1 x p => ⟨po, env, p1, b, pt', R1, w.up x p, e2, fun R' H' x' p' => k R' H' (x.trans x') p'⟩⟩
    · cases z
      exact ⟨po, env, pt, true, pt', R, w, e1, fun R1 H1 x p => k R1 H1 x p⟩
/-- the same as values -/
theorem de_not (h : PE X e (TB K ps S f)) : PE X (.UnaryOp .Not e pos) (TF K ps S (dNot f)) := pe_imp (pe_not h) fun σ H Q ⟨po, env, pt, d, pt', R, w, q, k⟩ => by
  obtain ⟨c, q1, e1⟩ := not_some q
  subst e1
  refine ⟨po, env, pt, _, pt', R, w, q1, fun v R' H' x p s => ?_⟩
  obtain rfl := s.bool
  exact ⟨c, rfl, k _ R' H' x p (.inr ⟨rfl, .bl _⟩)⟩
theorem de_and {es : List Expr} (ha : PE X a (TB K ps S f)) (hb : PE X (.BoolOp .And (b :: es) pos) (TD K ps S f')) : PE X (.BoolOp .And (a :: b :: es) pos) (TD K ps S (dAnd f f')) :=
  pe_imp (pe_and ha hb) fun σ H Q ⟨po, env, pt, d, pt', R, w, q, k⟩ => by
    rcases and_some q with ⟨p1, e1, e2⟩ | ⟨e1, rfl⟩
    · refine ⟨po, env, pt, _, p1, R, w, e1, fun v R1 H1 x p s => ?_⟩
      obtain rfl := s.bool
      exact ⟨true, rfl, ⟨po, env, p1, d, pt', R1, w.up x p, e2, fun v R' H' x' p' r => k v R' H' (x.trans x') p' r⟩⟩
    · refine ⟨po, env, pt, _, pt', R, w, e1, fun v R1 H1 x p s => ?_⟩
      obtain rfl := s.bool
      exact ⟨false, rfl, k _ R1 H1 x p (.bl _)⟩
theorem de_or {es : List Expr} (ha : PE X a (TB K ps S f)) (hb : PE X (.BoolOp .Or (b :: es) pos) (TD K ps S f')) : PE X (.BoolOp .Or (a :: b :: es) pos) (TD K ps S (dOr f f')) :=
  pe_imp (pe_or ha hb) fun σ H Q ⟨po, env, pt, d, pt', R, w, q, k⟩ => by
    rcases or_some q with ⟨p1, e1, e2⟩ | ⟨e1, rfl⟩
    · refine ⟨po, env, pt, _, p1, R, w, e1, fun v R1 H1 x p s => ?_⟩
      obtain rfl := s.bool
      exact ⟨false, rfl, ⟨po, env, p1, d, pt', R1, w.up x p, e2, fun v R' H' x' p' r => k v R' H' (x.trans x') p' r⟩⟩
    · refine ⟨po, env, pt, _, pt', R, w, e1, fun v R1 H1 x p s => ?_⟩
      obtain rfl := s.bool
      exact ⟨true, rfl, k _ R1 H1 x p (.bl _)⟩
theorem de_one {o : BoolOp} (h : PE X e (TD K ps S f)) : PE X (.BoolOp o [e] pos) (TD K ps S f) := pe_one h
theorem de_if {g g' : Dn} (hc : PT X c (TT' K ps S f)) (ha : PE X a (TD K ps S g)) (hb : PE X b (TD K ps S g')) : PE X (.IfExp c a b pos) (TD K ps S (dIf f g g')) :=
  pe_imp (pe_ifExp hc ha hb) fun σ H Q ⟨po, env, pt, d, pt', R, w, q, k⟩ => by
    obtain ⟨b, p1, e1, e2⟩ := if_some q
    refine ⟨po, env, pt, b, p1, R, w, e1, fun R1 H1 x p => ?_⟩
    cases b with
    | true => exact ⟨po, env, p1, d, pt', R1, w.up x p, e2, fun v R' H' x' p' r => k v R' H' (x.trans x') p' r⟩
    | false => exact ⟨po, env, p1, d, pt', R1, w.up x p, e2, fun v R' H' x' p' r => k v R' H' (x.trans x') p' r⟩
theorem de_ifF {g g' : Dn} (hc : PT X c (TT' K ps S f)) (ha : PE X a (TF K ps S g)) (hb : PE X b (TF K ps S g')) : PE X (.IfExp c a b pos) (TF K ps S (dIf f g g')) :=
  pe_imp (pe_ifExp hc ha hb) fun σ H Q ⟨po, env, pt, d, pt', R, w, q, k⟩ => by
    obtain ⟨b, p1, e1, e2⟩ := if_some q
    refine ⟨po, env, pt, b, p1, R, w, e1, fun R1 H1 x p => ?_⟩
    cases b with
    | true => exact ⟨po, env, p1, d, pt', R1, w.up x p, e2, fun v R' H' x' p' r => k v R' H' (x.trans x') p' (r.back x.d)⟩
    | false => exact ⟨po, env, p1, d, pt', R1, w.up x p, e2, fun v R' H' x' p' r => k v R' H' (x.trans x') p' (r.back x.d)⟩
/-- a op b op' c -/
def dChn (g g' : Dt → Dt → Option Dt) (f h l : Dn) : Dn := fun env => (f env).bnd fun x => (h env).bnd fun y => (Mo.ofO (g x y)).bnd fun z => match z with
  | .bool true => (l env).bnd fun u => Mo.ofO (g' y u)
  | .bool false => Mo.ret (.bool false)
  | _ => Mo.fail
theorem chain_ok {g g' : Dt → Dt → Option Dt} {h l : Dn} {σ H Q} (q : TF K ps S (dChn g g' f h l) σ H Q) : tChain (V2 K g) (V2 K g') (TB K ps S f) (TB K ps S h) (TB K ps S l) σ H Q := by
  obtain ⟨po, env, pt, d, pt', R, w, q, k⟩ := q
  obtain ⟨dx, p1, e1, q⟩ := Mo.bnd_some q
  obtain ⟨dy, p2, e2, q⟩ := Mo.bnd_some q
  obtain ⟨dz, p3, e3, q9⟩ := Mo.bnd_some q
  obtain ⟨e3', e3''⟩ := Mo.ofO_some e3
  subst e3''
  refine ⟨po, env, pt, dx, p1, R, w, e1, fun x R1 H1 x1 q1 s1 => ⟨po, env, p1, dy, p3, R1, w.up x1 q1, e2, fun y R2 H2 x2 q2 s2 => ⟨po, R2, dx, dy, dz, x2.s, s1.up x2, s2, e3', fun v R3 H3 x3 n3 => ?_⟩⟩⟩
  have x13 := (x1.trans x2).trans (x3.none (po := po))
  split at q9
  · obtain ⟨du, p4, e4, q8⟩ := Mo.bnd_some q9
    obtain ⟨e5, e5'⟩ := Mo.ofO_some q8
    subst e5'
    rcases n3 with ⟨_, _, _, _, ⟨_, _, z, _⟩ | ⟨_, _, z, _⟩ | ⟨_, _, z, _⟩⟩ | ⟨_, r⟩
    · cases z
    · cases z
    · cases z
    cases r
    refine ⟨true, rfl, ?_⟩
    exact ⟨po, env, _, du, _, R3, w.up x13 (q2.keep x3), e4, fun u R4 H4 x4 q4 s4 => ⟨po, R4, dy, du, d, x4.s, (s2.up (x3.none (po := po))).up x4, s4, e5, fun v R' H' x5 n => k v R' H' ((x13.trans x4).trans x5.none) (q4.keep x5) (n.back (x13.trans x4).d)⟩⟩
  · rcases n3 with ⟨_, _, _, _, ⟨_, _, z, _⟩ | ⟨_, _, z, _⟩ | ⟨_, _, z, _⟩⟩ | ⟨_, r⟩
    · cases z
    · cases z
    · cases z
    cases r
    cases q9
    exact ⟨false, rfl, k _ R3 H3 x13 (q2.keep x3) (.inr ⟨rfl, .bl _⟩)⟩
  · cases q9
theorem de_chain {o o' : CmpOp} {g g' : Dt → Dt → Option Dt} {h l : Dn} (ho : OpR X (compareOp o) (V2 K g)) (ho' : OpR X (compareOp o') (V2 K g')) (ha : PE X a (TB K ps S f)) (hb : PE X b (TB K ps S h)) (hc : PE X c (TB K ps S l))
    (hm : lastMarks [o, o'] [b, c] = false) : PE X (.Compare a [o, o'] [b, c] pos) (TF K ps S (dChn g g' f h l)) := pe_imp (pe_chain ho ho' ha hb hc hm) fun _ _ _ => chain_ok
theorem dt_chain {o o' : CmpOp} {g g' : Dt → Dt → Option Dt} {h l : Dn} (ho : OpR X (compareOp o) (V2 K g)) (ho' : OpR X (compareOp o') (V2 K g')) (ha : PE X a (TB K ps S f)) (hb : PE X b (TB K ps S h)) (hc : PE X c (TB K ps S l))
    (hm : lastMarks [o, o'] [b, c] = false) : PT X (.Compare a [o, o'] [b, c] pos) (TT' K ps S (dChn g g' f h l)) := pt_imp (pt_chain ho ho' ha hb hc hm) fun _ _ _ => tt_of fun _ => chain_ok

/-! ### arguments, displays -/
def lNil : Ln := fun _ => Mo.ret []
def lCons (f : Dn) (l : Ln) : Ln := fun env => (f env).bnd fun x => (l env).bnd fun xs => Mo.ret (x :: xs)
def itemsD : Dt → Option (List Dt)
  | .list xs => some xs
  | .tuple xs => some xs
  | _ => none
def lStar (f : Dn) (l : Ln) : Ln := fun env => (f env).bnd fun x => (Mo.ofO (itemsD x)).bnd fun ys => (l env).bnd fun xs => Mo.ret (ys ++ xs)
def notStar : Expr → Bool
  | .Starred .. => false
  | _ => true
theorem star_no {es : List Expr} {env : Env} (h : notStar e = true) : starEach (e :: es) env = (false, eval e env) :: starEach es env := by
  cases e with
  | Starred => cases h
  | _ => rfl
variable {l : Ln} {es : List Expr}
theorem da_nil : PA X [] (TAs K ps S lNil) := pa_imp pa_nil fun σ H Q ⟨po, env, pt, ds, pt', R, w, q, k⟩ => by
  cases q
  exact k [] R H (.refl w.sub) w.pot .nil
theorem da_cons (hn : notStar e = true) (he : PE X e (TD K ps S f)) (hl : PA X es (TAs K ps S l)) : PA X (e :: es) (TAs K ps S (lCons f l)) := pa_imp (pa_cons he hl (star_no hn)) fun σ H Q ⟨po, env, pt, ds, pt', R, w, q, k⟩ => by
  obtain ⟨dx, p1, e1, q⟩ := Mo.bnd_some q
  obtain ⟨dl, p2, e2, q⟩ := Mo.bnd_some q
  cases q
  exact ⟨po, env, pt, dx, p1, R, w, e1, fun v R1 H1 x1 q1 r1 => ⟨po, env, p1, dl, _, R1, w.up x1 q1, e2, fun vs R2 H2 x2 q2 r2 => k _ R2 H2 (x1.trans x2) q2 (.cons (r1.up x2.r) r2)⟩⟩
theorem da_star {p : Pos} (he : PE X e (TB X.K ps S f)) (hl : PA X es (TAs X.K ps S l)) : PA X (.Starred e p :: es) (TAs X.K ps S (lStar f l)) := by
  refine ⟨fun pp pn st σ H Q I ⟨po, env, pt, ds, pt', R, w, q, k⟩ => ?_⟩
  obtain ⟨dx, p1, e1, q⟩ := Mo.bnd_some q
  obtain ⟨dy, p0, e0, q⟩ := Mo.bnd_some q
  obtain ⟨dl, p2, e2, q⟩ := Mo.bnd_some q
  cases q
  obtain ⟨e0, rfl⟩ := Mo.ofO_some e0
  refine PySem.W.items_star (thn (he.run pn st σ H (fun v H1 => ∃ R1, Ext po R H R1 H1 ∧ PotAt po H1 p0 ∧ Shal X.K po R1 H1 v dx) I ⟨po, env, pt, dx, p0, R, w, e1, fun v R1 H1 x1 q1 s1 => ⟨R1, x1, q1, s1⟩⟩) fun u s1 ⟨v, H1, I1, r1, R1, x1, q1, sh⟩ => ?_)
  have fin : ∀ {a : Addr} {xs : List V}, RpL X.K R1 xs dy → ∀ us s2, Inv X pn σ H1 s2 → Vals xs us → wpAny (model X.prog X.w) X.A (spliced (backTo pp (starEach es X.env))) (fun vs s3 => AP X pn σ Q (us ++ vs) s3) X.xe s2 := fun {a xs} rl us s2 I2 rv =>
    thn (hl.run pp pn s2 σ H1 (fun vs H2 => Q (xs ++ vs) H2) I2 ⟨po, env, p0, dl, _, R1, w.up x1 q1, e2, fun vs R2 H2 x2 q2 r2 => k _ R2 H2 (x1.trans x2) q2 ((rl.up x2.r).app r2)⟩) fun ws s3 ⟨vs, H2, I3, r3, q3⟩ => ⟨xs ++ vs, H2, I3, rv.append r3, q3⟩
  cases dx with
  | list ys =>
    cases e0
    obtain ⟨a, xs, rfl, h1, rl, z⟩ := sh.list x1.s
    cases r1
    exact StX.star_any I1 (.inr (h1.sqL)) (fin (a := a) rl)
  | tuple ys =>
    cases e0
    obtain ⟨a, xs, rfl, h1, rl, z⟩ := sh.tuple x1.s
    cases r1
    exact StX.star_any I1 (.inl h1) (fin (a := a) rl)
  | _ => cases e0
def dTup (l : Ln) : Dn := fun env => (l env).bnd fun xs => if okLen xs.length = true then Mo.ret (.tuple xs) else Mo.fail
def dLst (l : Ln) : Dn := fun env => (l env).bnd fun xs => if okLen xs.length = true then Mo.ret (.list xs) else Mo.fail
theorem de_tup {k1} (h : PA X es (TAs K ps S l)) : PE X (.Tuple es k1 pos) (TF K ps S (dTup l)) := pe_imp (pe_tup h) fun σ H Q ⟨po, env, pt, d, pt', R, w, q, k⟩ => by
  obtain ⟨ds, p1, e1, q⟩ := Mo.bnd_some q
  split at q
  · rename_i z
    cases q
    have z := of_decide_eq_true z
    refine ⟨po, env, pt, ds, pt', R, w, e1, fun vs R1 H1 x1 q1 r1 => ⟨by rw [r1.len]; exact z, fun p n => ?_⟩⟩
    have x2 : Ext .none R1 H1 (upd R1 p (.tup vs)) (upd H1 p (.tup vs)) := .new x1.s n
    exact k _ _ _ (x1.trans x2.none) (q1.keep x2) (.inr ⟨rfl, .tup (.of upd_same) (r1.up x2.r) z⟩)
  · cases q
theorem de_lst (h : PA X es (TAs K ps S l)) : PE X (.List es pos) (TF K ps S (dLst l)) := pe_imp (pe_lst h) fun σ H Q ⟨po, env, pt, d, pt', R, w, q, k⟩ => by
  obtain ⟨ds, p1, e1, q⟩ := Mo.bnd_some q
  split at q
  · rename_i z
    cases q
    have z := of_decide_eq_true z
    refine ⟨po, env, pt, ds, pt', R, w, e1, fun vs R1 H1 x1 q1 r1 => ⟨by rw [r1.len]; exact z, fun p n => ?_⟩⟩
    have x2 : Ext .none R1 H1 R1 (upd H1 p (.lst vs)) := .side x1.s n
    refine k _ _ _ (x1.trans x2.none) (q1.keep x2) (.inl ⟨p, rfl, x1.d p n, ?_, .inl ⟨vs, ds, rfl, upd_same, r1, z⟩⟩)
    cases y : R1 p with
    | none => rfl
    | some o => rw [x1.s p o y] at n; cases n
  · cases q

/-! ### subscripts -/
def strAt (x : Str) (i : Int) : Option Dt := (atI x.cps.toList i).map fun c => .str ⟨#[c]⟩
def idxD : Dt → Dt → Option Dt
  | .list xs, .int i => atI xs i
  | .tuple xs, .int i => atI xs i
  | .str x, .int i => if x.length ≤ sizeLine then strAt x i else none
  | _, _ => none
/-- the value of it stands in R -/
def V2R (K : PySem.W.Frag) (g : Dt → Dt → Option Dt) : R2 := fun x y H Q => ∃ po R dx dy d, Sub R H ∧ Shal K po R H x dx ∧ Shal K po R H y dy ∧ g dx dy = some d ∧ ∀ v, Rp K R v d → Q v H
theorem RpL.atI {R : Hp} {xs : List V} {ds : List Dt} (r : RpL K R xs ds) {i : Int} {d : Dt} (h : L2.atI ds i = some d) : ∃ v, L2.atI xs i = some v ∧ Rp K R v d := by
  unfold L2.atI at h ⊢
  rw [r.len]
  cases e : ixN ds.length i with
  | none => rw [e] at h; cases h
  | some j =>
    rw [e] at h
    exact r.get h
theorem ix_D : IxR X (V2R X.K idxD) := fun value slice pins s σ H x y v u Q I rx ry ⟨po, R, dx, dy, d, sb, sx, sy, e, k⟩ hs => by
  unfold idxD at e
  split at e
  · obtain ⟨a, xs, rfl, h1, r1, z1⟩ := sx.list sb
    obtain rfl := sy.int
    obtain ⟨w, e1, rw'⟩ := r1.atI e
    exact ix_list value slice pins s σ H _ _ v u Q I rx ry ⟨a, xs, _, w, rfl, rfl, h1.sqL, e1, k w rw'⟩ hs
  · obtain ⟨a, xs, rfl, h1, r1, z1⟩ := sx.tuple sb
    obtain rfl := sy.int
    obtain ⟨w, e1, rw'⟩ := r1.atI e
    exact ix_tup value slice pins s σ H _ _ v u Q I rx ry ⟨a, xs, _, w, rfl, rfl, h1, e1, k w rw'⟩ hs
  · rename_i x1 i1
    split at e
    · rename_i z
      obtain rfl := sx.str
      obtain rfl := sy.int
      unfold strAt at e
      cases e1 : L2.atI x1.cps.toList i1 with
      | none => rw [e1] at e; cases e
      | some c =>
        rw [e1] at e
        cases e
        exact ix_str value slice pins s σ H _ _ v u Q I rx ry ⟨x1, i1, c, rfl, rfl, z, e1, k _ (.str _)⟩ hs
    · cases e
  · cases e
def plainIx : Expr → Bool
  | .Slice .. => false
  | _ => true
theorem plain_ix (h : plainIx b = true) : PlainIx b := by
  intro o i
  cases b with
  | Slice => cases h
  | _ => rfl
theorem de_idx (hp : plainIx b = true) (ha : PE X a (TB X.K ps S f)) (hb : PE X b (TB X.K ps S f')) : PE X (.Subscript a b pos) (TD X.K ps S (d2 idxD f f')) := pe_imp (pe_ix ix_D ha hb (plain_ix hp)) fun σ H Q ⟨po, env, pt, d, pt', R, w, q, k⟩ => by
  obtain ⟨dx, p1, e1, q⟩ := Mo.bnd_some q
  obtain ⟨dy, p2, e2, q⟩ := Mo.bnd_some q
  obtain ⟨e3, rfl⟩ := Mo.ofO_some q
  exact ⟨po, env, pt, dx, p1, R, w, e1, fun x R1 H1 x1 q1 s1 => ⟨po, env, p1, dy, pt', R1, w.up x1 q1, e2, fun y R2 H2 x2 q2 s2 => ⟨po, R2, dx, dy, d, x2.s, s1.up x2, s2, e3, fun v r => k v R2 H2 (x1.trans x2) q2 r⟩⟩⟩
/-- a[lo:hi] -/
abbrev On := En → Mo (Option Int)
def TOs (K : PySem.W.Frag) (ps : Option Nat) (S : List Nat) (f : On) : TO := fun σ H Q =>
  ∃ po env pt d pt' R, Wd K ps S po σ env pt R H ∧ f env pt = some (d, pt') ∧ ∀ R' H', Ext po R H R' H' → PotAt po H' pt' → Q d H'
def oNo : On := fun _ => Mo.ret none
def intD : Dt → Option Int
  | .int i => some i
  | _ => none
def oSome (f : Dn) : On := fun env => (f env).bnd fun x => (Mo.ofO (intD x)).bnd fun i => Mo.ret (some i)
theorem po_imp {o : Option Expr} {t t' : TO} (h : PO X o t) (i : ∀ σ H Q, t' σ H Q → t σ H Q) : PO X o t' := ⟨fun pins s σ H Q I w => h.run pins s σ H Q I (i σ H Q w)⟩
theorem do_no : PO X none (TOs K ps S oNo) := po_imp po_none fun σ H Q ⟨po, env, pt, d, pt', R, w, q, k⟩ => by
  cases q
  exact k R H (.refl w.sub) w.pot
theorem do_some (h : PE X e (TB K ps S f)) : PO X (some e) (TOs K ps S (oSome f)) := po_imp (po_some h) fun σ H Q ⟨po, env, pt, d, pt', R, w, q, k⟩ => by
  obtain ⟨dx, p1, e1, q⟩ := Mo.bnd_some q
  obtain ⟨i, p2, e0, q9⟩ := Mo.bnd_some q
  cases q9
  obtain ⟨e2, e3⟩ := Mo.ofO_some e0
  subst e3
  refine ⟨po, env, pt, dx, _, R, w, e1, fun v R1 H1 x1 q1 s1 => ?_⟩
  cases dx with
  | int j =>
    cases e2
    exact ⟨i, s1.int, k R1 H1 x1 q1⟩
  | _ => cases e2
def cutD {α : Type} (xs : List α) (lo hi : Option Int) : List α := (xs.drop (HT.sIx xs.length 0 lo)).take (HT.sIx xs.length xs.length hi - HT.sIx xs.length 0 lo)
def slcD : Dt → Option Int → Option Int → Option Dt
  | .list xs, lo, hi => some (.list (cutD xs lo hi))
  | .tuple xs, lo, hi => some (.tuple (cutD xs lo hi))
  | _, _, _ => none
theorem cutD_len {α : Type} (xs : List α) (lo hi : Option Int) : (cutD xs lo hi).length ≤ xs.length := by
  unfold cutD
  rw [List.length_take, List.length_drop]
  omega
theorem RpL.cut {R : Hp} {xs : List V} {ds : List Dt} (r : RpL K R xs ds) (lo hi : Option Int) : RpL K R (cutV xs lo hi) (cutD ds lo hi) := by
  unfold cutV cutD
  rw [r.len]
  exact (r.drop _).take _
def VSl (K : PySem.W.Frag) : V → Option Int → Option Int → Hp → VK → Prop := fun x lo hi H Q => ∃ po R dx d, Sub R H ∧ Shal K po R H x dx ∧ slcD dx lo hi = some d ∧ Ko K R H d Q
theorem sl_D : SlR X (VSl X.K) := fun pins s σ H x v vl vu lo hi sl Q I rx hs pl pu ⟨po, R, dx, d, sb, sx, e, ko⟩ => by
  unfold slcD at e
  split at e
  · cases e
    obtain ⟨a, xs, rfl, h1, r1, z1⟩ := sx.list sb
    exact sl_list pins s σ H _ v vl vu lo hi sl Q I rx hs pl pu ⟨a, xs, rfl, h1.sqL, ko.lst sb (r1.cut lo hi) (Nat.le_trans (cutD_len _ _ _) z1)⟩
  · cases e
    rename_i ys
    obtain ⟨a, xs, rfl, h1, r1, z1⟩ := sx.tuple sb
    refine sl_tupA pins s σ H _ v vl vu lo hi sl Q I rx hs pl pu ⟨a, xs, rfl, h1, fun n => ?_, fun _ => ko.tup sb (r1.cut lo hi) (Nat.le_trans (cutD_len _ _ _) z1)⟩
    have e : cutD ys lo hi = ys := by
      unfold cutD
      rw [← r1.len, n.1, n.2]
      rw [List.drop_zero, Nat.sub_zero, r1.len, List.take_length]
    rw [e] at ko
    refine ko.old sb ?_ rfl
    rcases sx with q | ⟨_, _, _, ⟨_, _, q, _⟩ | ⟨_, _, q, _⟩ | ⟨_, _, q, _⟩⟩
    · exact q
    all_goals cases q
  · cases e
def dSlc (f : Dn) (lo hi : On) : Dn := fun env => (f env).bnd fun x => (lo env).bnd fun l => (hi env).bnd fun u => Mo.ofO (slcD x l u)
theorem de_slc {lo hi : Option Expr} {l u : On} {p2 : Pos} (he : PE X e (TB X.K ps S f)) (hl : PO X lo (TOs X.K ps S l)) (hu : PO X hi (TOs X.K ps S u)) : PE X (.Subscript e (.Slice lo hi none p2) pos) (TF X.K ps S (dSlc f l u)) :=
  pe_imp (pe_slice sl_D he hl hu) fun σ H Q ⟨po, env, pt, d, pt', R, w, q, k⟩ => by
    obtain ⟨dx, p1, e1, q⟩ := Mo.bnd_some q
    obtain ⟨dl, p2, e2, q⟩ := Mo.bnd_some q
    obtain ⟨du, p3, e3, q⟩ := Mo.bnd_some q
    obtain ⟨e4, rfl⟩ := Mo.ofO_some q
    exact ⟨po, env, pt, dx, p1, R, w, e1, fun x R1 H1 x1 q1 s1 => ⟨po, env, p1, dl, p2, R1, w.up x1 q1, e2, fun R2 H2 x2 q2 => ⟨po, env, p2, du, pt', R2, (w.up x1 q1).up x2 q2, e3, fun R3 H3 x3 q3 =>
      ⟨po, R3, dx, d, x3.s, (s1.up x2).up x3, e4, fun v R' H' x4 n => k v R' H' (((x1.trans x2).trans x3).trans x4.none) (q3.keep x4) (n.back ((x1.trans x2).trans x3).d)⟩⟩⟩⟩
/-- a[::-1] -/
def revD : Dt → Option Dt
  | .list xs => some (.list xs.reverse)
  | _ => none
theorem de_rev {k1 : Nat} {p1 p2 p3 : Pos} (he : PE X e (TB X.K ps S f)) : PE X (.Subscript e (.Slice none none (some (.UnaryOp .USub (.Constant (.int 1) k1 p1) p2)) p3) pos) (TF X.K ps S (d1 revD f)) :=
  pe_imp (pe_revL he) fun σ H Q ⟨po, env, pt, d, pt', R, w, q, k⟩ => by
    obtain ⟨dx, p1, e1, q⟩ := Mo.bnd_some q
    obtain ⟨e4, rfl⟩ := Mo.ofO_some q
    unfold revD at e4
    split at e4
    · cases e4
      refine ⟨po, env, pt, _, pt', R, w, e1, fun x R1 H1 x1 q1 s1 => ?_⟩
      obtain ⟨a, xs, rfl, h1, r1, z1⟩ := s1.list x1.s
      have ko : Ko X.K R1 H1 (.list (‹List Dt›).reverse) Q := fun v R' H' x4 n => k v R' H' (x1.trans x4.none) (q1.keep x4) (n.back x1.d)
      exact ⟨a, xs, rfl, h1.sqL, ko.lst x1.s r1.rev (by rw [List.length_reverse]; exact z1)⟩
    · cases e4
end
end Ev

/-! Ev, part D: the contract of a def (with the repr guards known), its call, its body. -/
namespace Ev
open PySem L2

/-- a def of the text, by what it does to data -/
structure FnI where
  name : Str
  pot : Bool
  fresh : Bool
  den : List Dt → Mo Dt
def Fit (K : PySem.W.Frag) (F : FnI) (po : Option Addr) (R : Hp) (vs : List V) (ds : List Dt) : Prop :=
  match F.pot with
  | true => ∃ p ws, po = some p ∧ vs = .ref p :: ws ∧ RpL K R ws ds
  | false => RpL K R vs ds
def Out (K : PySem.W.Frag) (b : Bool) (H R' H' : Hp) (v : V) (d : Dt) : Prop :=
  match b with
  | true => Nw K H R' H' v d
  | false => Rp K R' v d
def spN (K : PySem.W.Frag) (F : FnI) : List V → Hp → VK → Prop := fun vs H Q => ∃ po ds pt R r pt', Sub R H ∧ PotAt po H pt ∧ (∀ p, po = some p → R p = none) ∧ (F.pot = false → po = none) ∧ Fit K F po R vs ds ∧ F.den ds pt = some (r, pt') ∧
  ∀ v R' H', Ext po R H R' H' → PotAt po H' pt' → Out K F.fresh H R' H' v r → Q v H'
structure FnG (P : Program) (w : World) (K : PySem.W.Frag) (mg : Str → Option Value) (base : Heap) (k : Nat) (f : Addr) (fd : FuncData) (ps : List Str) (sp : List V → Hp → VK → Prop) : Prop where
  len : ∀ vs H Q, sp vs H Q → vs.length = ps.length
  run : ∀ (A : Around) (outer : List Env) (s : Shared) (H : Hp) (args : Args) (us : List Value) (vs : List V) (Q : VK), Room k A → A.guards = some [] → Env0 P w K mg base A outer s H → BindsTo s fd args (ps.zip us) → Vals vs us → sp vs H Q →
    codeAny (model P w) A (.call (.ref f) args) (CR CX0 outer P w H s Q E0) s
theorem FnG.mono {P : Program} {w : World} {K : PySem.W.Frag} {mg : Str → Option Value} {base : Heap} {j k : Nat} {f : Addr} {fd : FuncData} {ps : List Str} {sp : List V → Hp → VK → Prop} (F : FnG P w K mg base j f fd ps sp) (h : j ≤ k) : FnG P w K mg base k f fd ps sp :=
  ⟨F.len, fun A outer s H args us vs Q hr => F.run A outer s H args us vs Q (hr.mono h)⟩

theorem back_any {env : Env} {pos : Pos} : ∀ {es : List Expr}, es.all notStar = true → (backTo pos (starEach es env)).any (·.1) = false
  | [], _ => rfl
  | e :: es, h => by
    rw [List.all_cons, Bool.and_eq_true] at h
    rw [star_no h.1]
    show (false || (backTo pos (starEach es env)).any (·.1)) = false
    rw [back_any h.2, Bool.false_or]
section
variable {X : Cx} {k : Nat} {f : Addr} {fd : FuncData} {qs : List Str} {sp : List V → Hp → VK → Prop} {x : Str} {p pos : Pos} {e : Expr} {es : List Expr} {t : TA}
theorem run_G {pins : List (Addr × Obj)} {σ : L2.St} {H : Hp} {s : Shared} {Q : VK} {us : List Value} {vs : List V} (F : FnG X.prog X.w X.K X.mg X.base k f fd qs sp) (hr : Room k X.A) (hgd : X.A.guards = some []) (hb : Binds X.K fd qs [])
    (I : Inv X pins σ H s) (r : Vals vs us) (h : sp vs H Q) : wpAny (model X.prog X.w) X.A (call (.ref f) us) (EP X pins σ Q) X.xe s := by
  have hl : (us ++ []).length = qs.length := by rw [List.append_nil, ← r.length]; exact F.len _ _ _ h
  have bd := hb s us I.kIn hl
  rw [List.append_nil] at bd
  refine wpAny_call (codeAny_mono (F.run X.A X.stack s H ⟨us, []⟩ us vs Q hr hgd I.env0 bd r h) fun res s' hq => ?_)
  cases res with
  | error _ => exact False.elim hq
  | ok fl =>
    cases fl with
    | ret u => exact I.after hq
    | _ => exact False.elim hq
theorem pe_callG (F : FnG X.prog X.w X.K X.mg X.base k f fd qs sp) (hr : Room k X.A) (hgd : X.A.guards = some []) (hg : Gl X x) (hm : X.mg x = some (.ref f)) (hk : PySem.W.keepIn X.K (.ref f) = true) (hb : Binds X.K fd qs []) (hdb : (x == ("__debug__" : Str)) = false)
    (hn : (e :: es).all notStar = true) (ha : PA X (e :: es) t) : PE X (.Call (.Name x p) (e :: es) [] pos) (fun σ H Q => t σ H fun vs H1 => sp vs H1 Q) := by
  rw [List.all_cons, Bool.and_eq_true] at hn
  refine ⟨fun pn st σ H Q I h => wpAny_Call_Name_kw (ld_glob I hg hm ?_ hdb)⟩
  exact PySem.W.callWith_K (h₀ := X.base) I.ok.mod.kin hk (thn (ha.run pos pn st σ H _ I h) fun us s1 ⟨vs, H1, I1, r, q⟩ => ⟨I1.kIn, run_G F hr hgd hb I1 r q⟩) (star_no hn.1) (back_any hn.2)
end

/-! ### the call as a function of data -/
/-- what a def without the pot tells -/
def FnI.tell (F : FnI) (ds : List Dt) : Option Dt := (F.den ds (0, 0, 0)).map (·.1)
def dCall (F : FnI) (l : Ln) : Dn := fun env => (l env).bnd fun ds => match F.pot with
  | true => F.den ds
  | false => Mo.ofO (F.tell ds)
/-- the pot ahead of the arguments -/
def TAp (K : PySem.W.Frag) (i : Nat) (S : List Nat) (f : Ln) : TA := fun σ H Q =>
  ∃ po p env pt ds pt' R, po = some p ∧ Wd K (some i) S po σ env pt R H ∧ f env pt = some (ds, pt') ∧ ∀ vs R' H', Ext po R H R' H' → PotAt po H' pt' → RpL K R' vs ds → Q (.ref p :: vs) H'
section
variable {X : Cx} {K : PySem.W.Frag} {ps : Option Nat} {S : List Nat} {l : Ln} {F : FnI} {x : Str} {p pos : Pos} {e : Expr} {es : List Expr}
theorem da_pot {i : Nat} (hv : PE X (.Name x p) (tVar i)) (hl : PA X es (TAs K (some i) S l)) : PA X (.Name x p :: es) (TAp K i S l) := pa_imp (pa_cons hv hl (by rfl)) fun σ H Q ⟨po, q, env, pt, ds, pt', R, e1, w, h, k⟩ =>
  let ⟨q', e2, e3⟩ := w.pos i rfl
  ⟨.ref q, by rw [e1] at e2; cases e2; exact e3, ⟨po, env, pt, ds, pt', R, w, h, fun vs R' H' x1 q1 r1 => k vs R' H' x1 q1 r1⟩⟩
theorem tell_some {ds : List Dt} {d : Dt} (h : F.tell ds = some d) : ∃ p, F.den ds (0, 0, 0) = some (d, p) := by
  obtain ⟨⟨a, p⟩, e1, e2⟩ := Option.map_eq_some_iff.mp h
  cases e2
  exact ⟨p, e1⟩
theorem no_pot {H : Hp} : PotAt none H (0, 0, 0) := fun _ e => nomatch e
theorem call_ok (hp : F.pot = false) {σ H Q} (q : TD K ps S (dCall F l) σ H Q) (hf : F.fresh = false) : TAs K ps S l σ H fun vs H1 => spN K F vs H1 Q := by
  obtain ⟨po, env, pt, d, pt', R, w, q, k⟩ := q
  obtain ⟨ds, p1, e1, e2⟩ := Mo.bnd_some q
  rw [hp] at e2
  obtain ⟨e3, e4⟩ := Mo.ofO_some e2
  subst e4
  obtain ⟨p9, e5⟩ := tell_some e3
  refine ⟨po, env, pt, ds, _, R, w, e1, fun vs R1 H1 x1 q1 r1 => ⟨none, ds, (0, 0, 0), R1, d, p9, x1.s, no_pot, (fun _ e => nomatch e), fun _ => rfl, ?_, e5, fun v R' H' x2 q2 o => ?_⟩⟩
  · unfold Fit; rw [hp]; exact r1
  · unfold Out at o; rw [hf] at o; exact k v R' H' (x1.trans x2.none) (q1.keep x2) o
theorem call_okF (hp : F.pot = false) {σ H Q} (q : TF K ps S (dCall F l) σ H Q) (hf : F.fresh = true) : TAs K ps S l σ H fun vs H1 => spN K F vs H1 Q := by
  obtain ⟨po, env, pt, d, pt', R, w, q, k⟩ := q
  obtain ⟨ds, p1, e1, e2⟩ := Mo.bnd_some q
  rw [hp] at e2
  obtain ⟨e3, e4⟩ := Mo.ofO_some e2
  subst e4
  obtain ⟨p9, e5⟩ := tell_some e3
  refine ⟨po, env, pt, ds, _, R, w, e1, fun vs R1 H1 x1 q1 r1 => ⟨none, ds, (0, 0, 0), R1, d, p9, x1.s, no_pot, (fun _ e => nomatch e), fun _ => rfl, ?_, e5, fun v R' H' x2 q2 o => ?_⟩⟩
  · unfold Fit; rw [hp]; exact r1
  · unfold Out at o; rw [hf] at o; exact k v R' H' (x1.trans x2.none) (q1.keep x2) (o.back x1.d)
theorem call_okP {i : Nat} (hp : F.pot = true) {σ H Q} (q : TD K (some i) S (dCall F l) σ H Q) (hf : F.fresh = false) : TAp K i S l σ H fun vs H1 => spN K F vs H1 Q := by
  obtain ⟨po, env, pt, d, pt', R, w, q, k⟩ := q
  obtain ⟨ds, p1, e1, e2⟩ := Mo.bnd_some q
  rw [hp] at e2
  obtain ⟨p, rfl, _⟩ := w.pos i rfl
  refine ⟨some p, p, env, pt, ds, p1, R, rfl, w, e1, fun vs R1 H1 x1 q1 r1 => ⟨some p, ds, p1, R1, d, pt', x1.s, q1, (w.up x1 q1).pof, (fun z => by rw [hp] at z; cases z), ?_, e2, fun v R' H' x2 q2 o => ?_⟩⟩
  · unfold Fit; rw [hp]; exact ⟨p, vs, rfl, rfl, r1⟩
  · unfold Out at o; rw [hf] at o; exact k v R' H' (x1.trans x2) q2 o
theorem call_okPF {i : Nat} (hp : F.pot = true) {σ H Q} (q : TF K (some i) S (dCall F l) σ H Q) (hf : F.fresh = true) : TAp K i S l σ H fun vs H1 => spN K F vs H1 Q := by
  obtain ⟨po, env, pt, d, pt', R, w, q, k⟩ := q
  obtain ⟨ds, p1, e1, e2⟩ := Mo.bnd_some q
  rw [hp] at e2
  obtain ⟨p, rfl, _⟩ := w.pos i rfl
  refine ⟨some p, p, env, pt, ds, p1, R, rfl, w, e1, fun vs R1 H1 x1 q1 r1 => ⟨some p, ds, p1, R1, d, pt', x1.s, q1, (w.up x1 q1).pof, (fun z => by rw [hp] at z; cases z), ?_, e2, fun v R' H' x2 q2 o => ?_⟩⟩
  · unfold Fit; rw [hp]; exact ⟨p, vs, rfl, rfl, r1⟩
  · unfold Out at o; rw [hf] at o; exact k v R' H' (x1.trans x2) q2 (o.back x1.d)
end
end Ev

/-! Ev, part E: built-in functions by data. -/
namespace Ev
open PySem L2

/-! ### arguments that may be looked at -/
abbrev ShalL (K : PySem.W.Frag) (po : Option Addr) (R H : Hp) : List V → List Dt → Prop := Paired (Shal K po R H)
theorem ShalL.up {K : PySem.W.Frag} {po : Option Addr} {R H R' H' : Hp} (x : Ext po R H R' H') : ∀ {vs : List V} {ds : List Dt}, ShalL K po R H vs ds → ShalL K po R' H' vs ds
  | _, _, .nil => .nil
  | _, _, .cons h l => .cons (h.up x) (ShalL.up x l)
def TAB (K : PySem.W.Frag) (ps : Option Nat) (S : List Nat) (f : Ln) : TA := fun σ H Q =>
  ∃ po env pt ds pt' R, Wd K ps S po σ env pt R H ∧ f env pt = some (ds, pt') ∧ ∀ vs R' H', Ext po R H R' H' → PotAt po H' pt' → ShalL K po R' H' vs ds → Q vs H'
def VA (K : PySem.W.Frag) (g : List Dt → Option Dt) : List V → Hp → VK → Prop := fun vs H Q => ∃ po R ds d, Sub R H ∧ ShalL K po R H vs ds ∧ g ds = some d ∧ Ko K R H d Q
def dBi (g : List Dt → Option Dt) (l : Ln) : Dn := fun env => (l env).bnd fun ds => Mo.ofO (g ds)
section
variable {K : PySem.W.Frag} {ps : Option Nat} {S : List Nat} {l : Ln} {f : Dn} {X : Cx} {e : Expr} {es : List Expr} {x : Str} {p pos : Pos} {id : String} {g : List Dt → Option Dt}
theorem db_nil : PA X [] (TAB K ps S lNil) := pa_imp pa_nil fun σ H Q ⟨po, env, pt, ds, pt', R, w, q, k⟩ => by
  cases q
  exact k [] R H (.refl w.sub) w.pot .nil
theorem db_cons (hn : notStar e = true) (he : PE X e (TB K ps S f)) (hl : PA X es (TAB K ps S l)) : PA X (e :: es) (TAB K ps S (lCons f l)) := pa_imp (pa_cons he hl (star_no hn)) fun σ H Q ⟨po, env, pt, ds, pt', R, w, q, k⟩ => by
  obtain ⟨dx, p1, e1, q⟩ := Mo.bnd_some q
  obtain ⟨dl, p2, e2, q⟩ := Mo.bnd_some q
  cases q
  exact ⟨po, env, pt, dx, p1, R, w, e1, fun v R1 H1 x1 q1 r1 => ⟨po, env, p1, dl, _, R1, w.up x1 q1, e2, fun vs R2 H2 x2 q2 r2 => k _ R2 H2 (x1.trans x2) q2 (.cons (r1.up x2) r2)⟩⟩
theorem bi_ok {σ H Q} (q : TF K ps S (dBi g l) σ H Q) : TAB K ps S l σ H fun vs H1 => VA K g vs H1 Q := by
  obtain ⟨po, env, pt, d, pt', R, w, q, k⟩ := q
  obtain ⟨ds, p1, e1, q⟩ := Mo.bnd_some q
  obtain ⟨e2, e3⟩ := Mo.ofO_some q
  subst e3
  exact ⟨po, env, pt, ds, _, R, w, e1, fun vs R1 H1 x1 q1 s1 => ⟨po, R1, ds, d, x1.s, s1, e2, fun v R' H' x2 n => k v R' H' (x1.trans x2.none) (q1.keep x2) (n.back x1.d)⟩⟩
theorem de_bi (hc : CallR X (.builtin id) (VA K g)) (hg : Gl X x) (hm : X.mg x = none) (hv : bootBuiltins x = some (.builtin id)) (hnn : x ≠ "__name__") (hdb : (x == ("__debug__" : Str)) = false) (hn : (e :: es).all notStar = true)
    (ha : PA X (e :: es) (TAB K ps S l)) : PE X (.Call (.Name x p) (e :: es) [] pos) (TF K ps S (dBi g l)) := by
  rw [List.all_cons, Bool.and_eq_true] at hn
  exact pe_imp (pe_callB hc hg hm hv ha hnn hdb (star_no hn.1) (back_any hn.2)) fun _ _ _ => bi_ok
theorem de_biT (hc : CallR X (.type id) (VA K g)) (hg : Gl X x) (hm : X.mg x = none) (hv : bootBuiltins x = some (.type id)) (hnn : x ≠ "__name__") (hdb : (x == ("__debug__" : Str)) = false) (hn : (e :: es).all notStar = true)
    (ha : PA X (e :: es) (TAB K ps S l)) : PE X (.Call (.Name x p) (e :: es) [] pos) (TF K ps S (dBi g l)) := by
  rw [List.all_cons, Bool.and_eq_true] at hn
  exact pe_imp (pe_callTy hc hg hm hv ha hnn hdb (star_no hn.1) (back_any hn.2)) fun _ _ _ => bi_ok
end

/-! ### the built-ins on data -/
def intsOf : List Dt → Option (List Int)
  | [] => some []
  | .int i :: r => (intsOf r).map (i :: ·)
  | _ :: _ => none
def boolsOf : List Dt → Option (List Bool)
  | [] => some []
  | .bool i :: r => (boolsOf r).map (i :: ·)
  | _ :: _ => none
theorem intsOf_eq : ∀ {ds : List Dt} {ns : List Int}, intsOf ds = some ns → ds = ns.map .int
  | [], ns, h => by cases h; rfl
  | .int i :: r, ns, h => by
    unfold intsOf at h
    cases e : intsOf r with
    | none => rw [e] at h; cases h
    | some l => rw [e] at h; cases h; rw [intsOf_eq e]; rfl
  | .none :: _, _, h | .bool _ :: _, _, h | .str _ :: _, _, h | .list _ :: _, _, h | .tuple _ :: _, _, h | .dict _ :: _, _, h => by cases h
theorem intsOf_map (ns : List Int) : intsOf (ns.map .int) = some ns := by
  induction ns with
  | nil => rfl
  | cons n r ih => show (intsOf (r.map .int)).map (n :: ·) = _; rw [ih]; rfl
theorem boolsOf_eq : ∀ {ds : List Dt} {ns : List Bool}, boolsOf ds = some ns → ds = ns.map .bool
  | [], ns, h => by cases h; rfl
  | .bool i :: r, ns, h => by
    unfold boolsOf at h
    cases e : boolsOf r with
    | none => rw [e] at h; cases h
    | some l => rw [e] at h; cases h; rw [boolsOf_eq e]; rfl
  | .none :: _, _, h | .int _ :: _, _, h | .str _ :: _, _, h | .list _ :: _, _, h | .tuple _ :: _, _, h | .dict _ :: _, _, h => by cases h
theorem boolsOf_map (ns : List Bool) : boolsOf (ns.map .bool) = some ns := by
  induction ns with
  | nil => rfl
  | cons n r ih => show (boolsOf (r.map .bool)).map (n :: ·) = _; rw [ih]; rfl
def lenG : List Dt → Option Dt
  | [.list xs] => some (.int xs.length)
  | [.tuple xs] => some (.int xs.length)
  | [.str x] => if x.length ≤ sizeLine then some (.int x.length) else none
  | _ => none
def absG : List Dt → Option Dt
  | [.int i] => some (.int (if i < 0 then -i else i))
  | _ => none
def intG : List Dt → Option Dt
  | [.int i] => some (.int i)
  | [.bool b] => some (.int (if b then 1 else 0))
  | _ => none
def listG : List Dt → Option Dt
  | [.list xs] => some (.list xs)
  | [.tuple xs] => some (.list xs)
  | _ => none
def tupleG : List Dt → Option Dt
  | [.list xs] => some (.tuple xs)
  | [.tuple xs] => some (.tuple xs)
  | _ => none
def sumG : List Dt → Option Dt
  | [.list xs] => (intsOf xs).map fun ns => .int ns.sum
  | [.tuple xs] => (intsOf xs).map fun ns => .int ns.sum
  | _ => none
def maxG : List Dt → Option Dt
  | [.int i, .int j] => some (.int (if j > i then j else i))
  | [.list xs] => (intsOf xs).bind fun ns => (ns.max?).map .int
  | _ => none
def alikeB (ds : List Dt) : Bool := ds.all fun d => ds.all fun d' => PySem.W.alike d d'
def tupB : Dt → Bool
  | .tuple (_ :: _) => true
  | _ => false
def othB : Dt → Bool
  | .none | .tuple _ => false
  | _ => true
def sortOk (ds : List Dt) : Bool := flatL ds && alikeB ds && (ds.all tupB || ds.all othB) && ds.all fun d => decide (d.depth ≤ 64)
def minT : List Dt → Option Dt
  | [] => none
  | x :: xs => if sortOk (x :: xs) = true ∧ (x :: xs).all tupB = true then some (PySem.W.minD x xs) else none
def minG : List Dt → Option Dt
  | [.int i, .int j] => some (.int (if j < i then j else i))
  | [.list xs] => match intsOf xs with
    | some ns => (ns.min?).map .int
    | none => minT xs
  | _ => none
def anyG : List Dt → Option Dt
  | [.list xs] => (boolsOf xs).map fun bs => .bool (bs.any id)
  | _ => none
def allG : List Dt → Option Dt
  | [.list xs] => (boolsOf xs).map fun bs => .bool (bs.all id)
  | _ => none
def sortD (ds : List Dt) : Option (List Dt) := if sortOk ds = true then some (ds.mergeSort (PySem.W.dataLe false id)) else none
def sortedG : List Dt → Option Dt
  | [.list xs] => (sortD xs).map .list
  | [.tuple xs] => (sortD xs).map .list
  | _ => none
def reprG : List Dt → Option Dt
  | [d] => if d.canLay0 = true ∧ d.showable = true ∧ d.depth ≤ 64 ∧ d.shown.length ≤ sizeLine then some (.str d.shown) else none
  | _ => none
def isG (T : String) : Dt → Bool
  | .none => T == "NoneType"
  | .bool _ => T == "bool" || T == "int"
  | .int _ => T == "int"
  | .str _ => T == "str"
  | .list _ => T == "list"
  | .tuple _ => T == "tuple"
  | .dict _ => T == "dict"

section
variable {X : Cx}
theorem sh1 {K : PySem.W.Frag} {po : Option Addr} {R H : Hp} {vs : List V} {d : Dt} (h : ShalL K po R H vs [d]) : ∃ v, vs = [v] ∧ Shal K po R H v d := by
  cases h with
  | cons h t => cases t; exact ⟨_, rfl, h⟩
theorem sh2 {K : PySem.W.Frag} {po : Option Addr} {R H : Hp} {vs : List V} {d d' : Dt} (h : ShalL K po R H vs [d, d']) : ∃ v v', vs = [v, v'] ∧ Shal K po R H v d ∧ Shal K po R H v' d' := by
  cases h with
  | cons h t =>
    cases t with
    | cons h' t => cases t; exact ⟨_, _, rfl, h, h'⟩
theorem cv_len : CallR X (.builtin "len") (VA X.K lenG) := fun pins s σ H vs us Q I r ⟨po, R, ds, d, sb, sl, e, ko⟩ => by
  unfold lenG at e
  split at e
  · cases e
    obtain ⟨v, rfl, h⟩ := sh1 sl
    obtain ⟨a, xs, rfl, h1, r1, _⟩ := h.list sb
    refine call_len_seq pins s σ H _ us Q I r ⟨a, xs, rfl, .inl (h1.sqL), ?_⟩
    rw [r1.len]
    exact ko.int sb
  · cases e
    obtain ⟨v, rfl, h⟩ := sh1 sl
    obtain ⟨a, xs, rfl, h1, r1, _⟩ := h.tuple sb
    refine call_len_seq pins s σ H _ us Q I r ⟨a, xs, rfl, .inr h1, ?_⟩
    rw [r1.len]
    exact ko.int sb
  · split at e
    · cases e
      obtain ⟨v, rfl, h⟩ := sh1 sl
      obtain rfl := h.str
      exact call_len_str pins s σ H _ us Q I r ⟨_, rfl, by assumption, ko.int sb⟩
    · cases e
  · cases e
theorem cv_abs : CallR X (.builtin "abs") (VA X.K absG) := fun pins s σ H vs us Q I r ⟨po, R, ds, d, sb, sl, e, ko⟩ => by
  unfold absG at e
  split at e
  · cases e
    obtain ⟨v, rfl, h⟩ := sh1 sl
    obtain rfl := h.int
    exact call_abs pins s σ H _ us Q I r ⟨_, rfl, ko.int sb⟩
  · cases e
theorem cv_int : CallR X (.type "int") (VA X.K intG) := fun pins s σ H vs us Q I r ⟨po, R, ds, d, sb, sl, e, ko⟩ => by
  unfold intG at e
  split at e
  · cases e
    obtain ⟨v, rfl, h⟩ := sh1 sl
    obtain rfl := h.int
    exact call_int1 pins s σ H _ us Q I r (.inl ⟨_, rfl, ko.int sb⟩)
  · cases e
    obtain ⟨v, rfl, h⟩ := sh1 sl
    obtain rfl := h.bool
    exact call_int1 pins s σ H _ us Q I r (.inr ⟨_, rfl, ko.int sb⟩)
  · cases e
theorem cv_list : CallR X (.type "list") (VA X.K listG) := fun pins s σ H vs us Q I r ⟨po, R, ds, d, sb, sl, e, ko⟩ => by
  unfold listG at e
  split at e
  · cases e
    obtain ⟨v, rfl, h⟩ := sh1 sl
    obtain ⟨a, xs, rfl, h1, r1, z⟩ := h.list sb
    exact call_list_of pins s σ H _ us Q I r ⟨a, xs, rfl, .inl (h1.sqL), ko.lst sb r1 z⟩
  · cases e
    obtain ⟨v, rfl, h⟩ := sh1 sl
    obtain ⟨a, xs, rfl, h1, r1, z⟩ := h.tuple sb
    exact call_list_of pins s σ H _ us Q I r ⟨a, xs, rfl, .inr h1, ko.lst sb r1 z⟩
  · cases e
theorem cv_tuple : CallR X (.type "tuple") (VA X.K tupleG) := fun pins s σ H vs us Q I r ⟨po, R, ds, d, sb, sl, e, ko⟩ => by
  unfold tupleG at e
  split at e
  · cases e
    obtain ⟨v, rfl, h⟩ := sh1 sl
    obtain ⟨a, xs, rfl, h1, r1, z⟩ := h.list sb
    exact call_tuple_of pins s σ H _ us Q I r ⟨a, xs, rfl, .inl ⟨h1.sqL, ko.tup sb r1 z⟩⟩
  · cases e
    rename_i ys
    obtain ⟨v, rfl, h⟩ := sh1 sl
    have rp : Rp X.K R v (.tuple ys) := by
      rcases h with q | ⟨_, _, _, ⟨_, _, q, _⟩ | ⟨_, _, q, _⟩ | ⟨_, _, q, _⟩⟩
      · exact q
      all_goals cases q
    obtain ⟨a, xs, rfl, h1, r1, z⟩ := h.tuple sb
    exact call_tuple_of pins s σ H _ us Q I r ⟨a, xs, rfl, .inr ⟨h1, ko.old sb rp rfl⟩⟩
  · cases e
theorem cv_max (hc : X.calm = true) : CallR X (.builtin "max") (VA X.K maxG) := fun pins s σ H vs us Q I r ⟨po, R, ds, d, sb, sl, e, ko⟩ => by
  unfold maxG at e
  split at e
  · cases e
    obtain ⟨v, v', rfl, h, h'⟩ := sh2 sl
    obtain rfl := h.int
    obtain rfl := h'.int
    exact call_max2 hc pins s σ H _ us Q I r ⟨_, _, rfl, ko.int sb⟩
  · rename_i ys
    obtain ⟨v, rfl, h⟩ := sh1 sl
    obtain ⟨a, xs, rfl, h1, r1, z⟩ := h.list sb
    cases e1 : intsOf ys with
    | none => rw [e1] at e; cases e
    | some ns =>
      rw [e1] at e
      obtain rfl := intsOf_eq e1
      obtain rfl := r1.ints
      cases e2 : ns.max? with
      | none => rw [show (some ns).bind (fun ns => (ns.max?).map PyData.int) = (ns.max?).map .int from rfl, e2] at e; cases e
      | some m =>
        rw [show (some ns).bind (fun ns => (ns.max?).map PyData.int) = (ns.max?).map .int from rfl, e2] at e
        cases e
        refine cr_max hc pins s σ H _ us Q I r ⟨a, ns, rfl, h1.sqL, ?_, fun m' hm hle => ?_⟩
        · cases ns with
          | nil => cases e2
          | cons => exact Nat.succ_pos _
        · obtain ⟨q1, q2⟩ := List.max?_eq_some_iff.mp e2
          have e3 : m' = m := Int.le_antisymm (q2 m' hm) (hle m q1)
          subst e3
          exact ko.int sb
  · cases e
theorem cv_any (hc : X.calm = true) : CallR X (.builtin "any") (VA X.K anyG) := fun pins s σ H vs us Q I r ⟨po, R, ds, d, sb, sl, e, ko⟩ => by
  unfold anyG at e
  split at e
  · rename_i ys
    obtain ⟨v, rfl, h⟩ := sh1 sl
    obtain ⟨a, xs, rfl, h1, r1, z⟩ := h.list sb
    cases e1 : boolsOf ys with
    | none => rw [e1] at e; cases e
    | some bs =>
      rw [e1] at e
      cases e
      obtain rfl := boolsOf_eq e1
      obtain rfl := r1.bools
      exact cr_any hc pins s σ H _ us Q I r ⟨a, bs, rfl, h1.sqL, ko.bool sb⟩
  · cases e
theorem cv_all (hc : X.calm = true) : CallR X (.builtin "all") (VA X.K allG) := fun pins s σ H vs us Q I r ⟨po, R, ds, d, sb, sl, e, ko⟩ => by
  unfold allG at e
  split at e
  · rename_i ys
    obtain ⟨v, rfl, h⟩ := sh1 sl
    obtain ⟨a, xs, rfl, h1, r1, z⟩ := h.list sb
    cases e1 : boolsOf ys with
    | none => rw [e1] at e; cases e
    | some bs =>
      rw [e1] at e
      cases e
      obtain rfl := boolsOf_eq e1
      obtain rfl := r1.bools
      exact cr_all hc pins s σ H _ us Q I r ⟨a, bs, rfl, h1.sqL, ko.bool sb⟩
  · cases e
/-- sum of a tuple of ints -/
theorem sum_tup (hc : X.calm = true) {pins : List (Addr × Obj)} {s : Shared} {σ : L2.St} {H : Hp} {a : Addr} {ns : List Int} {Q : VK} (I : Inv X pins σ H s) (h : SqT X.K H a (ns.map V.int)) (q : Q (.int ns.sum) H) :
    wpAny (model X.prog X.w) X.A (call (.builtin "sum") [.ref a]) (EP X pins σ Q) X.xe s := by
  obtain ⟨its, rv, ht, z⟩ := I.tuple h
  have hi : PyProof.Rows.IntsAre its ns := Vals.ints rv
  obtain ⟨xs, hx⟩ := hi.allInts.items
  have hn : numsOf its.toArray.toList = ns := by rw [show its.toArray.toList = its from rfl, hi.numsOf]
  rw [hx] at ht hn
  rw [nums_intItems] at hn
  refine PySem.W.ktm_sumG (I.ok.hd hc) ht fun h' tk t' hk => ?_
  refine ⟨.int ns.sum, H, I.kept (t' := tk) hk, ⟨t', ?_⟩, q⟩
  rw [preSum_eq, List.take_of_length_le (by simp), hn]
theorem cv_sum (hc : X.calm = true) : CallR X (.builtin "sum") (VA X.K sumG) := fun pins s σ H vs us Q I r ⟨po, R, ds, d, sb, sl, e, ko⟩ => by
  unfold sumG at e
  split at e
  · rename_i ys
    obtain ⟨v, rfl, h⟩ := sh1 sl
    obtain ⟨a, xs, rfl, h1, r1, z⟩ := h.list sb
    cases e1 : intsOf ys with
    | none => rw [e1] at e; cases e
    | some ns =>
      rw [e1] at e
      cases e
      obtain rfl := intsOf_eq e1
      obtain rfl := r1.ints
      exact cr_sum hc pins s σ H _ us Q I r ⟨a, ns, rfl, h1.sqL, ko.int sb⟩
  · rename_i ys
    obtain ⟨v, rfl, h⟩ := sh1 sl
    obtain ⟨a, xs, rfl, h1, r1, z⟩ := h.tuple sb
    cases e1 : intsOf ys with
    | none => rw [e1] at e; cases e
    | some ns =>
      rw [e1] at e
      cases e
      obtain rfl := intsOf_eq e1
      obtain rfl := r1.ints
      obtain ⟨u, rfl, ru⟩ := vals1 r
      cases ru
      exact sum_tup hc I h1 (ko.int sb)
  · cases e
/-! ### sorted -/
theorem each_of {K : PySem.W.Frag} {R : Hp} : ∀ {vs : List V} {us : List Value} {ds : List Dt}, Vals vs us → RpL K R vs ds → PySem.W.EachIs (fun u d => ∃ v, RelV v u ∧ Rp K R v d) us ds
  | _, _, _, .nil, h => by cases h; exact .nil
  | _, _, _, .cons r t, h => by
    cases h with
    | cons h l => exact .cons ⟨_, r, h⟩ (each_of t l)
theorem of_each {K : PySem.W.Frag} {R : Hp} : ∀ {us : List Value} {ds : List Dt}, PySem.W.EachIs (fun u d => ∃ v, RelV v u ∧ Rp K R v d) us ds → ∃ vs, Vals vs us ∧ RpL K R vs ds
  | _, _, .nil => ⟨[], .nil, .nil⟩
  | _, _, .cons ⟨v, r, h⟩ t => by
    obtain ⟨vs, r1, h1⟩ := of_each t
    exact ⟨v :: vs, .cons r r1, .cons h h1⟩
theorem each_reads {pins : List (Addr × Obj)} {σ : L2.St} {H R : Hp} {s : Shared} (I : Inv X pins σ H s) (sb : Sub R H) {h' : Heap} (hk : ∀ b o, s.heap.get? b = some o → h'.get? b = some o) : ∀ {vs : List V} {us : List Value} {ds : List Dt}, Vals vs us → RpL X.K R vs ds → flatL ds = true →
    PySem.W.EachIs (fun u d => ∃ as, Reads h' u d as) us ds
  | _, _, _, .nil, h, _ => by cases h; exact .nil
  | _, _, _, .cons r t, h, f => by
    cases h with
    | cons h l =>
      rw [flatL, Bool.and_eq_true] at f
      obtain ⟨as, q⟩ := Dp.reads I _ _ _ ((h.up sb).dp _ f.1) r
      exact .cons ⟨as, PyProof.Rows.Reads.keeps hk q⟩ (each_reads I sb hk t l f.2)
theorem sortOk_all {ds : List Dt} (h : sortOk ds = true) : flatL ds = true ∧ PySem.W.AllAlike ds ∧ PySem.W.Sortable ds ∧ ∀ d ∈ ds, d.depth ≤ 64 := by
  unfold sortOk at h
  simp only [Bool.and_eq_true, Bool.or_eq_true, List.all_eq_true, alikeB, decide_eq_true_eq] at h
  obtain ⟨⟨⟨h1, h2⟩, h3⟩, h4⟩ := h
  refine ⟨h1, h2, ?_, h4⟩
  rcases h3 with h3 | h3
  · refine .inl fun d hd => ?_
    have q := h3 d hd
    unfold tupB at q
    split at q
    · exact ⟨_, _, rfl⟩
    · cases q
  · refine .inr fun d hd => ?_
    have q := h3 d hd
    unfold othB at q
    split at q
    · cases q
    · cases q
    · exact ⟨by assumption, by assumption⟩
theorem obj_there {P : Program} {w : World} {H : Hp} {h : Heap} {a : Addr} {o : HO} (x : ObjOk P w H h a o) : ∃ u, h.get? a = some u := by
  cases o with
  | lst xs => obtain ⟨_, _, _, _, e⟩ := x; exact ⟨_, e⟩
  | tup xs => obtain ⟨_, _, _, o, e, _⟩ := x; exact ⟨_, e⟩
  | dK kvs => obtain ⟨_, _, _, _, o, _, _, e, _⟩ := x; exact ⟨_, e⟩
  | dT kvs => obtain ⟨_, _, _, _, o, _, _, e, _⟩ := x; exact ⟨_, e⟩
  | set S n => obtain ⟨o, _, _, _, e, _⟩ := x; exact ⟨_, e⟩
  | ins C dx fs => obtain ⟨_, _, _, e, _⟩ := x; exact ⟨_, e⟩
  | own y => obtain ⟨_, e⟩ := x; exact ⟨_, e⟩
  | xd fs => obtain ⟨_, ⟨_, _, _, e, _⟩, _⟩ := x; exact ⟨_, e⟩
  | rng lo hi => obtain ⟨_, _, _, e⟩ := x; exact ⟨_, e⟩
  | frz ob u => obtain ⟨e, _⟩ := x; exact ⟨_, e⟩
  | tbl ps => exact ⟨_, (show h.get? a = some _ from x)⟩
  | met f y => exact ⟨_, (show h.get? a = some _ from x)⟩
  | ext φ => obtain ⟨_, ⟨_, e⟩, _⟩ := x; exact ⟨_, e⟩
theorem hok_none {P : Program} {w : World} {H : Hp} {h : Heap} {a : Addr} (x : HOk P w H h) (n : h.get? a = none) : H a = none := by
  cases q : H a with
  | none => rfl
  | some o =>
    obtain ⟨u, e⟩ := obj_there (x a o q)
    rw [e] at n
    cases n
/-- sorted of what is collected -/
theorem sorted_by {A : Around} {E : Value → Shared → Prop} {s : Shared} {x : Value} {Q : Value → Shared → Prop} {ds : List Dt} {us : List Value} {Rl : Value → Dt → Prop} (hL : us.length ≤ sizeLine)
    (hcol : ∀ (E' : Value → Shared → Prop) (Q' : List Value → Shared → Prop), (∀ h1, (∀ b o, s.heap.get? b = some o → h1.get? b = some o) → Q' us { s with heap := h1 }) → wpAny (model X.prog X.w) A.in1 (collect x) Q' E' s)
    (er : ∀ h1 : Heap, (∀ b o, s.heap.get? b = some o → h1.get? b = some o) → PySem.W.EachIs (fun u d => ∃ as, Reads h1 u d as) us ds) (e : PySem.W.EachIs Rl us ds) (hal : PySem.W.AllAlike ds) (hk : PySem.W.Sortable ds) (hu : ∀ d ∈ ds, A.units + 2 + d.depth < cLine)
    (h : ∀ out h' a, (∀ b o, s.heap.get? b = some o → h'.get? b = some o) → s.heap.get? a = none → (∃ n, h'.get? a = some { cls := .type "list", data := .seq out n }) → PySem.W.EachIs Rl out.toList (ds.mergeSort (PySem.W.dataLe false id)) → Q (.ref a) { s with heap := h' }) :
    wpAny (model X.prog X.w) A (call (.builtin "sorted") [x]) Q E s := by
  refine Calls.call_function_entry PyProof.Rows.kind_sorted PyProof.Rows.plain_sorted PyProof.Rows.entry_sorted (PyProof.Rows.args_sorted1 _) ?_
  unfold Builtin.«sorted»
  refine wpAny_bind (m := checkCount "sorted" 1 1 _) (wpAny_pure ?_)
  refine wpAny_bind (hcol _ _ fun h1 hk1 => ?_)
  refine wpAny_bind (wpAny_newList ?_ hL)
  have hat : (h1.push { cls := .type "list", data := .seq us.toArray }).get? h1.objs.size = some (PyProof.Rows.seqObj "list" us.toArray 0) := Heap.get?_push_size _ rfl
  have hk2 : ∀ b o, s.heap.get? b = some o → (h1.push { cls := .type "list", data := .seq us.toArray }).get? b = some o := fun b o q => Heap.get?_push_of_some _ (hk1 b o q)
  have hb : ∀ b o, s.heap.get? b = some o → b ≠ h1.objs.size := fun b o q => Nat.ne_of_lt (Heap.lt_size (hk1 b o q))
  refine wpAny_bind (wpAny_holding (PyProof.Rows.wpAny_call_entry_kw PyProof.Rows.slot_list_sort ⟨_, hat, rfl⟩ PyProof.Rows.entry_list_sort ?body (PyProof.Rows.args_list_sort _)))
  case body =>
    have er2 := er _ fun b o q => PySem.W.sortingHeap_old (vs := us) (hb b o q) (hk2 b o q)
    refine wpAny_mono (PySem.W.list_sort_vals (κ := PySem.W.dataKind (PySem.W.sortingHeap (h1.push { cls := .type "list", data := .seq us.toArray }) h1.objs.size us) ds) (A := A.in1.in1) (s := { s with heap := h1.push { cls := .type "list", data := .seq us.toArray } }) hat
      (PySem.W.SortsAt.data (s := { s with heap := PySem.W.sortingHeap (h1.push { cls := .type "list", data := .seq us.toArray }) h1.objs.size us }) er2 hal hk fun d hd => by have := hu d hd; show A.units + 1 + 1 + d.depth < cLine; omega) hL ⟨rfl, rfl⟩) (fun f s' (hf : f = _ ∧ s' = _) => ?_) fun _ _ q => q
    obtain ⟨rfl, rfl⟩ := hf
    refine ⟨_, rfl, wpAny_pure ⟨_, rfl, ?_⟩⟩
    have sz : h1.objs.size < (h1.push { cls := .type "list", data := .seq us.toArray }).objs.size := Heap.lt_size hat
    refine h (PySem.W.sortVals (PySem.W.dataKind (PySem.W.sortingHeap (h1.push { cls := .type "list", data := .seq us.toArray }) h1.objs.size us) ds) false us us).toArray _ _ (fun b o q => ?_) ?_ ?_ ?_
    · rw [PyProof.Rows.sortedHeap_old (hb b o q) (Heap.lt_size (hk2 b o q))]
      exact hk2 b o q
    · cases q : s.heap.get? h1.objs.size with
      | none => rfl
      | some o => exact absurd (Heap.lt_size (hk1 _ _ q)) (Nat.lt_irrefl _)
    · exact PyProof.Rows.sortedHeap_at hat
    · have z := PySem.W.sortVals_data (R := Rl) (enc := id) (h' := PySem.W.sortingHeap (h1.push { cls := .type "list", data := .seq us.toArray }) h1.objs.size us) (vs := us) (bs := ds) false e (by exact er2) (by rw [List.map_id]; exact hal)
      rw [List.map_id] at z
      exact z
theorem each_at {α β : Type} {P : α → β → Prop} : ∀ {us : List α} {ds : List β}, PySem.W.EachIs P us ds → ∀ {i : Nat} {u : α}, us[i]? = some u → ∃ d, ds[i]? = some d ∧ P u d
  | _, _, .nil, i, u, h => by simp at h
  | _, _, .cons p t, 0, u, h => by simp at h; subst h; exact ⟨_, rfl, p⟩
  | _, _, .cons p t, i + 1, u, h => by
    obtain ⟨d, e, q⟩ := each_at t (i := i) (u := u) (by simpa using h)
    exact ⟨d, by simpa using e, q⟩
theorem tupB_some {d : Dt} (h : tupB d = true) : ∃ xs, d = .tuple xs := by
  unfold tupB at h
  split at h
  · exact ⟨_, rfl⟩
  · cases h
theorem cv_min (hc : X.calm = true) (hu : X.A.units + 70 < cLine) : CallR X (.builtin "min") (VA X.K minG) := fun pins s σ H vs us Q I r ⟨po, R, ds, d, sb, sl, e, ko⟩ => by
  unfold minG at e
  split at e
  · cases e
    obtain ⟨v, v', rfl, h, h'⟩ := sh2 sl
    obtain rfl := h.int
    obtain rfl := h'.int
    exact call_min2 hc pins s σ H _ us Q I r ⟨_, _, rfl, ko.int sb⟩
  · rename_i ys
    obtain ⟨v, rfl, h⟩ := sh1 sl
    obtain ⟨a, xs, rfl, h1, r1, z⟩ := h.list sb
    cases e1 : intsOf ys with
    | none =>
      rw [e1] at e
      replace e : minT ys = some d := e
      cases ys with
      | nil => cases e
      | cons x ys =>
        rw [minT] at e
        split at e
        · rename_i c
          cases e
          obtain ⟨u, rfl, ru⟩ := vals1 r
          cases ru
          obtain ⟨its, rv, pl, hz⟩ := I.list (h1.sqL)
          obtain ⟨f1, f2, f3, f4⟩ := sortOk_all c.1
          obtain ⟨as, ra⟩ := Dp.readsAll I (x :: ys) xs its (RpL.dp _ (r1.up sb) f1) rv
          have ea := each_of (K := X.K) (R := R) rv r1
          have hd : PyData.depthAll (x :: ys) ≤ 64 := by
            have : ∀ l : List Dt, (∀ d ∈ l, d.depth ≤ 64) → PyData.depthAll l ≤ 64 := fun l => by
              induction l with
              | nil => intro _; simp [PyData.depthAll]
              | cons y l ih =>
                intro hl
                have := hl y (.head _)
                have := ih fun z hz => hl z (.tail _ hz)
                simp only [PyData.depthAll]; omega
            exact this _ f4
          have htp := List.all_eq_true.mp c.2
          refine PySem.W.min_list_data (vs := its.toArray) (I.ok.hd hc) pl.isList (by simpa using ra) ⟨fun y hy z hz => f2 y hy z hz, fun y hy z => ?_⟩ (by omega) fun i v h' tk bs hv rd hk => ?_
          · obtain ⟨l, e9⟩ := tupB_some (htp y hy)
            rw [z] at e9; cases e9
          · have hv' : its[i]? = some v := by simpa using hv
            obtain ⟨dd, e3, vv, rel, rp⟩ := each_at ea hv'
            have hmem := List.mem_of_getElem? e3
            obtain ⟨as2, rd2⟩ := Dp.reads I dd vv v ((rp.up sb).dp _ (by
              have : ∀ l : List Dt, flatL l = true → ∀ d ∈ l, flat d = true := fun l => by
                induction l with
                | nil => intro _ d hd; cases hd
                | cons y l ih =>
                  intro hl d hd
                  rw [flatL, Bool.and_eq_true] at hl
                  rcases List.mem_cons.mp hd with rfl | hd
                  · exact hl.1
                  · exact ih hl.2 d hd
              exact this _ f1 dd hmem)) rel
            have hdd : PySem.W.minD x ys = dd := (PyProof.Rows.reads_det (h := s.heap) (h' := h') (fun b o e _ => hk b o e) rd2 rd).1
            obtain ⟨l, e9⟩ := tupB_some (htp dd hmem)
            refine ⟨vv, H, I.kept (t' := tk) hk, rel, ?_⟩
            have ko' : Ko X.K R H dd Q := hdd ▸ ko
            exact ko'.old sb rp (by rw [e9]; rfl)
        · cases e
    | some ns =>
      rw [e1] at e
      replace e : (ns.min?).map PyData.int = some d := e
      obtain rfl := intsOf_eq e1
      obtain rfl := r1.ints
      cases e2 : ns.min? with
      | none => rw [e2] at e; cases e
      | some m =>
        rw [e2] at e
        cases e
        refine cr_min hc pins s σ H _ us Q I r ⟨a, ns, rfl, h1.sqL, ?_, fun m' hm hle => ?_⟩
        · cases ns with
          | nil => cases e2
          | cons => exact Nat.succ_pos _
        · obtain ⟨q1, q2⟩ := List.min?_eq_some_iff.mp e2
          have e3 : m' = m := Int.le_antisymm (hle m q1) (q2 m' hm)
          subst e3
          exact ko.int sb
  · cases e
theorem cv_sorted (hu : X.A.units + 70 < cLine) : CallR X (.builtin "sorted") (VA X.K sortedG) := fun pins s σ H vs us Q I r ⟨po, R, ds, d, sb, sl, e, ko⟩ => by
  have core : ∀ {a : Addr} {ys : List Dt} {xs : List V} {its : List Value} {o : Obj} {n : Nat} {T : String}, sortD ys = some (ys.mergeSort (PySem.W.dataLe false id)) → sortOk ys = true → RpL X.K R xs ys → Vals xs its → (T = "list" ∨ T = "tuple") → s.heap.get? a = some o → o.cls = .type T → o.data = .seq its.toArray n → its.length ≤ sizeLine →
      Ko X.K R H (.list (ys.mergeSort (PySem.W.dataLe false id))) Q → wpAny (model X.prog X.w) X.A (call (.builtin "sorted") [.ref a]) (EP X pins σ Q) X.xe s := by
    intro a ys xs its o n T _ hs rl rv hT ho hc hd hz ko
    obtain ⟨f1, f2, f3, f4⟩ := sortOk_all hs
    refine sorted_by (X := X) (ds := ys) (us := its) (Rl := fun u d => ∃ v, RelV v u ∧ Rp X.K R v d) hz (fun E' Q' hq => wpAny_collect_seq a hT ho hc hd (fun h' hk => hq h' hk) (by rw [List.size_toArray]; exact hz)) (fun h1 hk => each_reads I sb hk rv rl f1) (each_of rv rl) f2 f3 (fun d hd => by have := f4 d hd; omega) fun out h' b hk hb hn he => ?_
    obtain ⟨ws, r1, r2⟩ := of_each he
    obtain ⟨n', hn⟩ := hn
    have hl : (ys.mergeSort (PySem.W.dataLe false id)).length ≤ sizeLine := by rw [List.length_mergeSort, ← rl.len, rv.length]; exact hz
    have fr : H b = none := hok_none I.hok hb
    refine ⟨.ref b, _, I.laidN (t' := s.toks) (o := .lst ws) hk hb fr ⟨by rw [r2.len]; exact hl, out.toList, n', r1, by rw [hn]⟩, rfl, ko.lst sb r2 hl b fr⟩
  unfold sortedG at e
  split at e
  · rename_i ys
    obtain ⟨v, rfl, h⟩ := sh1 sl
    obtain ⟨a, xs, rfl, h1, rl, z⟩ := h.list sb
    obtain ⟨u, rfl, ru⟩ := vals1 r
    cases ru
    cases e1 : sortD ys with
    | none => rw [e1] at e; cases e
    | some zs =>
      have hs : sortOk ys = true := by
        unfold sortD at e1
        split at e1
        · assumption
        · cases e1
      have e2 : sortD ys = some (ys.mergeSort (PySem.W.dataLe false id)) := by unfold sortD; rw [if_pos hs]
      rw [e2] at e
      cases e
      obtain ⟨its, rv, ⟨o, n, ho, hc, _, hd⟩, hz⟩ := I.list (h1.sqL)
      exact core e2 hs rl rv (.inl rfl) ho hc hd (by rw [← rv.length]; exact hz) ko
  · rename_i ys
    obtain ⟨v, rfl, h⟩ := sh1 sl
    obtain ⟨a, xs, rfl, h1, rl, z⟩ := h.tuple sb
    obtain ⟨u, rfl, ru⟩ := vals1 r
    cases ru
    cases e1 : sortD ys with
    | none => rw [e1] at e; cases e
    | some zs =>
      have hs : sortOk ys = true := by
        unfold sortD at e1
        split at e1
        · assumption
        · cases e1
      have e2 : sortD ys = some (ys.mergeSort (PySem.W.dataLe false id)) := by unfold sortD; rw [if_pos hs]
      rw [e2] at e
      cases e
      obtain ⟨its, rv, ⟨o, ho, hc, n, hd⟩, hz⟩ := I.tuple h1
      exact core e2 hs rl rv (.inr rfl) ho hc hd (by rw [← rv.length]; exact hz) ko
  · cases e
/-! ### repr -/
theorem cv_repr (hg : X.A.guards = some []) (hu : X.A.units + 70 < cLine) : CallR X (.builtin "repr") (VA X.K reprG) := fun pins s σ H vs us Q I r ⟨po, R, ds, d, sb, sl, e, ko⟩ => by
  unfold reprG at e
  split at e
  · rename_i dx
    split at e
    · rename_i c
      obtain ⟨c1, c2, c3, c4⟩ := c
      cases e
      obtain ⟨v, rfl, h⟩ := sh1 sl
      obtain ⟨u, rfl, ru⟩ := vals1 r
      have fl := flat_lay _ c1
      obtain ⟨as, rd⟩ := Dp.reads I _ _ _ (h.dp sb fl) ru
      have big : ∀ a, u = .ref a → wpAny (model X.prog X.w) X.A (call (.builtin "repr") [u]) (EP X pins σ Q) X.xe s := fun a ea => by
        subst ea
        exact repr_of_reads' rd c2 (PyData.noDict_hsm (PyData.hasDict_of_canLay _ c1)) hg (by omega) (fun _ _ q => q) (fun h' u tk hk => ⟨.str dx.shown, H, I.kept (t' := tk) hk, ⟨u, rfl⟩, ko.str sb⟩) c4
      cases dx with
      | none => 
        obtain rfl := h.non
        cases ru
        exact PySem.P.repr_of_none ⟨.str _, H, I.tok _, ⟨_, rfl⟩, ko.str sb⟩
      | bool b =>
        obtain rfl := h.bool
        cases ru
        exact PySem.P.repr_of_bool ⟨.str _, H, I.tok _, ⟨_, rfl⟩, by cases b <;> exact ko.str sb⟩
      | int i =>
        obtain rfl := h.int
        obtain ⟨t, rfl⟩ := ru
        exact PySem.P.repr_of_int (of_decide_eq_true c2) ⟨.str _, H, I.tok _, ⟨_, rfl⟩, ko.str sb⟩
      | str x =>
        obtain rfl := h.str
        obtain ⟨t, rfl⟩ := ru
        exact PySem.P.repr_of_str ⟨.str _, H, I.tok _, ⟨_, rfl⟩, ko.str sb⟩ c4
      | list xs =>
        obtain ⟨a, ys, rfl, _⟩ := h.list sb
        cases ru
        exact big a rfl
      | tuple xs =>
        obtain ⟨a, ys, rfl, _⟩ := h.tuple sb
        cases ru
        exact big a rfl
      | dict xs => cases c1
    · cases e
  · cases e
/-! ### isinstance -/
theorem Shal.tyX {K : PySem.W.Frag} {po : Option Addr} {R H : Hp} {v : V} {d : Dt} (sb : Sub R H) (h : Shal K po R H v d) : ∃ t, TyX K H v (.type t) ∧ ∀ T, kitB t T = some (isG T d) ∨ ¬ (T = "int" ∨ T = "bool" ∨ T = "str" ∨ T = "tuple" ∨ T = "list" ∨ T = "dict") := by
  have fin : ∀ {t : String} {d : Dt}, (["int", "bool", "str", "tuple", "list", "dict"].all fun T => kitB t T == some (isG T d)) = true → ∀ T, kitB t T = some (isG T d) ∨ ¬ (T = "int" ∨ T = "bool" ∨ T = "str" ∨ T = "tuple" ∨ T = "list" ∨ T = "dict") := fun {t d} q T => by
    simp only [List.all_cons, List.all_nil, Bool.and_true, Bool.and_eq_true, beq_iff_eq] at q
    obtain ⟨q1, q2, q3, q4, q5, q6⟩ := q
    by_cases z : T = "int" ∨ T = "bool" ∨ T = "str" ∨ T = "tuple" ∨ T = "list" ∨ T = "dict"
    · rcases z with rfl | rfl | rfl | rfl | rfl | rfl
      · exact .inl q1
      · exact .inl q2
      · exact .inl q3
      · exact .inl q4
      · exact .inl q5
      · exact .inl q6
    · exact .inr z
  cases d with
  | none => obtain rfl := h.non; exact ⟨_, .base .non, fin (d := .none) (by decide +kernel)⟩
  | bool b => obtain rfl := h.bool; exact ⟨_, .base (.bl b), fin (d := .bool b) (by show (["int", "bool", "str", "tuple", "list", "dict"].all fun T => kitB "bool" T == some (isG T (.bool true))) = true; decide +kernel)⟩
  | int i => obtain rfl := h.int; exact ⟨_, .base (.int i), fin (d := .int i) (by show (["int", "bool", "str", "tuple", "list", "dict"].all fun T => kitB "int" T == some (isG T (.int 0))) = true; decide +kernel)⟩
  | str x => obtain rfl := h.str; exact ⟨_, .base (.str x), fin (d := .str x) (by show (["int", "bool", "str", "tuple", "list", "dict"].all fun T => kitB "str" T == some (isG T (.str ⟨#[]⟩))) = true; decide +kernel)⟩
  | list ds =>
    obtain ⟨a, xs, rfl, h1, _⟩ := h.list sb
    have z : (["int", "bool", "str", "tuple", "list", "dict"].all fun T => kitB "list" T == some (isG T (.list ds))) = true := by show (["int", "bool", "str", "tuple", "list", "dict"].all fun T => kitB "list" T == some (isG T (.list []))) = true; decide +kernel
    rcases h1 with (h1 | ⟨o, h1⟩) | ⟨its, n, k1, _⟩
    · exact ⟨_, .base (.lst h1), fin (d := .list ds) z⟩
    · exact ⟨_, .base (.frz h1), fin (d := .list ds) z⟩
    · exact ⟨_, .kList k1 rfl, fin (d := .list ds) z⟩
  | tuple ds =>
    obtain ⟨a, xs, rfl, h1, _⟩ := h.tuple sb
    have z : (["int", "bool", "str", "tuple", "list", "dict"].all fun T => kitB "tuple" T == some (isG T (.tuple ds))) = true := by show (["int", "bool", "str", "tuple", "list", "dict"].all fun T => kitB "tuple" T == some (isG T (.tuple []))) = true; decide +kernel
    rcases h1 with (h1 | ⟨o, h1⟩) | ⟨o, its, n, k1, k2, _⟩
    · exact ⟨_, .base (.tup h1), fin (d := .tuple ds) z⟩
    · exact ⟨_, .fTuple h1, fin (d := .tuple ds) z⟩
    · exact ⟨_, .kTuple k1 k2, fin (d := .tuple ds) z⟩
  | dict ds =>
    have z : (["int", "bool", "str", "tuple", "list", "dict"].all fun T => kitB "dict" T == some (isG T (.dict ds))) = true := by show (["int", "bool", "str", "tuple", "list", "dict"].all fun T => kitB "dict" T == some (isG T (.dict []))) = true; decide +kernel
    rcases h with h | ⟨a, rfl, _, ⟨_, _, q, _⟩ | ⟨kvs, _, _, h, _⟩ | ⟨kvs, _, _, h, _⟩⟩
    · cases h with
      | dK h _ => exact ⟨_, .base (.dK (sb _ _ h)), fin (d := .dict ds) z⟩
      | dT h _ => exact ⟨_, .base (.dT (sb _ _ h)), fin (d := .dict ds) z⟩
    · cases q
    · exact ⟨_, .base (.dK h), fin (d := .dict ds) z⟩
    · exact ⟨_, .base (.dT h), fin (d := .dict ds) z⟩
end
end Ev

/-! Ev, part F: what a loop or a comprehension walks, by data. -/
namespace Ev
open PySem L2 PyProof.Rows

/-- a list (false), a tuple (true) -/
def SqX (k : Bool) (K : PySem.W.Frag) (H : Hp) (a : Addr) (xs : List V) : Prop :=
  match k with
  | false => SqL K H a xs
  | true => SqT K H a xs
def SeqH (k : Bool) (h : Heap) (a : Addr) (xs : Array Value) : Prop :=
  match k with
  | false => h.IsList a xs
  | true => h.IsTuple a xs
def IterH (k : Bool) (h : Heap) (it a : Addr) (i : Nat) : Prop :=
  match k with
  | false => h.IsListIter it a i
  | true => h.IsTupleIter it a i
theorem iterH_at {k : Bool} {h h' : Heap} {it a : Addr} {i : Nat} (x : IterH k h it a i) (q : ∀ o, h.get? it = some o → h'.get? it = some o) : IterH k h' it a i := by
  cases k
  · exact Heap.IsListIter.at x q
  · exact Heap.IsTupleIter.at x q
theorem iterH_obj {k : Bool} {h : Heap} {it a : Addr} {i : Nat} (x : IterH k h it a i) : ∃ o, h.get? it = some o ∧ ∀ v, o.data ≠ .cell v := by
  cases k
  · obtain ⟨o, e, _, d⟩ := (show h.IsListIter it a i from x); exact ⟨o, e, fun v q => by rw [d] at q; cases q⟩
  · obtain ⟨o, e, _, d⟩ := (show h.IsTupleIter it a i from x); exact ⟨o, e, fun v q => by rw [d] at q; cases q⟩
def Itx (k : Bool) (K : PySem.W.Frag) (a : Addr) : It := match k with | false => Itl K a | true => Itt K a
section
variable {X : Cx} {pins : List (Addr × Obj)} {σ : L2.St} {H : Hp} {s : Shared} {a : Addr} {xs ys : List V} {k : Bool}
theorem inv_seq (I : Inv X pins σ H s) (h : SqX k X.K H a xs) : ∃ its : List Value, Vals xs its ∧ SeqH k s.heap a its.toArray ∧ xs.length ≤ sizeLine ∧ a < s.heap.objs.size := by
  cases k
  · obtain ⟨its, r, p, z⟩ := I.list h
    exact ⟨its, r, p.isList, z, p.lt⟩
  · obtain ⟨its, r, p, z⟩ := I.tuple h
    exact ⟨its, r, p, z, p.lt⟩
theorem inv_seq_inj (I : Inv X pins σ H s) (h : SqX k X.K H a xs) (h' : SqX k X.K H a ys) : xs = ys := by
  cases k
  · exact I.list_inj h h'
  · exact I.tuple_inj h h'
end
theorem draws_seq {prog : Program} {w : World} {A : Around} (k : Bool) (hh : A.handled = none) (it l : Addr) (hne : l ≠ it) (items : Array Value) :
    Draws prog w A it [it, l] items.size (fun i v => items[i]? = some v) (fun i h => IterH k h it l i ∧ SeqH k h l items) := by
  cases k
  · exact Draws.list hh it l hne items
  · exact Draws.tuple hh it l hne items
def itObj (k : Bool) (l : Addr) : Obj := match k with
  | false => { cls := .type "list_iterator", data := .fields #[.ref l, .int 0 0] }
  | true => { cls := .type "tuple_iterator", data := .fields #[.ref l, .int 0 0] }
theorem begins_seq (k : Bool) (l : Addr) (items : Array Value) : Begins (.ref l) (itObj k l) fun h => SeqH k h l items := by
  cases k
  · exact begins_list l items
  · exact begins_tuple l items
theorem iterH_new {k : Bool} {h : Heap} {it l : Addr} (e : h.get? it = some (itObj k l)) : IterH k h it l 0 := by
  cases k
  · exact ⟨_, e, rfl, rfl⟩
  · exact ⟨_, e, rfl, rfl⟩

/-! ### the iterators -/
section
variable {X : Cx} {tg : Expr}
theorem pi_seqX {l : Expr} {tl : TE} (hl : PE X l tl) : PI X tg l (fun σ H R => tl σ H fun x H1 => ∃ k a, x = .ref a ∧ (∃ xs, SqX k X.K H1 a xs) ∧ R (Itx k X.K a) H1) := by
  refine ⟨fun pins s σ H R I h => ?_⟩
  refine thn (hl.run pins s σ H _ I h) fun v s1 ⟨x, H1, I1, r1, q1⟩ => ?_
  obtain ⟨k, a, e, ⟨xs, hq⟩, q⟩ := q1
  subst e
  cases r1
  have fp : ∀ b ∈ [s1.heap.objs.size], FpOk X pins H1 b := fun b hb => by
    have e : b = s1.heap.objs.size := by simpa using hb
    subst e
    exact I1.fpOk (Nat.le_refl _) (I1.hok.fresh (Nat.le_refl _))
  cases k
  · obtain ⟨its, rv, p, hz⟩ := I1.list hq
    exact wpAny_pyIter_list p.isList ⟨s1.heap.objs.size, [s1.heap.objs.size], _, _, H1, rfl, I1.kept (t' := s1.toks) fun b o e => Heap.get?_push_of_some _ e, turn_list a _, ⟨_, Heap.get?_push_size _ rfl, rfl, rfl⟩, fp, q⟩
  · obtain ⟨its, rv, p, hz⟩ := I1.tuple hq
    exact wpAny_pyIter_tuple (show s1.heap.IsTuple a its.toArray from p) ⟨s1.heap.objs.size, [s1.heap.objs.size], _, _, H1, rfl, I1.kept (t' := s1.toks) fun b o e => Heap.get?_push_of_some _ e, turn_tuple a _, ⟨_, Heap.get?_push_size _ rfl, rfl, rfl⟩, fp, q⟩

/-! enumerate -/
theorem meets_enum1 {v : Value} {o : Obj} {H : Heap → Prop} (B : Begins v o H) :
    Meets (Builtin.«enumerate.__new__» ⟨[.type "enumerate", v], []⟩) (fun _ R s => H s.heap ∧
      R (.ok (.ret (.ref (s.heap.push o).objs.size))) { s with heap := (s.heap.push o).push { cls := .type "enumerate", data := .fields #[.none, .bool false, .ref s.heap.objs.size, rawInt 0, .none, .none] } }) :=
  .of_wp fun prog w A R s h => by
    obtain ⟨hp, g, d, tk, os⟩ := s; obtain ⟨h1, h⟩ := h
    have hsub := sub_enumerate
    have q1 : ∀ {A' : Around} {E : Value → Shared → Prop} {Q : Value → Shared → Prop}, Q (.ref hp.objs.size) ⟨hp.push o, g, d, tk, os⟩ → wpAny (model prog w) A' (pyIter v) Q E ⟨hp, g, d, tk, os⟩ :=
      fun q => B.iter prog w _ _ ⟨hp, g, d, tk, os⟩ _ h1 q
    wp_walk using q1
    refine wpAny_stack_any fun st => wpAny_pure ?_
    split
    · rename_i c _ _ _ _ _
      cases (c == Value.type "enumerate")
      · wp_walk using q1
        exact ⟨_, rfl, h⟩
      · wp_walk using q1
        exact ⟨_, rfl, h⟩
    · wp_walk using q1
      exact ⟨_, rfl, h⟩
def ItE (k : Bool) (K : PySem.W.Frag) (a : Addr) : It :=
  ⟨fun i H => ∃ (xs : List V) (x : V), SqX k K H a xs ∧ xs[i]? = some x, fun i H v H' => ∃ T x, v = .ref T ∧ H T = none ∧ H' = upd H T (.tup [.int (i : Nat), x]) ∧ ∀ xs, SqX k K H a xs → xs[i]? = some x, fun i H => ∃ xs : List V, SqX k K H a xs ∧ xs.length = i⟩
theorem turn_enumX {P : Program} {w : World} {K : PySem.W.Frag} {elts : List Expr} {kk : Nat} {tpos : Pos} {k : Bool} (a e it : Addr) (h1 : a ≠ it) (h2 : e ≠ it) (h3 : e ≠ a) :
    Turn P w K (.Tuple elts kk tpos) (ItE k K a) [e, it] e (fun i h => (∃ old, IsEnum h e it (0 + ((i : Nat) : Int)) old) ∧ IterH k h it a i) where
  mem := by simp
  obj := fun i h st b hb => by
    obtain ⟨⟨old, he⟩, hi⟩ := st
    have e' : b = e ∨ b = it := by simpa using hb
    rcases e' with z | z
    · rw [z]; exact ⟨_, he, fun v q => nomatch q⟩
    · rw [z]; exact iterH_obj hi
  keep := fun i h h' st kp => let ⟨⟨old, he⟩, hi⟩ := st; ⟨⟨old, kp e (by simp) _ he⟩, iterH_at hi fun o q => kp it (by simp) o q⟩
  item := by
    intro X hP hw hK hc i pins s σ H E I hf st hg
    subst hP hw hK
    obtain ⟨xs, x, hq, hx⟩ := hg
    obtain ⟨its, rv, p, hz, hlt⟩ := inv_seq I hq
    obtain ⟨u, hu, ru⟩ := rv.get hx
    have il : i < its.toArray.size := by
      rw [List.size_toArray]
      exact (List.getElem?_eq_some_iff.mp hu).1
    have W := GoesN.enumFrom (elts := elts) (x1 := kk) (pos := tpos) 0 (draws_seq (prog := X.prog) (w := X.w) (A := X.A.in1) k (I.ok.hd hc) it a h1 its.toArray) e h2 (by simp [h2, h3]) (by simp)
    refine W.goes i s _ E il ⟨st.1, st.2, p⟩ fun v h' tk hY st' hk htk => ?_
    obtain ⟨T, t, x', rfl, hT, hx', ht⟩ := hY
    have eu : x' = u := by
      have q : its[i]? = some x' := by simpa using hx'
      rw [hu] at q
      cases q
      rfl
    subst eu
    obtain ⟨ot, e1, e2, n, e3⟩ := id ht
    have new : ObjOk X.prog X.w (upd H T (.tup [.int (i : Nat), x])) h' T (.tup [.int (i : Nat), x]) := by
      refine ⟨by show 2 ≤ sizeLine; decide, [.int (0 + (i : Int)) t, x'], .cons ⟨t, ?_⟩ (.cons ru .nil), ⟨ot, e1, e2, n, e3⟩⟩
      rw [Int.zero_add]
    have fpl : ∀ b ∈ [e, it], b < s.heap.objs.size := fun b hb => by
      have e' : b = e ∨ b = it := by simpa using hb
      rcases e' with z | z
      · rw [z]; obtain ⟨⟨old, he⟩, _⟩ := st; exact Heap.lt_size he
      · rw [z]; obtain ⟨o, q, _⟩ := iterH_obj st.2; exact Heap.lt_size q
    have I1 : Inv X pins σ (upd H T (.tup [.int (i : Nat), x])) { s with heap := h', toks := tk } := I.turnedNew (ch := [e, it]) (fun b o hb q => hk b o hb q) hf hT new
    refine ⟨.ref T, _, I1, rfl, ⟨T, x, rfl, I.hok.fresh hT, rfl, fun ys hy => by rw [inv_seq_inj I hy hq]; exact hx⟩, ⟨st'.1, st'.2.1⟩, fun b hb => ?_⟩
    rw [upd_ne (Nat.ne_of_lt (Nat.lt_of_lt_of_le (fpl b hb) hT))]
    exact (hf b hb).1
  done := by
    intro X hP hw hK hc i pins s σ H E I hf st hg
    subst hP hw hK
    obtain ⟨xs, hq, hx⟩ := hg
    obtain ⟨its, rv, p, hz, hlt⟩ := inv_seq I hq
    have ei : i = its.toArray.size := by rw [List.size_toArray, ← rv.length]; exact hx.symm
    subst ei
    have W := GoesN.enumFrom (elts := elts) (x1 := kk) (pos := tpos) 0 (draws_seq (prog := X.prog) (w := X.w) (A := X.A.in1) k (I.ok.hd hc) it a h1 its.toArray) e h2 (by simp [h2, h3]) (by simp)
    exact W.stops s _ E ⟨st.1, st.2, p⟩ fun h' tk hk htk => I.turnedL (ch := [e, it]) (fun b o hb q => hk b o hb q) hf
  self := fun A i s Q E st h => let ⟨⟨_, he⟩, _⟩ := st; wpAny_pyIter_enum he h
theorem call_enumX {P : Program} {w : World} {A : Around} {E : Value → Shared → Prop} {s : Shared} {v : Value} {o : Obj} {Hh : Heap → Prop} {Q : Value → Shared → Prop} (B : Begins v o Hh) (h1 : Hh s.heap)
    (h : ∀ h', IsEnum h' (s.heap.objs.size + 1) s.heap.objs.size 0 .none → h'.get? s.heap.objs.size = some o → h'.objs.size = s.heap.objs.size + 2 →
      (∀ b o, s.heap.get? b = some o → h'.get? b = some o) → Q (.ref (s.heap.objs.size + 1)) { s with heap := h' }) :
    wpAny (model P w) A (call (.type "enumerate") [v]) Q E s := by
  refine PySem.callType_new F.called_enumerate (by decide) (F.typeCall_enumerate_1 _) (F.newCall_enumerate_1 _) (fun obj => F.args_object_init_2 obj _) F.entry_enumerate_new
    (meets_enum1 B) ⟨h1, ?_⟩
  have hz : (s.heap.push o).objs.size = s.heap.objs.size + 1 := Heap.size_push ..
  show _ ∧ _
  rw [hz]
  have he : IsEnum ((s.heap.push o).push { cls := .type "enumerate", data := .fields #[.none, .bool false, .ref s.heap.objs.size, rawInt 0, .none, .none] }) (s.heap.objs.size + 1) s.heap.objs.size 0 .none := by
    have := Heap.get?_push_size (s.heap.push o) (o := { cls := .type "enumerate", data := .fields #[.none, .bool false, .ref s.heap.objs.size, rawInt 0, .none, .none] }) rfl
    rw [hz] at this; exact this
  refine ⟨⟨_, he, rfl⟩, h _ he (Heap.get?_push_of_some _ (Heap.get?_push_size _ B.free)) (by rw [Heap.size_push, hz]) fun b o x => Heap.get?_push_of_some _ (Heap.get?_push_of_some _ x)⟩
theorem pi_enumX {e : Expr} {ta : TA} {p pos tpos : Pos} {elts : List Expr} {kk : Nat} (hg : Gl X "enumerate") (hm : X.mg "enumerate" = none) (ha : PA X [e] ta) (hs : starEach [e] X.env = [(false, eval e X.env)]) :
    PI X (.Tuple elts kk tpos) (.Call (.Name "enumerate" p) [e] [] pos) (fun σ H R => ta σ H fun vs H1 => ∃ k a xs, vs = [.ref a] ∧ SqX k X.K H1 a xs ∧ R (ItE k X.K a) H1) := by
  refine ⟨fun pins s σ H R I h => ?_⟩
  refine Call_ (ld_blt I hg hm boot_enumerate (PyProof.Rows.callWith_type1 (thn (ha.run pos pins s σ H _ I h) fun us s1 ⟨vs, H1, I1, r1, q1⟩ => ?_) hs rfl))
  obtain ⟨k, a, xs, ex, hq, q⟩ := q1
  subst ex
  cases r1 with
  | cons r rr =>
    cases rr
    cases r
    obtain ⟨its, rv, p', hz, hlt⟩ := inv_seq I1 hq
    refine call_enumX (begins_seq k a its.toArray) p' fun h' he hit hsz hk => wpAny_pyIter_enum he ?_
    have I2 : Inv X pins σ H1 { s1 with heap := h' } := I1.kept (t' := s1.toks) hk
    refine ⟨s1.heap.objs.size + 1, [s1.heap.objs.size + 1, s1.heap.objs.size], _, _, H1, rfl, I2, turn_enumX a (s1.heap.objs.size + 1) s1.heap.objs.size (Nat.ne_of_lt hlt) (Nat.succ_ne_self _) (Nat.ne_of_gt (Nat.lt_succ_of_lt hlt)), ⟨⟨.none, ?_⟩, iterH_new hit⟩, fun b hb => ?_, q⟩
    · exact he
    have e' : b = s1.heap.objs.size + 1 ∨ b = s1.heap.objs.size := by simpa using hb
    have hle : s1.heap.objs.size ≤ b := by
      rcases e' with z | z
      · rw [z]; exact Nat.le_add_right _ _
      · rw [z]; exact Nat.le_refl _
    exact I1.fpOk hle (I1.hok.fresh hle)

/-! zip of two -/
def ItZ2 (k1 k2 : Bool) (K : PySem.W.Frag) (a b : Addr) : It :=
  ⟨fun i H => ∃ (xs ys : List V) (x y : V), SqX k1 K H a xs ∧ SqX k2 K H b ys ∧ xs[i]? = some x ∧ ys[i]? = some y,
    fun i H v H' => ∃ T x y, v = .ref T ∧ H T = none ∧ H' = upd H T (.tup [x, y]) ∧ (∀ xs, SqX k1 K H a xs → xs[i]? = some x) ∧ ∀ ys, SqX k2 K H b ys → ys[i]? = some y,
    fun i H => ∃ xs ys : List V, SqX k1 K H a xs ∧ SqX k2 K H b ys ∧ min xs.length ys.length = i⟩
theorem turn_zip2 {P : Program} {w : World} {K : PySem.W.Frag} {elts : List Expr} {kk : Nat} {tpos : Pos} {k1 k2 : Bool} {a b z TI TO i1 i2 : Addr} (D : ZipSep2 z TI TO i1 i2 [i1, a] [i2, b]) (n1 : a ≠ i1) (n2 : b ≠ i2) :
    Turn P w K (.Tuple elts kk tpos) (ItZ2 k1 k2 K a b) [z, TI, TO, i1, i2] z (fun i h => IsZip h z TI TO .none ∧ IsTupOf2 h TI (.ref i1) (.ref i2) ∧ (∃ x y, IsTupOf2 h TO x y) ∧ IterH k1 h i1 a i ∧ IterH k2 h i2 b i) where
  mem := by simp
  obj := fun i h st c hc => by
    obtain ⟨hz, hTI, ⟨x, y, hTO⟩, h1, h2⟩ := st
    have e' : c = z ∨ c = TI ∨ c = TO ∨ c = i1 ∨ c = i2 := by simpa using hc
    rcases e' with q | q | q | q | q
    · rw [q]; exact ⟨_, hz, fun v q => nomatch q⟩
    · rw [q]; exact ⟨_, hTI, fun v q => nomatch q⟩
    · rw [q]; exact ⟨_, hTO, fun v q => nomatch q⟩
    · rw [q]; exact iterH_obj h1
    · rw [q]; exact iterH_obj h2
  keep := fun i h h' st k => by
    obtain ⟨hz, hTI, ⟨x, y, hTO⟩, h1, h2⟩ := st
    exact ⟨k z (by simp) _ hz, k TI (by simp) _ hTI, ⟨x, y, k TO (by simp) _ hTO⟩, iterH_at h1 fun o q => k i1 (by simp) o q, iterH_at h2 fun o q => k i2 (by simp) o q⟩
  item := by
    intro X hP hw hK hc i pins s σ H E I hf st hg
    subst hP hw hK
    obtain ⟨xs, ys, x, y, hqx, hqy, hx, hy⟩ := hg
    obtain ⟨its, rv, p, _⟩ := inv_seq I hqx
    obtain ⟨its2, rv2, p2, _⟩ := inv_seq I hqy
    obtain ⟨u, hu, ru⟩ := rv.get hx
    obtain ⟨u2, hu2, ru2⟩ := rv2.get hy
    have il : i < min its.toArray.size its2.toArray.size := by
      rw [List.size_toArray, List.size_toArray]
      have := (List.getElem?_eq_some_iff.mp hu).1
      have := (List.getElem?_eq_some_iff.mp hu2).1
      omega
    have W := GoesN.zip2 (elts := elts) (x1 := kk) (pos := tpos) D (draws_seq (prog := X.prog) (w := X.w) (A := X.A.in1) k1 (I.ok.hd hc) i1 a n1 its.toArray) (draws_seq (prog := X.prog) (w := X.w) (A := X.A.in1) k2 (I.ok.hd hc) i2 b n2 its2.toArray)
    refine W.goes i s _ E il ⟨st.1, st.2.1, st.2.2.1, ⟨st.2.2.2.1, p⟩, st.2.2.2.2, p2⟩ fun v h' tk hY st' hk htk => ?_
    obtain ⟨T, x', y', rfl, hT, hx', hy', ht⟩ := hY
    have eu : x' = u := by
      have q : its[i]? = some x' := by simpa using hx'
      rw [hu] at q
      cases q
      rfl
    subst eu
    have eu : y' = u2 := by
      have q : its2[i]? = some y' := by simpa using hy'
      rw [hu2] at q
      cases q
      rfl
    subst eu
    have new : ObjOk X.prog X.w (upd H T (.tup [x, y])) h' T (.tup [x, y]) := by
      obtain ⟨ot, e1, e2, n, e3⟩ := id ht
      exact ⟨by show 2 ≤ sizeLine; decide, [x', y'], .cons ru (.cons ru2 .nil), ⟨ot, e1, e2, n, e3⟩⟩
    have fpl : ∀ c ∈ [z, TI, TO, i1, i2], c < s.heap.objs.size := fun c hcm => by
      obtain ⟨hz, hTI, ⟨x0, y0, hTO⟩, h1, h2⟩ := st
      have e' : c = z ∨ c = TI ∨ c = TO ∨ c = i1 ∨ c = i2 := by simpa using hcm
      rcases e' with q | q | q | q | q
      · rw [q]; exact Heap.lt_size hz
      · rw [q]; exact Heap.lt_size hTI
      · rw [q]; exact Heap.lt_size hTO
      · rw [q]; obtain ⟨o, q, _⟩ := iterH_obj h1; exact Heap.lt_size q
      · rw [q]; obtain ⟨o, q, _⟩ := iterH_obj h2; exact Heap.lt_size q
    have I1 : Inv X pins σ (upd H T (.tup [x, y])) { s with heap := h', toks := tk } := I.turnedNew (ch := [z, TI, TO, i1, i2]) (fun c o hb q => hk c o (fun hm => hb (by
      have e' : c = z ∨ c = TO ∨ c = i1 ∨ c = i2 := by simpa using hm
      rcases e' with q | q | q | q <;> simp [q])) q) hf hT new
    refine ⟨.ref T, _, I1, rfl, ⟨T, x, y, rfl, I.hok.fresh hT, rfl, fun l hl => by rw [inv_seq_inj I hl hqx]; exact hx, fun l hl => by rw [inv_seq_inj I hl hqy]; exact hy⟩, ⟨st'.1, st'.2.1, st'.2.2.1, st'.2.2.2.1.1, st'.2.2.2.2.1⟩, fun c hcm => ?_⟩
    rw [upd_ne (Nat.ne_of_lt (Nat.lt_of_lt_of_le (fpl c hcm) hT))]
    exact (hf c hcm).1
  done := by
    intro X hP hw hK hc i pins s σ H E I hf st hg
    subst hP hw hK
    obtain ⟨xs, ys, hqx, hqy, hx⟩ := hg
    obtain ⟨its, rv, p, _⟩ := inv_seq I hqx
    obtain ⟨its2, rv2, p2, _⟩ := inv_seq I hqy
    have ei : i = min its.toArray.size its2.toArray.size := by rw [List.size_toArray, List.size_toArray, ← rv.length, ← rv2.length]; exact hx.symm
    subst ei
    have W := GoesN.zip2 (elts := elts) (x1 := kk) (pos := tpos) D (draws_seq (prog := X.prog) (w := X.w) (A := X.A.in1) k1 (I.ok.hd hc) i1 a n1 its.toArray) (draws_seq (prog := X.prog) (w := X.w) (A := X.A.in1) k2 (I.ok.hd hc) i2 b n2 its2.toArray)
    exact W.stops s _ E ⟨st.1, st.2.1, st.2.2.1, ⟨st.2.2.2.1, p⟩, st.2.2.2.2, p2⟩ fun h' tk hk htk => I.turnedL (ch := [z, TI, TO, i1, i2]) (fun c o hb q => hk c o (fun hm => hb (by
      have e' : c = z ∨ c = TO ∨ c = i1 ∨ c = i2 := by simpa using hm
      rcases e' with q | q | q | q <;> simp [q])) q) hf
  self := fun A i s Q E st h => wpAny_pyIter_zip st.1 h
theorem pi_zip2 {e e2 : Expr} {ta : TA} {p pos tpos : Pos} {elts : List Expr} {kk : Nat} (hg : Gl X "zip") (hm : X.mg "zip" = none) (ha : PA X [e, e2] ta)
    (hs : starEach [e, e2] X.env = (false, eval e X.env) :: starEach [e2] X.env) (hpl : (backTo pos (starEach [e2] X.env)).any (·.1) = false) :
    PI X (.Tuple elts kk tpos) (.Call (.Name "zip" p) [e, e2] [] pos) (fun σ H R => ta σ H fun vs H1 => ∃ k1 k2 a b xs ys, vs = [.ref a, .ref b] ∧ SqX k1 X.K H1 a xs ∧ SqX k2 X.K H1 b ys ∧ R (ItZ2 k1 k2 X.K a b) H1) := by
  refine ⟨fun pins s σ H R I h => ?_⟩
  refine Call_ (ld_blt I hg hm PyProof.Rows.boot_zip (PyProof.Rows.callWith_type1 (thn (ha.run pos pins s σ H _ I h) fun us s1 ⟨vs, H1, I1, r1, q1⟩ => ?_) hs hpl))
  obtain ⟨k1, k2, a, b, xs, ys, ex, hqx, hqy, q⟩ := q1
  subst ex
  cases r1 with
  | cons r rr =>
    cases rr with
    | cons r' rr =>
      cases rr
      cases r
      cases r'
      obtain ⟨its, rv, p1, _, la⟩ := inv_seq I1 hqx
      obtain ⟨its2, rv2, p2, _, lb⟩ := inv_seq I1 hqy
      refine zip_begins2 (begins_seq k1 a its.toArray) (begins_seq k2 b its2.toArray) p1 p2 fun h' hz hTI hTO h1 h2 hsz hk => wpAny_pyIter_zip hz ?_
      have I2 : Inv X pins σ H1 { s1 with heap := h' } := I1.kept (t' := s1.toks) hk
      refine ⟨s1.heap.objs.size + 4, [s1.heap.objs.size + 4, s1.heap.objs.size + 2, s1.heap.objs.size + 3, s1.heap.objs.size, s1.heap.objs.size + 1], _, _, H1, rfl, I2,
        turn_zip2 (zip_sep2 (fp1 := [a]) (fp2 := [b]) (fun c hc => by rw [List.mem_singleton.mp hc]; exact la) (fun c hc => by rw [List.mem_singleton.mp hc]; exact lb)) (Nat.ne_of_lt la) (Nat.ne_of_lt (Nat.lt_succ_of_lt lb)), ⟨hz, hTI, ⟨_, _, hTO⟩, iterH_new h1, iterH_new h2⟩, fun c hcm => ?_, q⟩
      have e' : c = s1.heap.objs.size + 4 ∨ c = s1.heap.objs.size + 2 ∨ c = s1.heap.objs.size + 3 ∨ c = s1.heap.objs.size ∨ c = s1.heap.objs.size + 1 := by simpa using hcm
      have hle : s1.heap.objs.size ≤ c := by
        rcases e' with z | z | z | z | z
        · rw [z]; exact Nat.le_add_right _ _
        · rw [z]; exact Nat.le_add_right _ _
        · rw [z]; exact Nat.le_add_right _ _
        · rw [z]; exact Nat.le_refl _
        · rw [z]; exact Nat.le_add_right _ _
      exact I1.fpOk hle (I1.hok.fresh hle)
end

/-! ### by data -/
/-- P: the sources still stand; J goes through what stands for items -/
def Goes' (K : PySem.W.Frag) (P : Hp → Hp → Prop) (J : It) (items : List Dt) : Prop := ∀ i R H, P R H →
  (∀ d, items[i]? = some d → J.go i H ∧ ∀ x H', J.yld i H x H' → ∃ R', Ext .none R H R' H' ∧ Rp K R' x d) ∧ (i = items.length → J.stop i H)
/-- v is a list or a tuple of what stands for ds, as long as P -/
def Seen (K : PySem.W.Frag) (P : Hp → Hp → Prop) (R1 : Hp) (v : V) (ds : List Dt) : Prop := ∃ k a xs, v = .ref a ∧ RpL K R1 xs ds ∧ ∀ R H, P R H → SqX k K H a xs
section
variable {K : PySem.W.Frag} {P : Hp → Hp → Prop} {R1 H1 : Hp}
theorem goes_seq {k : Bool} {a : Addr} {xs : List V} {ds : List Dt} (h1 : ∀ R H, P R H → Sub R1 R ∧ Sub R H) (r : RpL K R1 xs ds) (h : ∀ R H, P R H → SqX k K H a xs) : Goes' K P (Itx k K a) ds := fun i R H p => by
  have q := h R H p
  refine ⟨fun d e => ?_, fun e => ?_⟩
  · obtain ⟨x, hx, rx⟩ := r.get e
    cases k
    · refine ⟨⟨xs, x, q, hx⟩, fun y H' hy => ?_⟩
      obtain ⟨e1, e2⟩ := (show H' = H ∧ ∀ xs, SqL K H a xs → xs[i]? = some y from hy)
      have z := e2 xs q
      rw [hx] at z
      cases z
      subst e1
      exact ⟨R, .refl (h1 R _ p).2, rx.up (h1 R _ p).1⟩
    · refine ⟨⟨xs, x, q, hx⟩, fun y H' hy => ?_⟩
      obtain ⟨e1, e2⟩ := (show H' = H ∧ ∀ xs, SqT K H a xs → xs[i]? = some y from hy)
      have z := e2 xs q
      rw [hx] at z
      cases z
      subst e1
      exact ⟨R, .refl (h1 R _ p).2, rx.up (h1 R _ p).1⟩
  · have l := r.len
    cases k
    · exact ⟨xs, q, by omega⟩
    · exact ⟨xs, q, by omega⟩
def enumD (ds : List Dt) : List Dt := ds.zipIdx.map fun p => .tuple [.int (p.2 : Nat), p.1]
def zip2D (ds es : List Dt) : List Dt := List.zipWith (fun x y => .tuple [x, y]) ds es
theorem pair_new {x y : V} {dx dy : Dt} {R H : Hp} {T : Addr} (sb : Sub R H) (n : H T = none) (rx : Rp K R x dx) (ry : Rp K R y dy) : ∃ R', Ext .none R H R' (upd H T (.tup [x, y])) ∧ Rp K R' (.ref T) (.tuple [dx, dy]) := by
  have z : Ext .none R H (upd R T (.tup [x, y])) (upd H T (.tup [x, y])) := .new sb n
  exact ⟨_, z, .tup (.of upd_same) (.cons (rx.up z.r) (.cons (ry.up z.r) .nil)) (by show 2 ≤ sizeLine; decide)⟩
theorem goes_enum {k : Bool} {a : Addr} {xs : List V} {ds : List Dt} (h1 : ∀ R H, P R H → Sub R1 R ∧ Sub R H) (r : RpL K R1 xs ds) (h : ∀ R H, P R H → SqX k K H a xs) : Goes' K P (ItE k K a) (enumD ds) := fun i R H p => by
  have q := h R H p
  have l := r.len
  refine ⟨fun d e => ?_, fun e => ⟨xs, q, by simp [enumD] at e; omega⟩⟩
  unfold enumD at e
  rw [List.getElem?_map, List.getElem?_zipIdx] at e
  cases e1 : ds[i]? with
  | none => rw [e1] at e; cases e
  | some dx =>
    rw [e1] at e
    cases e
    obtain ⟨x, hx, rx⟩ := r.get e1
    refine ⟨⟨xs, x, q, hx⟩, fun y H' hy => ?_⟩
    obtain ⟨T, x', rfl, n, rfl, e2⟩ := hy
    have z := e2 xs q
    rw [hx] at z
    cases z
    rw [Nat.zero_add]
    exact pair_new (h1 R _ p).2 n (.int _) (rx.up (h1 R _ p).1)
theorem goes_zip2 {k1 k2 : Bool} {a b : Addr} {xs ys : List V} {ds es : List Dt} (h1 : ∀ R H, P R H → Sub R1 R ∧ Sub R H) (r : RpL K R1 xs ds) (r' : RpL K R1 ys es) (h : ∀ R H, P R H → SqX k1 K H a xs) (h' : ∀ R H, P R H → SqX k2 K H b ys) : Goes' K P (ItZ2 k1 k2 K a b) (zip2D ds es) := fun i R H p => by
  have q := h R H p
  have q' := h' R H p
  have l := r.len
  have l' := r'.len
  refine ⟨fun d e => ?_, fun e => ⟨xs, ys, q, q', by simp [zip2D] at e; omega⟩⟩
  unfold zip2D at e
  rw [List.getElem?_zipWith] at e
  cases e1 : ds[i]? with
  | none => rw [e1] at e; cases e
  | some dx =>
    cases e2 : es[i]? with
    | none => rw [e1, e2] at e; cases e
    | some dy =>
      rw [e1, e2] at e
      cases e
      obtain ⟨x, hx, rx⟩ := r.get e1
      obtain ⟨y, hy, ry⟩ := r'.get e2
      refine ⟨⟨xs, ys, x, y, q, q', hx, hy⟩, fun v H' hv => ?_⟩
      obtain ⟨T, x', y', rfl, n, rfl, e3, e4⟩ := hv
      have z := e3 xs q
      rw [hx] at z
      cases z
      have z := e4 ys q'
      rw [hy] at z
      cases z
      exact pair_new (h1 R _ p).2 n (rx.up (h1 R _ p).1) (ry.up (h1 R _ p).1)
def rngD (lo : Int) (n : Nat) : List Dt := (List.range n).map fun i => .int (lo + (i : Nat))
theorem goes_range {lo : Int} {n : Nat} (h1 : ∀ R H, P R H → Sub R1 R ∧ Sub R H) : Goes' K P (Itr lo n) (rngD lo n) := fun i R H p => by
  refine ⟨fun d e => ?_, fun e => by simp [rngD] at e; exact Nat.le_of_eq e.symm⟩
  unfold rngD at e
  rw [List.getElem?_map] at e
  cases e1 : (List.range n)[i]? with
  | none => rw [e1] at e; cases e
  | some j =>
    rw [e1] at e
    cases e
    have hi : i < n := by
      have := (List.getElem?_eq_some_iff.mp e1).1
      simpa using this
    have hj : j = i := by simpa [hi] using e1.symm
    subst hj
    refine ⟨hi, fun x H' hx => ?_⟩
    obtain ⟨rfl, rfl⟩ := hx
    exact ⟨R, .refl (h1 R _ p).2, .int _⟩
theorem goes_rangeC {lo c : Int} {n : Nat} (h1 : ∀ R H, P R H → Sub R1 R ∧ Sub R H) : Goes' K P (Itc lo c n) ((List.range n).map fun i => .int (lo + (i : Nat) * c)) := fun i R H p => by
  refine ⟨fun d e => ?_, fun e => by simp at e; exact Nat.le_of_eq e.symm⟩
  rw [List.getElem?_map] at e
  cases e1 : (List.range n)[i]? with
  | none => rw [e1] at e; cases e
  | some j =>
    rw [e1] at e
    cases e
    have hi : i < n := by
      have := (List.getElem?_eq_some_iff.mp e1).1
      simpa using this
    have hj : j = i := by simpa [hi] using e1.symm
    subst hj
    refine ⟨hi, fun x H' hx => ?_⟩
    obtain ⟨rfl, rfl⟩ := hx
    exact ⟨R, .refl (h1 R _ p).2, .int _⟩
end
end Ev

/-! Ev, part G: sources, targets, comprehensions. -/
namespace Ev
open PySem L2

/-! ### sources -/
abbrev Sr := En → Mo (List Dt)
abbrev Kpt := Option Addr → Hp → Hp → Hp → Hp → Prop
/-- a comprehension's: nothing but new things -/
def KC : Kpt := fun po R1 H1 R H => Ext po R1 H1 R H
/-- a loop's: what stands, stands -/
def KF : Kpt := fun _ R1 _ R H => Sub R1 R ∧ Sub R H
structure KOk (Kp : Kpt) : Prop where
  ok : ∀ {po R1 H1 R H}, Kp po R1 H1 R H → Sub R1 R ∧ Sub R H
  tr : ∀ {po R1 H1 R2 H2 R H}, Ext po R1 H1 R2 H2 → Kp po R2 H2 R H → Kp po R1 H1 R H
theorem kc_ok : KOk KC := ⟨fun x => ⟨x.r, x.s⟩, fun x y => x.trans y⟩
theorem kf_ok : KOk KF := ⟨fun x => x, fun x y => ⟨x.r.trans y.1, y.2⟩⟩
/-- a value that is gone through later -/
def TSn (K : PySem.W.Frag) (ps : Option Nat) (S : List Nat) (Kp : Kpt) (f : Dn) : TE := fun σ H Q =>
  ∃ po env pt d pt' R, Wd K ps S po σ env pt R H ∧ f env pt = some (d, pt') ∧ ∀ v R1 H1, Ext po R H R1 H1 → PotAt po H1 pt' → (∀ ds, itemsD d = some ds → Seen K (Kp po R1 H1) R1 v ds) → Q v H1
def TSr (K : PySem.W.Frag) (ps : Option Nat) (S : List Nat) (Kp : Kpt) (f : Sr) : TI := fun σ H Q =>
  ∃ po env pt ds pt' R, Wd K ps S po σ env pt R H ∧ f env pt = some (ds, pt') ∧ ∀ J R1 H1, Ext po R H R1 H1 → PotAt po H1 pt' → Goes' K (Kp po R1 H1) J ds → Q J H1
section
variable {K : PySem.W.Frag} {ps : Option Nat} {S : List Nat} {Kp : Kpt} {f f' f'' : Dn} {X : Cx} {e e2 e3 tg : Expr}
theorem pi_imp {it : Expr} {t t' : TI} (h : PI X tg it t) (i : ∀ σ H Q, t' σ H Q → t σ H Q) : PI X tg it t' := ⟨fun pins s σ H R I w => h.run pins s σ H R I (i σ H R w)⟩
theorem itemsD_some {d : Dt} {ds : List Dt} (h : itemsD d = some ds) : d = .list ds ∨ d = .tuple ds := by
  cases d with
  | list xs => cases h; exact .inl rfl
  | tuple xs => cases h; exact .inr rfl
  | _ => cases h
theorem sn_C (h : PE X e (TB X.K ps S f)) : PE X e (TSn X.K ps S KC f) := pe_imp h fun σ H Q ⟨po, env, pt, d, pt', R, w, q, k⟩ =>
  ⟨po, env, pt, d, pt', R, w, q, fun v R1 H1 x p s => k v R1 H1 x p fun ds hd => by
    rcases itemsD_some hd with rfl | rfl
    · rcases s with s | ⟨a, rfl, n, ⟨xs, _, e, h, r, z⟩ | ⟨_, _, e, _⟩ | ⟨_, _, e, _⟩⟩
      · cases s with
        | lst h l z => exact ⟨false, _, _, rfl, l, fun R' H' y => ((y.r.trans y.s).sqE h).sqL⟩
      · cases e
        exact ⟨false, a, xs, rfl, r, fun R' H' y => .inl (.inl (y.k _ _ h n))⟩
      · cases e
      · cases e
    · rcases s with s | ⟨a, rfl, n, ⟨_, _, e, _⟩ | ⟨_, _, e, _⟩ | ⟨_, _, e, _⟩⟩
      · cases s with
        | tup h l z => exact ⟨true, _, _, rfl, l, fun R' H' y => (y.r.trans y.s).sqT h⟩
      · cases e
      · cases e
      · cases e⟩
theorem sn_F (h : PE X e (TD X.K ps S f)) : PE X e (TSn X.K ps S KF f) := pe_imp h fun σ H Q ⟨po, env, pt, d, pt', R, w, q, k⟩ =>
  ⟨po, env, pt, d, pt', R, w, q, fun v R1 H1 x p s => k v R1 H1 x p fun ds hd => by
    rcases itemsD_some hd with rfl | rfl
    · cases s with
      | lst h l z => exact ⟨false, _, _, rfl, l, fun R' H' y => ((y.1.trans y.2).sqE h).sqL⟩
    · cases s with
      | tup h l z => exact ⟨true, _, _, rfl, l, fun R' H' y => (y.1.trans y.2).sqT h⟩⟩
theorem seen_seq {P : Hp → Hp → Prop} {R1 H1 : Hp} {v : V} {ds : List Dt} (h : Seen K P R1 v ds) (p : P R1 H1) : ∃ k a xs, v = .ref a ∧ SqX k K H1 a xs := let ⟨k, a, xs, e, _, q⟩ := h; ⟨k, a, xs, e, q _ _ p⟩
structure KSelf (Kp : Kpt) : Prop where
  at_ : ∀ {po R1 H1}, Sub R1 H1 → Kp po R1 H1 R1 H1
theorem kc_self : KSelf KC := ⟨fun s => .refl s⟩
theorem kf_self : KSelf KF := ⟨fun s => ⟨Sub.refl _, s⟩⟩
theorem Seen.mono {P P' : Hp → Hp → Prop} {R1 R2 : Hp} {v : V} {ds : List Dt} (h : Seen K P R1 v ds) (s : Sub R1 R2) (hp : ∀ R H, P' R H → P R H) : Seen K P' R2 v ds :=
  let ⟨k, a, xs, e, r, q⟩ := h; ⟨k, a, xs, e, r.up s, fun R H p => q R H (hp R H p)⟩
/-- e as it is -/
def sSeq (f : Dn) : Sr := fun env => (f env).bnd fun d => Mo.ofO (itemsD d)
theorem ds_seq (ko : KOk Kp) (ks : KSelf Kp) (h : PE X e (TSn X.K ps S Kp f)) : PI X tg e (TSr X.K ps S Kp (sSeq f)) := pi_imp (pi_seqX h) fun σ H Q ⟨po, env, pt, ds, pt', R, w, q, k⟩ => by
  obtain ⟨d, p1, e1, q⟩ := Mo.bnd_some q
  obtain ⟨e2, rfl⟩ := Mo.ofO_some q
  refine ⟨po, env, pt, d, _, R, w, e1, fun v R1 H1 x p s => ?_⟩
  obtain ⟨kd, a, xs, ev, r, hq⟩ := s ds e2
  exact ⟨kd, a, ev, ⟨xs, hq _ _ (ks.at_ x.s)⟩, k _ R1 H1 x p (goes_seq (fun R H z => ko.ok z) r hq)⟩
def sEnum (f : Dn) : Sr := fun env => (f env).bnd fun d => (Mo.ofO (itemsD d)).bnd fun ds => Mo.ret (enumD ds)
theorem ds_enum (ko : KOk Kp) (ks : KSelf Kp) {p pos tpos : Pos} {elts : List Expr} {kk : Nat} (hg : Gl X "enumerate") (hm : X.mg "enumerate" = none) (hn : notStar e = true) (h : PE X e (TSn X.K ps S Kp f)) :
    PI X (.Tuple elts kk tpos) (.Call (.Name "enumerate" p) [e] [] pos) (TSr X.K ps S Kp (sEnum f)) := pi_imp (pi_enumX hg hm (pa_cons h pa_nil (star_no hn)) (star_no hn)) fun σ H Q ⟨po, env, pt, ds, pt', R, w, q, k⟩ => by
  obtain ⟨d, p1, e1, q⟩ := Mo.bnd_some q
  obtain ⟨ds', p2, e2, q9⟩ := Mo.bnd_some q
  cases q9
  obtain ⟨e3, e4⟩ := Mo.ofO_some e2
  subst e4
  refine ⟨po, env, pt, d, _, R, w, e1, fun v R1 H1 x p s => ?_⟩
  obtain ⟨kd, a, xs, ev, r, hq⟩ := s ds' e3
  exact ⟨kd, a, xs, by rw [ev], hq _ _ (ks.at_ x.s), k _ R1 H1 x p (goes_enum (fun R H z => ko.ok z) r hq)⟩
def sZip2 (f f' : Dn) : Sr := fun env => (f env).bnd fun d => (f' env).bnd fun d' => (Mo.ofO (itemsD d)).bnd fun ds => (Mo.ofO (itemsD d')).bnd fun ds' => Mo.ret (zip2D ds ds')
theorem ds_zip2 (ko : KOk Kp) (ks : KSelf Kp) {p pos tpos : Pos} {elts : List Expr} {kk : Nat} (hg : Gl X "zip") (hm : X.mg "zip" = none) (hn : notStar e = true) (hn2 : notStar e2 = true) (h : PE X e (TSn X.K ps S Kp f)) (h2 : PE X e2 (TSn X.K ps S Kp f')) :
    PI X (.Tuple elts kk tpos) (.Call (.Name "zip" p) [e, e2] [] pos) (TSr X.K ps S Kp (sZip2 f f')) := pi_imp (pi_zip2 hg hm (pa_cons h (pa_cons h2 pa_nil (star_no hn2)) (star_no hn)) (star_no hn) (by rw [star_no hn2]; rfl)) fun σ H Q ⟨po, env, pt, ds, pt', R, w, q, k⟩ => by
  obtain ⟨d, p1, e1, q⟩ := Mo.bnd_some q
  obtain ⟨d', p2, e2, q⟩ := Mo.bnd_some q
  obtain ⟨ds1, p3, e3, q8⟩ := Mo.bnd_some q
  obtain ⟨ds2, p4, e4, q9⟩ := Mo.bnd_some q8
  cases q9
  obtain ⟨e5, e5'⟩ := Mo.ofO_some e3
  subst e5'
  obtain ⟨e6, e6'⟩ := Mo.ofO_some e4
  subst e6'
  refine ⟨po, env, pt, d, _, R, w, e1, fun v R1 H1 x p s => ⟨po, env, _, d', _, R1, w.up x p, e2, fun v' R2 H2 x' p' s' => ?_⟩⟩
  obtain ⟨k1, a, xs, ev, r, hq⟩ := (s ds1 e5).mono x'.r (P' := Kp po R2 H2) fun R H z => ko.tr x' z
  obtain ⟨k2, b, ys, ev', r', hq'⟩ := s' ds2 e6
  exact ⟨k1, k2, a, b, xs, ys, by rw [ev, ev'], hq _ _ (ks.at_ x'.s), hq' _ _ (ks.at_ x'.s), k _ R2 H2 (x.trans x') p' (goes_zip2 (fun R H z => ko.ok z) r r' hq hq')⟩
def inRg (j : Int) : Bool := decide (-(2 ^ 62) ≤ j ∧ j < 2 ^ 62)
def sRng1 (f : Dn) : Sr := fun env => (f env).bnd fun d => match d with
  | .int j => if inRg j = true then Mo.ret (rngD 0 j.toNat) else Mo.fail
  | _ => Mo.fail
def sRng2 (f f' : Dn) : Sr := fun env => (f env).bnd fun d => (f' env).bnd fun d' => match d, d' with
  | .int i, .int j => if inRg i = true ∧ inRg j = true then Mo.ret (rngD i (j - i).toNat) else Mo.fail
  | _, _ => Mo.fail
def rg3 (i j c : Int) : Option (List Dt) := if c ≠ 0 ∧ c.natAbs < 1073741824 ∧ Builtin.Range.small i j c = true ∧ 0 ≤ Builtin.Range.rangeSize i j c then some ((List.range (Builtin.Range.rangeSize i j c).toNat).map fun n => .int (i + (n : Nat) * c)) else none
def sRng3 (f f' f'' : Dn) : Sr := fun env => (f env).bnd fun d => (f' env).bnd fun d' => (f'' env).bnd fun d'' => match d, d', d'' with
  | .int i, .int j, .int c => Mo.ofO (rg3 i j c)
  | _, _, _ => Mo.fail
theorem ds_rng1 (ko : KOk Kp) {p pos : Pos} (hg : Gl X "range") (hm : X.mg "range" = none) (hn : notStar e = true) (h : PE X e (TB X.K ps S f)) :
    PI X tg (.Call (.Name "range" p) [e] [] pos) (TSr X.K ps S Kp (sRng1 f)) := pi_imp (pi_range1 hg hm (pa_cons h pa_nil (star_no hn)) (star_no hn)) fun σ H Q ⟨po, env, pt, ds, pt', R, w, q, k⟩ => by
  obtain ⟨d, p1, e1, q⟩ := Mo.bnd_some q
  refine ⟨po, env, pt, d, p1, R, w, e1, fun v R1 H1 x p s => ?_⟩
  split at q
  · split at q
    · rename_i hj
      cases q
      obtain rfl := s.int
      obtain ⟨h1, h2⟩ := of_decide_eq_true hj
      exact ⟨_, rfl, h1, h2, k _ R1 H1 x p (goes_range fun R H z => ko.ok z)⟩
    · cases q
  · cases q
theorem ds_rng2 (ko : KOk Kp) {p pos : Pos} (hg : Gl X "range") (hm : X.mg "range" = none) (hn : notStar e = true) (hn2 : notStar e2 = true) (h : PE X e (TB X.K ps S f)) (h2 : PE X e2 (TB X.K ps S f')) :
    PI X tg (.Call (.Name "range" p) [e, e2] [] pos) (TSr X.K ps S Kp (sRng2 f f')) := pi_imp (pi_range2 hg hm (pa_cons h (pa_cons h2 pa_nil (star_no hn2)) (star_no hn)) (by rw [star_no hn, star_no hn2]; rfl) (star_no hn2)) fun σ H Q ⟨po, env, pt, ds, pt', R, w, q, k⟩ => by
  obtain ⟨d, p1, e1, q⟩ := Mo.bnd_some q
  obtain ⟨d', p2, e2, q⟩ := Mo.bnd_some q
  refine ⟨po, env, pt, d, p1, R, w, e1, fun v R1 H1 x p s => ⟨po, env, p1, d', p2, R1, w.up x p, e2, fun v' R2 H2 x' p' s' => ?_⟩⟩
  split at q
  · split at q
    · rename_i hj
      cases q
      obtain rfl := s.int
      obtain rfl := s'.int
      obtain ⟨h1, h2⟩ := of_decide_eq_true hj.1
      obtain ⟨h3, h4⟩ := of_decide_eq_true hj.2
      exact ⟨_, _, rfl, ⟨h1, h2, h3, h4⟩, k _ R2 H2 (x.trans x') p' (goes_range fun R H z => ko.ok z)⟩
    · cases q
  · cases q
theorem ds_rng3 (ko : KOk Kp) {p pos : Pos} (hg : Gl X "range") (hm : X.mg "range" = none) (hn : notStar e = true) (hn2 : notStar e2 = true) (hn3 : notStar e3 = true) (h : PE X e (TB X.K ps S f)) (h2 : PE X e2 (TB X.K ps S f')) (h3 : PE X e3 (TB X.K ps S f'')) :
    PI X tg (.Call (.Name "range" p) [e, e2, e3] [] pos) (TSr X.K ps S Kp (sRng3 f f' f'')) := pi_imp (pi_range3 hg hm (pa_cons h (pa_cons h2 (pa_cons h3 pa_nil (star_no hn3)) (star_no hn2)) (star_no hn)) (star_no hn) (by rw [star_no hn2, star_no hn3]; rfl)) fun σ H Q ⟨po, env, pt, ds, pt', R, w, q, k⟩ => by
  obtain ⟨d, p1, e1, q⟩ := Mo.bnd_some q
  obtain ⟨d', p2, e2, q⟩ := Mo.bnd_some q
  obtain ⟨d'', p3, e3, q⟩ := Mo.bnd_some q
  refine ⟨po, env, pt, d, p1, R, w, e1, fun v R1 H1 x p s => ⟨po, env, p1, d', p2, R1, w.up x p, e2, fun v' R2 H2 x' p' s' => ⟨po, env, p2, d'', p3, R2, (w.up x p).up x' p', e3, fun v'' R3 H3 x'' p'' s'' => ?_⟩⟩⟩
  split at q
  · obtain ⟨q, rfl⟩ := Mo.ofO_some q
    unfold rg3 at q
    split at q
    · rename_i hj
      cases q
      obtain rfl := s.int
      obtain rfl := s'.int
      obtain rfl := s''.int
      refine ⟨_, _, _, _, rfl, ⟨hj.1, hj.2.1, hj.2.2.1, (Int.toNat_of_nonneg hj.2.2.2).symm⟩, k _ R3 H3 ((x.trans x').trans x'') p'' (goes_rangeC fun R H z => ko.ok z)⟩
    · cases q
  · cases q
end

/-! ### targets -/
inductive Tg where
  | nm (i : Nat)
  | tp (l : List Tg)
mutual
def bindD (ps : Option Nat) : Tg → Dt → En → Option En
  | .nm i, d, env => if i < env.length ∧ ps ≠ some i then some (env.set i (some d)) else none
  | .tp l, .tuple ds, env => bindL ps l ds env
  | .tp l, .list ds, env => bindL ps l ds env
  | .tp _, _, _ => none
def bindL (ps : Option Nat) : List Tg → List Dt → En → Option En
  | [], [], env => some env
  | t :: ts, d :: ds, env => (bindD ps t d env).bind (bindL ps ts ds)
  | _, _, _ => none
end
mutual
def Tg.slots : Tg → List Nat
  | .nm i => [i]
  | .tp l => slotsL l
def slotsL : List Tg → List Nat
  | [] => []
  | t :: ts => t.slots ++ slotsL ts
end
/-- what stays through a store: the length, what is at other slots -/
def Same (L : List Nat) (σ σ' : L2.St) : Prop := σ'.length = σ.length ∧ ∀ i, i ∉ L → σ'[i]? = σ[i]?
def TGt (K : PySem.W.Frag) (ps : Option Nat) (S : List Nat) (t : Tg) : TG := fun v σ H Q =>
  ∃ po env pt d env' R, Wd K ps S po σ env pt R H ∧ Rp K R v d ∧ bindD ps t d env = some env' ∧ ∀ σ', Same t.slots σ σ' → (∀ H' p', Wd K ps S po σ env p' R H' → Wd K ps S po σ' env' p' R H') → Q σ' H
def TGs' (K : PySem.W.Frag) (ps : Option Nat) (S : List Nat) (t : List Tg) : TGs := fun vs σ H Q =>
  ∃ po env pt ds env' R, Wd K ps S po σ env pt R H ∧ RpL K R vs ds ∧ bindL ps t ds env = some env' ∧ ∀ σ', Same (slotsL t) σ σ' → (∀ H' p', Wd K ps S po σ env p' R H' → Wd K ps S po σ' env' p' R H') → Q σ' H
section
variable {K : PySem.W.Frag} {ps : Option Nat} {S : List Nat} {X : Cx} {tg : Expr} {pos : Pos}
theorem pg_imp {t t' : TG} (h : PG X tg t) (i : ∀ v σ H Q, t' v σ H Q → t v σ H Q) : PG X tg t' := ⟨fun pins s σ H v u Q I r w => h.run pins s σ H v u Q I r (i v σ H Q w)⟩
theorem pgs_imp {ts : List Expr} {t t' : TGs} (h : PGs X ts t) (i : ∀ v σ H Q, t' v σ H Q → t v σ H Q) : PGs X ts t' := ⟨fun pins s σ H v u Q I r w => h.run pins s σ H v u Q I r (i v σ H Q w)⟩
theorem Wd.put {po : Option Addr} {σ : L2.St} {env : En} {pt : Pt} {R H : Hp} {i : Nat} {v : V} {d : Dt} (w : Wd K ps S po σ env pt R H) (r : Rp K R v d) (hi : i < env.length) (hp : ps ≠ some i) : Wd K ps S po (σ.set i (some v)) (env.set i (some d)) pt R H := by
  refine ⟨w.sub, w.pot, w.pof, fun j e => ?_, fun j d' e => ?_, by rw [List.length_set, List.length_set]; exact w.len⟩
  · obtain ⟨p, h1, h2⟩ := w.pos j e
    have n : i ≠ j := fun z => hp (by rw [z]; exact e)
    exact ⟨p, h1, by rw [List.getElem?_set_ne n]; exact h2⟩
  · by_cases z : i = j
    · subst z
      rw [List.getElem?_set_self hi] at e
      cases e
      exact ⟨v, by rw [List.getElem?_set_self (by rw [w.len]; exact hi)], .inl r, fun _ => r⟩
    · rw [List.getElem?_set_ne z] at e ⊢
      exact w.sl j d' e
theorem tg_name {i : Nat} {x : Str} (h : PG X (.Name x pos) (gName i)) : PG X (.Name x pos) (TGt K ps S (.nm i)) := pg_imp h fun v σ H Q ⟨po, env, pt, d, env', R, w, r, e, k⟩ => by
  unfold bindD at e
  split at e
  · rename_i c
    cases e
    exact k _ ⟨List.length_set .., fun j hj => List.getElem?_set_ne fun z => hj (by rw [z]; exact List.mem_singleton.mpr rfl)⟩ fun H' p' w' => w'.put r c.1 c.2
  · cases e
theorem tgs_nil : PGs X [] (TGs' K ps S []) := pgs_imp pgs_nil fun v σ H Q ⟨po, env, pt, d, env', R, w, r, e, k⟩ => by
  cases r with
  | nil =>
    cases e
    exact ⟨rfl, k σ ⟨rfl, fun _ _ => rfl⟩ fun H' p' w' => w'⟩
  | cons => cases e
theorem tgs_cons {e : Expr} {es : List Expr} {t : Tg} {ts : List Tg} (h1 : PG X e (TGt K ps S t)) (h2 : PGs X es (TGs' K ps S ts)) (hs : (assignEach (e :: es) X.env).map (·.2) = assign e X.env :: (assignEach es X.env).map (·.2)) : PGs X (e :: es) (TGs' K ps S (t :: ts)) :=
  pgs_imp (pgs_cons h1 h2 hs) fun v σ H Q ⟨po, env, pt, d, env', R, w, r, e, k⟩ => by
    cases r with
    | nil => cases e
    | cons r l =>
      obtain ⟨env1, e1, e2⟩ := Option.bind_eq_some_iff.mp (show (bindD ps t _ env).bind (bindL ps ts _) = some env' from e)
      refine ⟨_, _, rfl, ⟨po, env, pt, _, env1, R, w, r, e1, fun σ1 s1 m1 => ⟨po, env1, pt, _, env', R, m1 _ _ w, l, e2, fun σ2 s2 m2 => k σ2 ⟨s2.1.trans s1.1, fun i hi => ?_⟩ fun H' p' w' => m2 _ _ (m1 _ _ w')⟩⟩⟩
      have hi' : i ∉ t.slots ++ slotsL ts := hi
      rw [s2.2 i fun z => hi' (List.mem_append_right _ z), s1.2 i fun z => hi' (List.mem_append_left _ z)]
theorem bindL_len (ps : Option Nat) : ∀ (ts : List Tg) (ds : List Dt) (env : En) {env' : En}, bindL ps ts ds env = some env' → ts.length = ds.length
  | [], [], _, _, _ => rfl
  | t :: ts, d :: ds, env, env', h => by
    obtain ⟨env1, e1, e2⟩ := Option.bind_eq_some_iff.mp (show (bindD ps t d env).bind (bindL ps ts ds) = some env' from h)
    rw [List.length_cons, List.length_cons, bindL_len ps ts ds env1 e2]
  | [], _ :: _, _, _, h => by cases h
  | _ :: _, [], _, _, h => by cases h
theorem pg_or {t t' : TG} (h : PG X tg t) (h' : PG X tg t') : PG X tg (fun v σ H Q => t v σ H Q ∨ t' v σ H Q) := ⟨fun pins s σ H v u Q I r w => w.elim (h.run pins s σ H v u Q I r) (h'.run pins s σ H v u Q I r)⟩
theorem tg_tup {es : List Expr} {k : Nat} {ts : List Tg} (hc : X.calm = true) (h : PGs X es (TGs' X.K ps S ts)) (hn : (assignEach es X.env).length = ts.length) (hst : (assignEach es X.env).findIdx? (·.1) = none) : PG X (.Tuple es k pos) (TGt X.K ps S (.tp ts)) :=
  pg_imp (pg_or (pg_tup (n := ts.length) hc h hn hst) (pg_unl (n := ts.length) hc h hn hst)) fun v σ H Q ⟨po, env, pt, d, env', R, w, r, e, k⟩ => by
    cases d with
    | tuple ds =>
      have e' : bindL ps ts ds env = some env' := e
      cases r with
      | tup h l z => exact .inl ⟨_, _, rfl, w.sub.sqT h, by rw [l.len]; exact (bindL_len ps ts ds env e').symm, ⟨po, env, pt, ds, env', R, w, l, e', k⟩⟩
    | list ds =>
      have e' : bindL ps ts ds env = some env' := e
      cases r with
      | lst h l z => exact .inr ⟨_, _, rfl, w.sub.sqL h.sqL, by rw [l.len]; exact (bindL_len ps ts ds env e').symm, ⟨po, env, pt, ds, env', R, w, l, e', k⟩⟩
    | _ => cases e
end
end Ev

/-! Ev, part H: comprehensions. -/
namespace Ev
open PySem L2

def wipeD (env : En) : List Nat → En
  | [] => env
  | v :: vs => (wipeD env vs).set v none
theorem wipeD_len (env : En) : ∀ vs, (wipeD env vs).length = env.length
  | [] => rfl
  | v :: vs => by unfold wipeD; rw [List.length_set, wipeD_len env vs]
theorem wipeD_some {env : En} {i : Nat} {x : Dt} : ∀ {vs : List Nat}, (wipeD env vs)[i]? = some (some x) → env[i]? = some (some x) ∧ i ∉ vs
  | [], h => ⟨h, by simp⟩
  | v :: vs, h => by
    unfold wipeD at h
    by_cases z : v = i
    · subst z
      by_cases l : v < (wipeD env vs).length
      · rw [List.getElem?_set_self l] at h; cases h
      · rw [List.getElem?_eq_none (by rw [List.length_set]; omega)] at h; cases h
    · rw [List.getElem?_set_ne z] at h
      obtain ⟨h1, h2⟩ := wipeD_some h
      exact ⟨h1, fun m => (List.mem_cons.mp m).elim (fun e => z e.symm) h2⟩
def lcF (ps : Option Nat) (tg : Tg) (vs : List Nat) (cond elt : Dn) (env : En) : List Dt → Mo (List Dt)
  | [] => Mo.ret []
  | d :: ds => (Mo.ofO (bindD ps tg d (wipeD env vs))).bnd fun env' => (cond env').bnd fun c => match c with
    | .bool true => (elt env').bnd fun y => (lcF ps tg vs cond elt env ds).bnd fun ys => Mo.ret (y :: ys)
    | .bool false => lcF ps tg vs cond elt env ds
    | _ => Mo.fail
def dLc (ps : Option Nat) (src : Sr) (tg : Tg) (vs : List Nat) (cond elt : Dn) : Dn := fun env => (src env).bnd fun ds =>
  if ds.length ≤ sizeLine then (lcF ps tg vs cond elt env ds).bnd fun ys => Mo.ret (.list ys) else Mo.fail
theorem same_wipe {vs L : List Nat} (hv : ∀ i ∈ L, i ∈ vs) {σ σ' : L2.St} (h : Same L σ σ') : wipe σ' vs = wipe σ vs := by
  apply List.ext_getElem?
  intro i
  by_cases hi : i ∈ vs
  · by_cases hl : i < σ.length
    · have e1 : (wipe σ vs)[i]? = some none := by
        cases q : (wipe σ vs)[i]? with
        | none => rw [List.getElem?_eq_none_iff, wipe_length] at q; omega
        | some o =>
          cases o with
          | none => rfl
          | some x => exact absurd hi (wipe_some q).2
      have e2 : (wipe σ' vs)[i]? = some none := by
        cases q : (wipe σ' vs)[i]? with
        | none => rw [List.getElem?_eq_none_iff, wipe_length, h.1] at q; omega
        | some o =>
          cases o with
          | none => rfl
          | some x => exact absurd hi (wipe_some q).2
      rw [e1, e2]
    · rw [List.getElem?_eq_none (by rw [wipe_length, h.1]; omega), List.getElem?_eq_none (by rw [wipe_length]; omega)]
  · rw [wipe_out hi, wipe_out hi, h.2 i fun m => hi (hv i m)]
section
variable {K : PySem.W.Frag} {ps : Option Nat} {S vs : List Nat} {cond elt : Dn} {tg : Tg} {src : Sr}
theorem Wd.wipe {po : Option Addr} {σ : L2.St} {env : En} {pt : Pt} {R H : Hp} (hp : ∀ i, ps = some i → i ∉ vs) (w : Wd K ps S po σ env pt R H) : Wd K ps (vs ++ S) po (L2.wipe σ vs) (wipeD env vs) pt R H := by
  refine ⟨w.sub, w.pot, w.pof, fun i e => ?_, fun i d e => ?_, by rw [wipe_length, wipeD_len]; exact w.len⟩
  · obtain ⟨p, h1, h2⟩ := w.pos i e
    exact ⟨p, h1, by rw [wipe_out (hp i e)]; exact h2⟩
  · obtain ⟨h1, h2⟩ := wipeD_some e
    obtain ⟨v, h3, h4, h5⟩ := w.sl i d h1
    exact ⟨v, by rw [wipe_out h2]; exact h3, h4, fun m => h5 ((List.mem_append.mp m).resolve_left h2)⟩
theorem lcF_cons {env : En} {d : Dt} {ds ys : List Dt} {pt pt' : Pt} (h : lcF ps tg vs cond elt env (d :: ds) pt = some (ys, pt')) : ∃ env' c p1, bindD ps tg d (wipeD env vs) = some env' ∧ cond env' pt = some (.bool c, p1) ∧
    ((c = true ∧ ∃ y p2 zs, elt env' p1 = some (y, p2) ∧ lcF ps tg vs cond elt env ds p2 = some (zs, pt') ∧ ys = y :: zs) ∨ (c = false ∧ lcF ps tg vs cond elt env ds p1 = some (ys, pt'))) := by
  unfold lcF at h
  obtain ⟨env', p0, e0, h1⟩ := Mo.bnd_some h
  obtain ⟨e5, e0'⟩ := Mo.ofO_some e0
  subst e0'
  obtain ⟨c, p1, e1, h2⟩ := Mo.bnd_some h1
  split at h2
  · obtain ⟨y, p2, e2, h3⟩ := Mo.bnd_some h2
    obtain ⟨zs, p3, e3, h9⟩ := Mo.bnd_some h3
    cases h9
    exact ⟨env', true, p1, e5, e1, .inl ⟨rfl, y, p2, zs, e2, e3, rfl⟩⟩
  · exact ⟨env', false, p1, e5, e1, .inr ⟨rfl, h2⟩⟩
  · cases h2
theorem lc_ok (hp : ∀ i, ps = some i → i ∉ vs) (hv : ∀ i ∈ tg.slots, i ∈ vs) {σ H Q} (q : TF K ps S (dLc ps src tg vs cond elt) σ H Q) :
    tLc (TSr K ps S KC src) (TGt K ps (vs ++ S) tg) (TT' K ps (vs ++ S) cond) (TD K ps (vs ++ S) elt) vs σ H Q := by
  obtain ⟨po, env, pt, d, pt', R0, w, q, k⟩ := q
  obtain ⟨ds, p0, e0, q⟩ := Mo.bnd_some q
  refine ⟨po, env, pt, ds, p0, R0, w, e0, fun J R1 H1 x1 q1 gs D hD => ?_⟩
  split at q
  · rename_i hz
    obtain ⟨ys, p9, e9, q⟩ := Mo.bnd_some q
    cases q
    have w1 := w.up x1 q1
    have hpo : ∀ p, po = some p → p ≠ D := fun p e z => by
      have := q1 p e
      rw [z, hD] at this
      cases this
    have hRD : ∀ {R' H'}, Ext po R1 H1 R' H' → True := fun _ => trivial
    refine ⟨fun i m H => m = ds.length - i ∧ i ≤ ds.length ∧ ∃ R p av ad rest, Ext po R1 H1 R H ∧ PotAt po H p ∧ H D = some (.lst av) ∧ R D = none ∧ RpL K R av ad ∧ ad.length ≤ i ∧ lcF ps tg vs cond elt env (ds.drop i) p = some (rest, pt') ∧ ad ++ rest = ys, ⟨ds.length, rfl, Nat.zero_le _, ?_⟩, ?_⟩
    · refine ⟨R1, p0, [], [], ys, .side x1.s hD, fun p e => by rw [upd_ne (hpo p e)]; exact q1 p e, upd_same, ?_, .nil, Nat.le_refl _, e9, rfl⟩
      cases z : R1 D with
      | none => rfl
      | some o => rw [x1.s D o z] at hD; cases hD
    · rintro i m H ⟨rfl, hi, R, p, av, ad, rest, x, qp, hH, hR, ra, la, er, ey⟩
      by_cases hlt : i < ds.length
      · refine .inr ?_
        have hd : ds[i]? = some ds[i] := List.getElem?_eq_getElem hlt
        obtain ⟨go, yl⟩ := (gs i R H x).1 _ hd
        refine ⟨go, fun H => i + 1 ≤ ds.length ∧ ∃ R p av ad rest, Ext po R1 H1 R H ∧ PotAt po H p ∧ H D = some (.lst av) ∧ R D = none ∧ RpL K R av ad ∧ ad.length ≤ i + 1 ∧ lcF ps tg vs cond elt env (ds.drop (i + 1)) p = some (rest, pt') ∧ ad ++ rest = ys,
          fun H' h => ⟨ds.length - (i + 1), by omega, rfl, h.1, h.2⟩, fun v H2 hy => ?_⟩
        obtain ⟨R2, x2, rv⟩ := yl v H2 hy
        have x12 := x.trans (x2.none (po := po))
        have q2 : PotAt po H2 p := qp.keep x2
        rw [List.drop_eq_getElem_cons hlt] at er
        obtain ⟨env', c, p1, eb, ec, er⟩ := lcF_cons er
        have w2 : Wd K ps (vs ++ S) po (wipe σ vs) (wipeD env vs) p R2 H2 := (w1.up x12 q2).wipe hp
        refine ⟨po, wipeD env vs, p, _, env', R2, w2, rv, eb, fun σ' sm mp => ?_⟩
        have w3 := mp _ _ w2
        refine ⟨?_, ?_⟩
        · have e1 := same_wipe hv sm
          rw [e1]
          have idem : ∀ (σ : L2.St), wipe (wipe σ vs) vs = wipe σ vs := fun σ => by
            apply List.ext_getElem?
            intro j
            by_cases hj : j ∈ vs
            · by_cases hl : j < σ.length
              · have f : ∀ τ : L2.St, τ.length = σ.length → (wipe τ vs)[j]? = some none := fun τ ht => by
                  cases q : (wipe τ vs)[j]? with
                  | none => rw [List.getElem?_eq_none_iff, wipe_length] at q; omega
                  | some o =>
                    cases o with
                    | none => rfl
                    | some x => exact absurd hj (wipe_some q).2
                rw [f _ (wipe_length _ _), f _ rfl]
              · rw [List.getElem?_eq_none (by rw [wipe_length, wipe_length]; omega), List.getElem?_eq_none (by rw [wipe_length]; omega)]
            · rw [wipe_out hj]
          exact idem σ
        · refine ⟨po, env', p, c, p1, R2, w3, ec, fun R3 H3 x3 q3 => ?_⟩
          have x13 := x12.trans x3
          have hD3 : H3 D = some (.lst av) := x3.k D _ (x2.k D _ hH fun z => nomatch z) fun z => hpo D z rfl
          have stay : ∀ {R4 H4}, Ext po R H R4 H4 → R4 D = none := fun {R4 H4} x4 => by
            cases z : R4 D with
            | none => rfl
            | some o =>
              exfalso
              rcases x4.f D (by rw [z]; exact fun y => nomatch y) with y | y
              · exact y hR
              · rw [hH] at y; cases y
          rcases er with ⟨rfl, y, p2, zs, ee, er, ez⟩ | ⟨rfl, er⟩
          · dsimp only
            rw [if_pos rfl]
            refine ⟨po, env', p1, y, p2, R3, w3.up x3 q3, ee, fun u R4 H4 x4 q4 ru => ?_⟩
            have xa := ((x2.none (po := po)).trans x3).trans x4
            have hD4 : H4 D = some (.lst av) := x4.k D _ hD3 fun z => hpo D z rfl
            have hR4 := stay xa
            have x14 := x13.trans x4
            refine ⟨av, hD4, Nat.lt_of_lt_of_le (by rw [ra.len]; omega) hz, hlt, R4, p2, av ++ [u], ad ++ [y], zs, ?_, ?_, upd_same, hR4, (ra.up xa.r).app (.cons ru .nil), by rw [List.length_append, List.length_singleton]; omega, er, ?_⟩
            · refine ⟨x14.r, fun a o e => ?_, fun a o e n => ?_, fun a e => ?_, x14.f⟩
              · rw [upd_ne fun z => by rw [z, hR4] at e; cases e]; exact x14.s a o e
              · rw [upd_ne fun z => by rw [z, hD] at e; cases e]; exact x14.k a o e n
              · by_cases z : a = D
                · subst z; exact hD
                · rw [upd_ne z] at e; exact x14.d a e
            · intro p' e
              rw [upd_ne (hpo p' e)]
              exact q4 p' e
            · subst ey ez
              simp
          · dsimp only
            rw [if_neg Bool.false_ne_true]
            exact ⟨hlt, R3, p1, av, ad, rest, x13, q3, hD3, stay ((x2.none (po := po)).trans x3), ra.up ((x2.none (po := po)).trans x3).r, by omega, er, ey⟩
      · have e : i = ds.length := by omega
        subst e
        refine .inl ⟨(gs _ R H x).2 rfl, ?_⟩
        rw [List.drop_length] at er
        cases er
        rw [List.append_nil] at ey
        subst ey
        exact k _ R H (x1.trans x) qp (.inl ⟨D, rfl, x1.d D hD, hR, .inl ⟨av, ad, rfl, hH, ra, by omega⟩⟩)
  · cases q
/-! two clauses -/
def lc2F (ps : Option Nat) (tg : Tg) (vs : List Nat) (cond : Dn) (src1 : Sr) (tg1 : Tg) (vs1 : List Nat) (cond1 elt : Dn) (env : En) : List Dt → Mo (List Dt)
  | [] => Mo.ret []
  | d :: ds => (Mo.ofO (bindD ps tg d (wipeD env vs))).bnd fun env' => (cond env').bnd fun c => match c with
    | .bool true => (src1 env').bnd fun ds1 => (lcF ps tg1 vs1 cond1 elt env' ds1).bnd fun zs => (lc2F ps tg vs cond src1 tg1 vs1 cond1 elt env ds).bnd fun ys => Mo.ret (zs ++ ys)
    | .bool false => lc2F ps tg vs cond src1 tg1 vs1 cond1 elt env ds
    | _ => Mo.fail
def dLc2 (ps : Option Nat) (src : Sr) (tg : Tg) (vs : List Nat) (cond : Dn) (src1 : Sr) (tg1 : Tg) (vs1 : List Nat) (cond1 elt : Dn) : Dn := fun env => (src env).bnd fun ds =>
  (lc2F ps tg vs cond src1 tg1 vs1 cond1 elt env ds).bnd fun ys => if ys.length ≤ sizeLine then Mo.ret (.list ys) else Mo.fail
theorem lc2F_cons {src1 : Sr} {tg1 : Tg} {vs1 : List Nat} {cond1 : Dn} {env : En} {d : Dt} {ds ys : List Dt} {pt pt' : Pt} (h : lc2F ps tg vs cond src1 tg1 vs1 cond1 elt env (d :: ds) pt = some (ys, pt')) : ∃ env' c p1, bindD ps tg d (wipeD env vs) = some env' ∧ cond env' pt = some (.bool c, p1) ∧
    ((c = true ∧ ∃ ds1 p2 zs p3 us, src1 env' p1 = some (ds1, p2) ∧ lcF ps tg1 vs1 cond1 elt env' ds1 p2 = some (zs, p3) ∧ lc2F ps tg vs cond src1 tg1 vs1 cond1 elt env ds p3 = some (us, pt') ∧ ys = zs ++ us) ∨ (c = false ∧ lc2F ps tg vs cond src1 tg1 vs1 cond1 elt env ds p1 = some (ys, pt'))) := by
  unfold lc2F at h
  obtain ⟨env', p0, e0, h1⟩ := Mo.bnd_some h
  obtain ⟨e5, e0'⟩ := Mo.ofO_some e0
  subst e0'
  obtain ⟨c, p1, e1, h2⟩ := Mo.bnd_some h1
  split at h2
  · obtain ⟨y, p2, e2, h3⟩ := Mo.bnd_some h2
    obtain ⟨zs, p3, e3, h4⟩ := Mo.bnd_some h3
    obtain ⟨us, p4, e4, h9⟩ := Mo.bnd_some h4
    cases h9
    exact ⟨env', true, p1, e5, e1, .inl ⟨rfl, y, p2, zs, p3, us, e2, e3, e4, rfl⟩⟩
  · exact ⟨env', false, p1, e5, e1, .inr ⟨rfl, h2⟩⟩
  · cases h2
theorem wipe_idem (σ : L2.St) : wipe (wipe σ vs) vs = wipe σ vs := by
  apply List.ext_getElem?
  intro j
  by_cases hj : j ∈ vs
  · by_cases hl : j < σ.length
    · have f : ∀ τ : L2.St, τ.length = σ.length → (wipe τ vs)[j]? = some none := fun τ ht => by
        cases q : (wipe τ vs)[j]? with
        | none => rw [List.getElem?_eq_none_iff, wipe_length] at q; omega
        | some o =>
          cases o with
          | none => rfl
          | some x => exact absurd hj (wipe_some q).2
      rw [f _ (wipe_length _ _), f _ rfl]
    · rw [List.getElem?_eq_none (by rw [wipe_length, wipe_length]; omega), List.getElem?_eq_none (by rw [wipe_length]; omega)]
  · rw [wipe_out hj]
theorem delH_updE {H : Hp} {D : Addr} {o : HO} : delH (upd H D o) D = delH H D := by
  funext a
  by_cases z : a = D
  · subst z; rw [delH_same, delH_same]
  · rw [delH_ne z, delH_ne z, upd_ne z]
theorem Ext.del {po : Option Addr} {R H R' H' : Hp} {D : Addr} (x : Ext po R H R' H') (h : R' D = .none) : Ext po R (delH H D) R' (delH H' D) := by
  refine ⟨x.r, fun a o e => ?_, fun a o e n => ?_, fun a e => ?_, fun a e => ?_⟩
  · rw [delH_ne fun z => by rw [z, h] at e; cases e]; exact x.s a o e
  · by_cases z : a = D
    · subst z; rw [delH_same] at e; cases e
    · rw [delH_ne z] at e ⊢; exact x.k a o e n
  · by_cases z : a = D
    · subst z; exact delH_same
    · rw [delH_ne z] at e ⊢; exact x.d a e
  · rcases x.f a e with y | y
    · exact .inl y
    · by_cases z : a = D
      · subst z; exact .inr delH_same
      · rw [delH_ne z]; exact .inr y
theorem Ext.undel {po : Option Addr} {R H R' H' : Hp} {D : Addr} (x : Ext po R H R' (delH H' D)) : Ext po R H R' H' := by
  have sb : Sub (delH H' D) H' := fun a o e => by
    by_cases z : a = D
    · subst z; rw [delH_same] at e; cases e
    · rw [delH_ne z] at e; exact e
  refine ⟨x.r, x.s.trans sb, fun a o e n => sb a o (x.k a o e n), fun a e => x.d a ?_, x.f⟩
  by_cases z : a = D
  · subst z; exact delH_same
  · rw [delH_ne z]; exact e
/-- the world with the list so far at D -/
structure Acc (K : PySem.W.Frag) (po : Option Addr) (R1 H1 : Hp) (D : Addr) (ad : List Dt) (p : Pt) (R H : Hp) : Prop where
  x : Ext po R1 H1 R (delH H D)
  q : PotAt po H p
  h : ∃ av, H D = some (.lst av) ∧ RpL K R av ad
  r : R D = none
section
variable {po : Option Addr} {R1 H1 R H R' H' : Hp} {D : Addr} {ad : List Dt} {p p' : Pt}
theorem Acc.go (a : Acc K po R1 H1 D ad p R H) (hpo : po ≠ some D) (x : Ext po R H R' H') (q : PotAt po H' p') : Acc K po R1 H1 D ad p' R' H' := by
  obtain ⟨av, h1, h2⟩ := a.h
  have rn : R' D = .none := by
    cases z : R' D with
    | none => rfl
    | some o =>
      exfalso
      rcases x.f D (by rw [z]; exact fun y => nomatch y) with y | y
      · exact y a.r
      · rw [h1] at y; cases y
  exact ⟨a.x.trans (x.del rn), q, ⟨av, x.k D _ h1 hpo, h2.up x.r⟩, rn⟩
theorem Acc.push {av : List V} {u : V} {y : Dt} (a : Acc K po R1 H1 D ad p R H) (hpo : po ≠ some D) (h1 : H D = some (.lst av)) (ru : Rp K R u y) : Acc K po R1 H1 D (ad ++ [y]) p R (upd H D (.lst (av ++ [u]))) := by
  obtain ⟨av', h2, h3⟩ := a.h
  rw [h1] at h2
  cases h2
  refine ⟨by rw [delH_updE]; exact a.x, fun q e => ?_, ⟨_, upd_same, h3.app (.cons ru .nil)⟩, a.r⟩
  rw [upd_ne fun z => hpo (by rw [e, z])]
  exact a.q q e
theorem Acc.start (x : Ext po R1 H1 R' H1) (q : PotAt po H1 p) (hD : H1 D = none) (hpo : po ≠ some D) : Acc K po R1 H1 D [] p R' (upd H1 D (.lst [])) := by
  have rn : R' D = none := by
    cases z : R' D with
    | none => rfl
    | some o => rw [x.s D o z] at hD; cases hD
  refine ⟨?_, fun p e => by rw [upd_ne fun z => hpo (by rw [e, z])]; exact q p e, ⟨[], upd_same, .nil⟩, rn⟩
  rw [delH_updE]
  have : delH H1 D = H1 := by
    funext a
    by_cases z : a = D
    · subst z; rw [delH_same, hD]
    · rw [delH_ne z]
  rw [this]
  exact x
end
theorem lc2_ok {src1 : Sr} {tg1 : Tg} {vs1 : List Nat} {cond1 : Dn} (hp : ∀ i, ps = some i → i ∉ vs) (hv : ∀ i ∈ tg.slots, i ∈ vs) (hv1 : ∀ i ∈ tg1.slots, i ∈ vs1) (h1v : ∀ i ∈ vs1, i ∈ vs) {σ H Q} (q : TF K ps S (dLc2 ps src tg vs cond src1 tg1 vs1 cond1 elt) σ H Q) :
    tLc2 (TSr K ps S KC src) (TGt K ps (vs ++ S) tg) (TT' K ps (vs ++ S) cond) (TSr K ps (vs ++ S) KF src1) (TGt K ps (vs1 ++ (vs ++ S)) tg1) (TT' K ps (vs1 ++ (vs ++ S)) cond1) (TD K ps (vs1 ++ (vs ++ S)) elt) vs vs1 σ H Q := by
  obtain ⟨po, env, pt, d, pt', R0, w, q, k⟩ := q
  obtain ⟨ds, p0, e0, q⟩ := Mo.bnd_some q
  obtain ⟨ys, p9, e9, q9⟩ := Mo.bnd_some q
  refine ⟨po, env, pt, ds, p0, R0, w, e0, fun J R1 H1 x1 q1 gs D hD => ?_⟩
  split at q9
  · rename_i hz
    cases q9
    have w1 := w.up x1 q1
    have hpo : po ≠ some D := fun z => by
      have := q1 D z
      rw [hD] at this
      cases this
    refine ⟨fun i m H => m = ds.length - i ∧ i ≤ ds.length ∧ ∃ R p ad rest, Acc K po R1 H1 D ad p R H ∧ lc2F ps tg vs cond src1 tg1 vs1 cond1 elt env (ds.drop i) p = some (rest, pt') ∧ ad ++ rest = ys, ⟨ds.length, rfl, Nat.zero_le _, ?_⟩, ?_⟩
    · exact ⟨R1, p0, [], ys, .start (.refl x1.s) q1 hD hpo, e9, rfl⟩
    · rintro i m H ⟨rfl, hi, R, p, ad, rest, A, er, ey⟩
      by_cases hlt : i < ds.length
      · refine .inr ?_
        have hd : ds[i]? = some ds[i] := List.getElem?_eq_getElem hlt
        obtain ⟨go, yl⟩ := (gs i R H A.x.undel).1 _ hd
        refine ⟨go, fun H => i + 1 ≤ ds.length ∧ ∃ R p ad rest, Acc K po R1 H1 D ad p R H ∧ lc2F ps tg vs cond src1 tg1 vs1 cond1 elt env (ds.drop (i + 1)) p = some (rest, pt') ∧ ad ++ rest = ys,
          fun H' h => ⟨ds.length - (i + 1), by omega, rfl, h.1, h.2⟩, fun v H2 hy => ?_⟩
        obtain ⟨R2, x2, rv⟩ := yl v H2 hy
        have A2 := A.go hpo (x2.none (po := po)) (A.q.keep x2)
        rw [List.drop_eq_getElem_cons hlt] at er
        obtain ⟨env', c, p1, eb, ec, er⟩ := lc2F_cons er
        have pd : ∀ {H p}, PotAt po H p → PotAt po (delH H D) p := fun q p' e => by
          rw [delH_ne fun z => hpo (by rw [e, z])]
          exact q p' e
        have w2 : Wd K ps (vs ++ S) po (wipe σ vs) (wipeD env vs) p R2 H2 := (w1.up A2.x.undel A2.q).wipe hp
        have w2' : Wd K ps (vs ++ S) po (wipe σ vs) (wipeD env vs) p R2 (delH H2 D) := (w1.up A2.x (pd A2.q)).wipe hp
        refine ⟨po, wipeD env vs, p, _, env', R2, w2, rv, eb, fun σ' sm mp => ?_⟩
        have w3 := mp _ _ w2
        have w3' := mp _ _ w2'
        refine ⟨?_, ?_⟩
        · rw [same_wipe hv sm]
          exact wipe_idem σ
        · refine ⟨po, env', p, c, p1, R2, w3, ec, fun R3 H3 x3 q3 => ?_⟩
          have A3 := A2.go hpo x3 q3
          rcases er with ⟨rfl, ds1, p2, zs, p3, us, es, ez, erz, ee⟩ | ⟨rfl, er⟩
          · dsimp only
            rw [if_pos rfl]
            refine ⟨po, env', p1, ds1, p2, R3, w3.up x3 q3, es, fun J1 R4 H4 x4 q4 gs1 => ?_⟩
            have A4 := A3.go hpo x4 q4
            have w4' : Wd K ps (vs ++ S) po σ' env' p2 R4 (delH H4 D) := (w3'.up (x3.del A3.r) (pd q3)).up (x4.del A4.r) (pd q4)
            subst ee
            refine ⟨fun j k H => k = ds1.length - j ∧ j ≤ ds1.length ∧ ∃ R p ad' rest', Acc K po R4 (delH H4 D) D ad' p R H ∧ lcF ps tg1 vs1 cond1 elt env' (ds1.drop j) p = some (rest', p3) ∧ ad' ++ rest' = ad ++ zs,
              ⟨ds1.length, rfl, Nat.zero_le _, R4, p2, ad, zs, ⟨.refl w4'.sub, q4, A4.h, A4.r⟩, ez, rfl⟩, ?_⟩
            rintro j m H ⟨rfl, hj, R, p, ad', rest', B, er1, ey1⟩
            by_cases hlt1 : j < ds1.length
            · refine .inr ?_
              have hd1 : ds1[j]? = some ds1[j] := List.getElem?_eq_getElem hlt1
              obtain ⟨go1, yl1⟩ := (gs1 j R H ⟨B.x.r, B.x.undel.s⟩).1 _ hd1
              refine ⟨go1, fun H => j + 1 ≤ ds1.length ∧ ∃ R p ad' rest', Acc K po R4 (delH H4 D) D ad' p R H ∧ lcF ps tg1 vs1 cond1 elt env' (ds1.drop (j + 1)) p = some (rest', p3) ∧ ad' ++ rest' = ad ++ zs,
                fun H' h => ⟨ds1.length - (j + 1), by omega, rfl, h.1, h.2⟩, fun v1 H5 hy1 => ?_⟩
              obtain ⟨R5, x5, rv1⟩ := yl1 v1 H5 hy1
              have B5 := B.go hpo (x5.none (po := po)) (B.q.keep x5)
              rw [List.drop_eq_getElem_cons hlt1] at er1
              obtain ⟨env1, c1, p5, eb1, ec1, er1⟩ := lcF_cons er1
              have hp1 : ∀ i, ps = some i → i ∉ vs1 := fun i e m => hp i e (h1v i m)
              have undel : ∀ {S : List Nat} {σ : L2.St} {env : En} {p : Pt} {R H : Hp}, PotAt po H p → Wd K ps S po σ env p R (delH H D) → Wd K ps S po σ env p R H := fun {S σ env p R H} q w => by
                have sb : Sub (delH H D) H := fun a o e => by
                  by_cases z : a = D
                  · subst z; rw [delH_same] at e; cases e
                  · rw [delH_ne z] at e; exact e
                refine ⟨w.sub.trans sb, q, w.pof, w.pos, fun i d e => ?_, w.len⟩
                obtain ⟨v, h1, h2, h3⟩ := w.sl i d e
                refine ⟨v, h1, ?_, h3⟩
                rcases h2 with h | ⟨a, ea, n, ⟨xs, ds, ed, h, r⟩ | ⟨xs, ds, ed, h, r⟩ | ⟨xs, ds, ed, h, r⟩⟩
                · exact .inl h
                · exact .inr ⟨a, ea, n, .inl ⟨xs, ds, ed, sb _ _ h, r⟩⟩
                · exact .inr ⟨a, ea, n, .inr (.inl ⟨xs, ds, ed, sb _ _ h, r⟩)⟩
                · exact .inr ⟨a, ea, n, .inr (.inr ⟨xs, ds, ed, sb _ _ h, r⟩)⟩
              have w5 := undel B5.q ((w4'.up B5.x (pd B5.q)).wipe hp1)
              refine ⟨po, wipeD env' vs1, p, _, env1, R5, w5, rv1, eb1, fun σ3 sm1 mp1 => ?_⟩
              have w6 := mp1 _ _ w5
              refine ⟨?_, ?_⟩
              · rw [same_wipe hv1 sm1]
                exact wipe_idem σ'
              · refine ⟨po, env1, p, c1, p5, R5, w6, ec1, fun R6 H6 x6 q6 => ?_⟩
                have B6 := B5.go hpo x6 q6
                rcases er1 with ⟨rfl, y, p7, zs', ee, er1, ez'⟩ | ⟨rfl, er1⟩
                · dsimp only
                  rw [if_pos rfl]
                  refine ⟨po, env1, p5, y, p7, R6, w6.up x6 q6, ee, fun u R7 H7 x7 q7 ru => ?_⟩
                  have B7 := B6.go hpo x7 q7
                  obtain ⟨av, hav, rav⟩ := B7.h
                  refine ⟨av, hav, ?_, hlt1, R7, p7, ad' ++ [y], zs', B7.push hpo hav ru, er1, ?_⟩
                  · subst ez'
                    have l1 : (ad' ++ y :: zs').length = (ad ++ zs).length := by rw [ey1]
                    rw [← ey] at hz
                    rw [rav.len]
                    simp only [List.length_append, List.length_cons] at l1 hz ⊢
                    omega
                  · subst ez'
                    rw [← ey1]
                    simp
                · dsimp only
                  rw [if_neg Bool.false_ne_true]
                  exact ⟨hlt1, R6, p5, ad', rest', B6, er1, ey1⟩
            · have e : j = ds1.length := by omega
              subst e
              refine .inl ⟨(gs1 _ R H ⟨B.x.r, B.x.undel.s⟩).2 rfl, ?_⟩
              rw [List.drop_length] at er1
              cases er1
              rw [List.append_nil] at ey1
              subst ey1
              exact ⟨hlt, R, _, ad ++ zs, us, ⟨A4.x.trans B.x, B.q, B.h, B.r⟩, erz, by rw [← ey]; simp⟩
          · dsimp only
            rw [if_neg Bool.false_ne_true]
            exact ⟨hlt, R3, p1, ad, rest, A3, er, ey⟩
      · have e : i = ds.length := by omega
        subst e
        refine .inl ⟨(gs _ R H A.x.undel).2 rfl, ?_⟩
        rw [List.drop_length] at er
        cases er
        rw [List.append_nil] at ey
        subst ey
        obtain ⟨av, h1, h2⟩ := A.h
        exact k _ R H (x1.trans A.x.undel) A.q (.inl ⟨D, rfl, x1.d D hD, A.r, .inl ⟨av, ad, rfl, h1, h2, hz⟩⟩)
  · cases q9
end
/-! ### the judgements -/
section
variable {X : Cx} {ps : Option Nat} {S : List Nat} {cond cond1 elt : Dn} {t t1 : Tg} {src src1 : Sr} {e tg iter tg1 iter1 c : Expr} {ifs ifs1 : List Expr} {scope : Scope} {own : List (Str × Nat)} {vs1 : List Nat} {pos : Pos}
theorem pts_imp {es : List Expr} {t t' : TT} (h : PTs X es t) (i : ∀ σ H Q, t' σ H Q → t σ H Q) : PTs X es t' := ⟨fun pins s σ H Q I w => h.run pins s σ H Q I (i σ H Q w)⟩
theorem dts_nil : PTs X [] (TT' X.K ps S (dLit (.bool true))) := pts_imp pts_nil fun σ H Q ⟨po, env, pt, b, pt', R, w, q, k⟩ => by
  cases q
  exact k R H (.refl w.sub) w.pot
theorem dts_one (h : PT X c (TT' X.K ps S cond)) : PTs X [c] (TT' X.K ps S cond) := pts_one h
theorem de_lc (hc : X.calm = true) (hN : X.N.Nodup) (hp : ∀ i, ps = some i → i ∉ own.map (·.2)) (hv : ∀ i ∈ t.slots, i ∈ own.map (·.2)) (hi : PI X tg iter (TSr X.K ps S KC src)) (ok : BlkOk X.N X.env.scope scope own)
    (hg : ∀ (s : Shared) (H : Hp) (C : Addr) (cl : List (Str × Addr)) (fp : List Addr), PG (X.blk s H scope (compEnvC scope cl C X.env) fp) tg (TGt X.K ps (own.map (·.2) ++ S) t))
    (ht : ∀ (s : Shared) (H : Hp) (C : Addr) (cl : List (Str × Addr)) (fp : List Addr), PTs (X.blk s H scope (compEnvC scope cl C X.env) fp) ifs (TT' X.K ps (own.map (·.2) ++ S) cond))
    (he : ∀ (s : Shared) (H : Hp) (C : Addr) (cl : List (Str × Addr)) (fp : List Addr), PE (X.blk s H scope (compEnvC scope cl C X.env) fp) e (TD X.K ps (own.map (·.2) ++ S) elt)) (hs : ∀ x, foldedSetIterable iter X.env x = pure x) :
    PE X (.ListComp e [⟨tg, iter, ifs, 0⟩] scope pos) (TF X.K ps S (dLc ps src t (own.map (·.2)) cond elt)) := pe_imp (pe_lc hc hN hi ok hg ht he hs) fun _ _ _ => lc_ok hp hv
theorem de_lc2 (hc : X.calm = true) (hN : X.N.Nodup) (hp : ∀ i, ps = some i → i ∉ own.map (·.2)) (hv : ∀ i ∈ t.slots, i ∈ own.map (·.2)) (hv1 : ∀ i ∈ t1.slots, i ∈ vs1) (h1v : ∀ i ∈ vs1, i ∈ own.map (·.2)) (hi : PI X tg iter (TSr X.K ps S KC src)) (ok : BlkOk X.N X.env.scope scope own)
    (hg : ∀ (s : Shared) (H : Hp) (C : Addr) (cl : List (Str × Addr)) (fp : List Addr), PG (X.blk s H scope (compEnvC scope cl C X.env) fp) tg (TGt X.K ps (own.map (·.2) ++ S) t))
    (ht : ∀ (s : Shared) (H : Hp) (C : Addr) (cl : List (Str × Addr)) (fp : List Addr), PTs (X.blk s H scope (compEnvC scope cl C X.env) fp) ifs (TT' X.K ps (own.map (·.2) ++ S) cond))
    (hi1 : ∀ (s : Shared) (H : Hp) (C : Addr) (cl : List (Str × Addr)) (fp : List Addr), PI (X.blk s H scope (compEnvC scope cl C X.env) fp) tg1 iter1 (TSr X.K ps (own.map (·.2) ++ S) KF src1))
    (hg1 : ∀ (s : Shared) (H : Hp) (C : Addr) (cl : List (Str × Addr)) (fp : List Addr), PG (X.blk s H scope (compEnvC scope cl C X.env) fp) tg1 (TGt X.K ps (vs1 ++ (own.map (·.2) ++ S)) t1))
    (ht1 : ∀ (s : Shared) (H : Hp) (C : Addr) (cl : List (Str × Addr)) (fp : List Addr), PTs (X.blk s H scope (compEnvC scope cl C X.env) fp) ifs1 (TT' X.K ps (vs1 ++ (own.map (·.2) ++ S)) cond1))
    (he : ∀ (s : Shared) (H : Hp) (C : Addr) (cl : List (Str × Addr)) (fp : List Addr), PE (X.blk s H scope (compEnvC scope cl C X.env) fp) e (TD X.K ps (vs1 ++ (own.map (·.2) ++ S)) elt)) (hs : ∀ x, foldedSetIterable iter X.env x = pure x) (hs1 : ∀ env x, foldedSetIterable iter1 env x = pure x) :
    PE X (.ListComp e [⟨tg, iter, ifs, 0⟩, ⟨tg1, iter1, ifs1, 0⟩] scope pos) (TF X.K ps S (dLc2 ps src t (own.map (·.2)) cond src1 t1 vs1 cond1 elt)) := pe_imp (pe_lc2 hc hN hi ok h1v hg ht hi1 hg1 ht1 he hs hs1) fun _ _ _ => lc2_ok hp hv hv1 h1v
end
end Ev

/-! Ev, part I: the world of statements; the small statements. -/
namespace Ev
open PySem L2

/-- a slot: nothing known, a value that stands, a list or dict of one's own -/
inductive Sl where
  | no
  | sh (d : Dt)
  | ow (d : Dt)
abbrev SEn := List Sl
def Sl.view : Sl → Option Dt
  | .no => none
  | .sh d => some d
  | .ow d => some d
def vw (E : SEn) : En := E.map Sl.view
/-- the slots whose things are to be handed on hold nothing of one's own -/
def ckS (S : List Nat) (E : SEn) : Bool := S.all fun i => match E[i]? with
  | some (.ow _) => false
  | _ => true
def Cont (K : PySem.W.Frag) (R H : Hp) (a : Addr) (d : Dt) : Prop :=
  (∃ xs ds, d = .list ds ∧ H a = some (.lst xs) ∧ RpL K R xs ds ∧ ds.length ≤ sizeLine) ∨ (∃ kvs ds, d = .dict ds ∧ H a = some (.dK kvs) ∧ RpK K R kvs ds) ∨ (∃ kvs ds, d = .dict ds ∧ H a = some (.dT kvs) ∧ RpT K R kvs ds)
theorem Cont.up {K : PySem.W.Frag} {R H R' H' : Hp} {a : Addr} {d : Dt} (r : Sub R R') (k : ∀ o, H a = some o → H' a = some o) : Cont K R H a d → Cont K R' H' a d
  | .inl ⟨xs, ds, e, h, l, z⟩ => .inl ⟨xs, ds, e, k _ h, l.up r, z⟩
  | .inr (.inl ⟨xs, ds, e, h, l⟩) => .inr (.inl ⟨xs, ds, e, k _ h, l.up r⟩)
  | .inr (.inr ⟨xs, ds, e, h, l⟩) => .inr (.inr ⟨xs, ds, e, k _ h, l.up r⟩)
theorem Cont.there {K : PySem.W.Frag} {R H : Hp} {a : Addr} {d : Dt} : Cont K R H a d → H a ≠ none
  | .inl ⟨_, _, _, h, _⟩ => by rw [h]; exact fun z => nomatch z
  | .inr (.inl ⟨_, _, _, h, _⟩) => by rw [h]; exact fun z => nomatch z
  | .inr (.inr ⟨_, _, _, h, _⟩) => by rw [h]; exact fun z => nomatch z
theorem Cont.shal {K : PySem.W.Frag} {po : Option Addr} {R H : Hp} {a : Addr} {d : Dt} (n : po ≠ some a) (c : Cont K R H a d) : Shal K po R H (.ref a) d := .inr ⟨a, rfl, n, c⟩
structure Own (K : PySem.W.Frag) (po : Option Addr) (H0 R H : Hp) (v : V) (d : Dt) (a : Addr) : Prop where
  e : v = .ref a
  n : po ≠ some a
  h0 : H0 a = none
  r : R a = none
  c : Cont K R H a d
structure Ws (K : PySem.W.Frag) (ps : Option Nat) (po : Option Addr) (R0 H0 : Hp) (σ : L2.St) (E : SEn) (pt : Pt) (R H : Hp) : Prop where
  ext : Ext po R0 H0 R H
  pot : PotAt po H pt
  pof : ∀ p, po = some p → R p = none
  pos : ∀ i, ps = some i → ∃ p, po = some p ∧ σ[i]? = some (some (.ref p))
  len : σ.length = E.length
  sh : ∀ (i : Nat) (d : Dt), E[i]? = some (.sh d) → ∃ v, σ[i]? = some (some v) ∧ Rp K R v d
  ow : ∀ (i : Nat) (d : Dt), E[i]? = some (.ow d) → ∃ v a, σ[i]? = some (some v) ∧ Own K po H0 R H v d a
  ap : ∀ (i j : Nat) (d d' : Dt) (a : Addr), i ≠ j → E[i]? = some (.ow d) → E[j]? = some (.ow d') → σ[i]? = some (some (.ref a)) → σ[j]? ≠ some (some (.ref a))
  pn : ps = none → po = none
section
variable {K : PySem.W.Frag} {ps : Option Nat} {S : List Nat} {po : Option Addr} {σ : L2.St} {E : SEn} {pt pt' : Pt} {R0 H0 R H R' H' : Hp}
theorem vw_some {i : Nat} {d : Dt} (h : (vw E)[i]? = some (some d)) : E[i]? = some (.sh d) ∨ E[i]? = some (.ow d) := by
  unfold vw at h
  rw [List.getElem?_map] at h
  cases e : E[i]? with
  | none => rw [e] at h; cases h
  | some s =>
    rw [e] at h
    cases s with
    | no => cases h
    | sh d' => cases h; exact .inl rfl
    | ow d' => cases h; exact .inr rfl
theorem Ws.wd (w : Ws K ps po R0 H0 σ E pt R H) (c : ckS S E = true) : Wd K ps S po σ (vw E) pt R H := by
  refine ⟨w.ext.s, w.pot, w.pof, w.pos, fun i d e => ?_, by rw [w.len]; unfold vw; rw [List.length_map]⟩
  rcases vw_some e with e | e
  · obtain ⟨v, h1, h2⟩ := w.sh i d e
    exact ⟨v, h1, .inl h2, fun _ => h2⟩
  · obtain ⟨v, a, h1, h2⟩ := w.ow i d e
    refine ⟨v, h1, by rw [h2.e]; exact h2.c.shal h2.n, fun m => ?_⟩
    have q := List.all_eq_true.mp c i m
    rw [e] at q
    cases q
theorem Ws.up (w : Ws K ps po R0 H0 σ E pt R H) (x : Ext po R H R' H') (p : PotAt po H' pt') : Ws K ps po R0 H0 σ E pt' R' H' := by
  have keepR : ∀ a, H a ≠ none → R a = none → R' a = none := fun a h r => by
    cases z : R' a with
    | none => rfl
    | some o =>
      exfalso
      rcases x.f a (by rw [z]; exact fun y => nomatch y) with y | y
      · exact y r
      · exact h y
  refine ⟨w.ext.trans x, p, fun q e => keepR q (by rw [w.pot q e]; exact fun z => nomatch z) (w.pof q e), w.pos, w.len, fun i d e => ?_, fun i d e => ?_, w.ap, w.pn⟩
  · obtain ⟨v, h1, h2⟩ := w.sh i d e
    exact ⟨v, h1, h2.up x.r⟩
  · obtain ⟨v, a, h1, h2⟩ := w.ow i d e
    exact ⟨v, a, h1, h2.e, h2.n, h2.h0, keepR a h2.c.there h2.r, h2.c.up x.r fun o z => x.k a o z h2.n⟩
/-- a value that stands, at slot i -/
theorem Ws.putS {i : Nat} {v : V} {d : Dt} (w : Ws K ps po R0 H0 σ E pt R H) (r : Rp K R v d) (hi : i < E.length) (hp : ps ≠ some i) : Ws K ps po R0 H0 (σ.set i (some v)) (E.set i (.sh d)) pt R H := by
  have ow' : ∀ (j : Nat) (d' : Dt), (E.set i (.sh d))[j]? = some (.ow d') → i ≠ j ∧ E[j]? = some (.ow d') := fun j d' e => by
    by_cases z : i = j
    · subst z; rw [List.getElem?_set_self hi] at e; cases e
    · rw [List.getElem?_set_ne z] at e; exact ⟨z, e⟩
  refine ⟨w.ext, w.pot, w.pof, fun j e => ?_, by rw [List.length_set, List.length_set]; exact w.len, fun j d' e => ?_, fun j d' e => ?_, fun j k d1 d2 a n e1 e2 h1 => ?_, w.pn⟩
  · obtain ⟨p, h1, h2⟩ := w.pos j e
    exact ⟨p, h1, by rw [List.getElem?_set_ne fun z => hp (by rw [z]; exact e)]; exact h2⟩
  · by_cases z : i = j
    · subst z
      rw [List.getElem?_set_self hi] at e
      cases e
      exact ⟨v, by rw [List.getElem?_set_self (by rw [w.len]; exact hi)], r⟩
    · rw [List.getElem?_set_ne z] at e ⊢
      exact w.sh j d' e
  · obtain ⟨z, e⟩ := ow' j d' e
    rw [List.getElem?_set_ne z]
    exact w.ow j d' e
  · obtain ⟨z1, e1⟩ := ow' j d1 e1
    obtain ⟨z2, e2⟩ := ow' k d2 e2
    rw [List.getElem?_set_ne z1] at h1
    rw [List.getElem?_set_ne z2]
    exact w.ap j k d1 d2 a n e1 e2 h1
/-- what slot i is, when a value is put there -/
def slN (d : Dt) : Sl := if Still d = true then .sh d else .ow d
/-- a new value, at slot i: H1 the heap ahead of it -/
theorem Ws.putN {i : Nat} {v : V} {d : Dt} {R1 H1 : Hp} (w1 : Ws K ps po R0 H0 σ E pt' R1 H1) (w : Ws K ps po R0 H0 σ E pt R H) (r : Nw K H1 R H v d) (hi : i < E.length) (hp : ps ≠ some i) : Ws K ps po R0 H0 (σ.set i (some v)) (E.set i (slN d)) pt R H := by
  rcases r with ⟨a, rfl, n1, r1, c⟩ | ⟨f, r⟩
  · have nf : slN d = .ow d := by
      unfold slN
      rcases c with ⟨_, _, rfl, _⟩ | ⟨_, _, rfl, _⟩ | ⟨_, _, rfl, _⟩ <;> rfl
    rw [nf]
    have npo : po ≠ some a := fun z => by
      have := w1.pot a z
      rw [n1] at this
      cases this
    have old : ∀ (j : Nat) (d' : Dt), E[j]? = some (.ow d') → σ[j]? ≠ some (some (.ref a)) := fun j d' e q => by
      obtain ⟨v', a', h1, h2⟩ := w1.ow j d' e
      rw [q] at h1
      cases h1
      have := h2.e
      cases this
      exact h2.c.there n1
    refine ⟨w.ext, w.pot, w.pof, fun j e => ?_, by rw [List.length_set, List.length_set]; exact w.len, fun j d' e => ?_, fun j d' e => ?_, fun j k d1 d2 b n e1 e2 h1 => ?_, w.pn⟩
    · obtain ⟨p, h1, h2⟩ := w.pos j e
      exact ⟨p, h1, by rw [List.getElem?_set_ne fun z => hp (by rw [z]; exact e)]; exact h2⟩
    · by_cases z : i = j
      · subst z; rw [List.getElem?_set_self hi] at e; cases e
      · rw [List.getElem?_set_ne z] at e ⊢
        exact w.sh j d' e
    · by_cases z : i = j
      · subst z
        rw [List.getElem?_set_self hi] at e
        cases e
        exact ⟨.ref a, a, by rw [List.getElem?_set_self (by rw [w.len]; exact hi)], rfl, npo, w1.ext.d a n1, r1, c⟩
      · rw [List.getElem?_set_ne z] at e ⊢
        exact w.ow j d' e
    · by_cases z1 : i = j
      · subst z1
        rw [List.getElem?_set_self (by rw [w.len]; exact hi)] at h1
        cases h1
        rw [List.getElem?_set_ne n] at e2 ⊢
        exact old k d2 e2
      · rw [List.getElem?_set_ne z1] at e1 h1
        by_cases z2 : i = k
        · subst z2
          rw [List.getElem?_set_self (by rw [w.len]; exact hi)]
          intro q
          cases q
          exact old j d1 e1 h1
        · rw [List.getElem?_set_ne z2] at e2 ⊢
          exact w.ap j k d1 d2 b n e1 e2 h1
  · have nf : slN d = .sh d := by unfold slN; rw [if_pos f]
    rw [nf]
    exact w.putS r hi hp
/-- slot i given up: its thing stands from now on -/
theorem Ws.frz {i : Nat} {d : Dt} (w : Ws K ps po R0 H0 σ E pt R H) (e : E[i]? = some (.ow d)) : ∃ R', Ws K ps po R0 H0 σ (E.set i (.sh d)) pt R' H ∧ Sub R R' := by
  obtain ⟨v, a, h1, o⟩ := w.ow i d e
  have ev := o.e
  subst ev
  have hi : i < E.length := (List.getElem?_eq_some_iff.mp e).1
  obtain ⟨ob, hob, r⟩ : ∃ ob, H a = some ob ∧ (∀ R', Sub R R' → R' a = some ob → Rp K R' (.ref a) d) := by
    rcases o.c with ⟨xs, ds, rfl, h, l, z⟩ | ⟨xs, ds, rfl, h, l⟩ | ⟨xs, ds, rfl, h, l⟩
    · exact ⟨_, h, fun R' s q => .lst (.of q) (l.up s) z⟩
    · exact ⟨_, h, fun R' s q => .dK q (l.up s)⟩
    · exact ⟨_, h, fun R' s q => .dT q (l.up s)⟩
  have sR : Sub R (upd R a ob) := fun b u q => by
    rw [upd_ne fun z => by rw [z, o.r] at q; cases q]
    exact q
  refine ⟨upd R a ob, ?_, sR⟩
  refine ⟨⟨w.ext.r.trans sR, fun b u q => ?_, w.ext.k, w.ext.d, fun b q => ?_⟩, w.pot, fun p q => ?_, w.pos, by rw [List.length_set]; exact w.len, fun j d' q => ?_, fun j d' q => ?_, fun j k d1 d2 b n e1 e2 h3 => ?_, w.pn⟩
  · by_cases z : b = a
    · subst z; rw [upd_same] at q; cases q; exact hob
    · rw [upd_ne z] at q; exact w.ext.s b u q
  · by_cases z : b = a
    · subst z; exact .inr o.h0
    · rw [upd_ne z] at q; exact w.ext.f b q
  · rw [upd_ne fun z => o.n (by rw [← z]; exact q)]
    exact w.pof p q
  · by_cases z : i = j
    · subst z
      rw [List.getElem?_set_self hi] at q
      cases q
      exact ⟨_, h1, r _ sR upd_same⟩
    · rw [List.getElem?_set_ne z] at q
      obtain ⟨v, h3, h4⟩ := w.sh j d' q
      exact ⟨v, h3, h4.up sR⟩
  · by_cases z : i = j
    · subst z
      rw [List.getElem?_set_self hi] at q
      cases q
    · rw [List.getElem?_set_ne z] at q
      obtain ⟨v, b, h3, h4⟩ := w.ow j d' q
      refine ⟨v, b, h3, h4.e, h4.n, h4.h0, ?_, h4.c.up sR fun _ q => q⟩
      rw [upd_ne fun y => w.ap i j d d' a z e q h1 (by rw [h3, h4.e, y])]
      exact h4.r
  · by_cases z1 : i = j
    · subst z1; rw [List.getElem?_set_self hi] at e1; cases e1
    · by_cases z2 : i = k
      · subst z2; rw [List.getElem?_set_self hi] at e2; cases e2
      · rw [List.getElem?_set_ne z1] at e1
        rw [List.getElem?_set_ne z2] at e2
        exact w.ap j k d1 d2 b n e1 e2 h3
def frzE (i : Nat) (E : SEn) : SEn := match E[i]? with
  | some (.ow d) => E.set i (.sh d)
  | _ => E
def frzL (l : List Nat) (E : SEn) : SEn := l.foldl (fun E i => frzE i E) E
theorem Ws.frzE {i : Nat} (w : Ws K ps po R0 H0 σ E pt R H) : ∃ R', Ws K ps po R0 H0 σ (Ev.frzE i E) pt R' H ∧ Sub R R' := by
  unfold Ev.frzE
  split
  · exact w.frz (by assumption)
  · exact ⟨R, w, Sub.refl R⟩
theorem Ws.frzL : ∀ (l : List Nat) {E : SEn} {R : Hp}, Ws K ps po R0 H0 σ E pt R H → ∃ R', Ws K ps po R0 H0 σ (Ev.frzL l E) pt R' H ∧ Sub R R'
  | [], _, R, w => ⟨R, w, Sub.refl R⟩
  | i :: l, E, R, w => by
    obtain ⟨R1, w1, s1⟩ := w.frzE (i := i)
    obtain ⟨R2, w2, s2⟩ := Ws.frzL l w1
    exact ⟨R2, w2, s1.trans s2⟩
/-- its own thing at slot i changed -/
theorem Ws.mut {i : Nat} {d d' : Dt} {a : Addr} {ob : HO} (w : Ws K ps po R0 H0 σ E pt R H) (e : E[i]? = some (.ow d)) (h1 : σ[i]? = some (some (.ref a))) (c : Cont K R (upd H a ob) a d') : Ws K ps po R0 H0 σ (E.set i (.ow d')) pt R (upd H a ob) := by
  obtain ⟨v, a', h2, o⟩ := w.ow i d e
  rw [h1] at h2
  cases h2
  have := o.e
  cases this
  have hi : i < E.length := (List.getElem?_eq_some_iff.mp e).1
  refine ⟨⟨w.ext.r, fun b u q => ?_, fun b u q n => ?_, fun b q => ?_, w.ext.f⟩, fun p q => ?_, w.pof, w.pos, by rw [List.length_set]; exact w.len, fun j d1 q => ?_, fun j d1 q => ?_, fun j k d1 d2 b n e1 e2 h3 => ?_, w.pn⟩
  · rw [upd_ne fun z => by rw [z, o.r] at q; cases q]; exact w.ext.s b u q
  · rw [upd_ne fun z => by rw [z, o.h0] at q; cases q]; exact w.ext.k b u q n
  · by_cases z : b = a
    · subst z; exact o.h0
    · rw [upd_ne z] at q; exact w.ext.d b q
  · rw [upd_ne fun z => o.n (by rw [← z]; exact q)]; exact w.pot p q
  · by_cases z : i = j
    · subst z; rw [List.getElem?_set_self hi] at q; cases q
    · rw [List.getElem?_set_ne z] at q; exact w.sh j d1 q
  · by_cases z : i = j
    · subst z
      rw [List.getElem?_set_self hi] at q
      cases q
      exact ⟨_, a, h1, rfl, o.n, o.h0, o.r, c⟩
    · rw [List.getElem?_set_ne z] at q
      obtain ⟨v, b, h3, h4⟩ := w.ow j d1 q
      exact ⟨v, b, h3, h4.e, h4.n, h4.h0, h4.r, h4.c.up (Sub.refl R) fun u y => by
        rw [upd_ne fun y' => w.ap i j d d1 a z e q h1 (by rw [h3, h4.e, y'])]; exact y⟩
  · have back : ∀ {j : Nat} {d1 : Dt}, (E.set i (.ow d'))[j]? = some (.ow d1) → ∃ d2, E[j]? = some (.ow d2) := fun {j d1} q => by
      by_cases z : i = j
      · subst z; exact ⟨d, e⟩
      · rw [List.getElem?_set_ne z] at q; exact ⟨d1, q⟩
    obtain ⟨_, e1⟩ := back e1
    obtain ⟨_, e2⟩ := back e2
    exact w.ap j k _ _ b n e1 e2 h3
end

/-! ### statements -/
inductive Sg where
  | nx (E : SEn)
  | br (E : SEn)
  | ct (E : SEn)
  | rt (d : Dt)
abbrev Sn := SEn → Mo Sg
/-- what is owed behind r -/
def Due (K : PySem.W.Frag) (ps : Option Nat) (fr : Bool) (po : Option Addr) (R0 H0 R1 : Hp) (D : Ends) (r : Sg) (pt : Pt) : Prop :=
  match r with
  | .nx E => ∀ σ R H, Ws K ps po R0 H0 σ E pt R H → Sub R1 R → D.nx σ H
  | .br E => ∀ σ R H, Ws K ps po R0 H0 σ E pt R H → Sub R1 R → D.bk σ H
  | .ct E => ∀ σ R H, Ws K ps po R0 H0 σ E pt R H → Sub R1 R → D.ct σ H
  | .rt d => ∀ v R H, Ext po R0 H0 R H → PotAt po H pt → Out K fr H0 R H v d → D.rt v H
theorem Due.less {K : PySem.W.Frag} {ps : Option Nat} {fr : Bool} {po : Option Addr} {R0 H0 R1 R2 : Hp} {D : Ends} {r : Sg} {pt : Pt} (s : Sub R1 R2) (k : Due K ps fr po R0 H0 R1 D r pt) : Due K ps fr po R0 H0 R2 D r pt := by
  cases r with
  | nx E => exact fun σ R H w q => k σ R H w (s.trans q)
  | br E => exact fun σ R H w q => k σ R H w (s.trans q)
  | ct E => exact fun σ R H w q => k σ R H w (s.trans q)
  | rt d => exact k
def TSt (K : PySem.W.Frag) (ps : Option Nat) (fr : Bool) (f : Sn) : TS := fun D σ H =>
  ∃ po E pt r pt' R R0 H0, Ws K ps po R0 H0 σ E pt R H ∧ f E pt = some (r, pt') ∧ Due K ps fr po R0 H0 R D r pt'
section
variable {K : PySem.W.Frag} {ps : Option Nat} {S : List Nat} {fr : Bool} {X : Cx} {st : Stmt} {sts : List Stmt} {f g : Sn} {pos : Pos} {e : Expr} {h : Dn} {te : TE}
theorem ps_imp {t t' : TS} (h : PS X st t) (i : ∀ D σ H, t' D σ H → t D σ H) : PS X st t' := ⟨fun pins s σ H D I w => h.run pins s σ H D I (i D σ H w)⟩
theorem pss_imp {t t' : TS} (h : PSs X sts t) (i : ∀ D σ H, t' D σ H → t D σ H) : PSs X sts t' := ⟨fun pins s σ H D I w => h.run pins s σ H D I (i D σ H w)⟩
def sNil : Sn := fun E => Mo.ret (.nx E)
def sSq (f g : Sn) : Sn := fun E => (f E).bnd fun r => match r with
  | .nx E' => g E'
  | r => Mo.ret r
theorem st_nil : PSs X [] (TSt K ps fr sNil) := pss_imp pss_nil fun D σ H ⟨po, E, pt, r, pt', R, R0, H0, w, q, k⟩ => by
  cases q
  exact k σ R H w (Sub.refl R)
theorem st_cons (h1 : PS X st (TSt K ps fr f)) (h2 : PSs X sts (TSt K ps fr g)) : PSs X (st :: sts) (TSt K ps fr (sSq f g)) := pss_imp (pss_cons h1 h2) fun D σ H ⟨po, E, pt, r, pt', R, R0, H0, w, q, k⟩ => by
  obtain ⟨r1, p1, e1, q1⟩ := Mo.bnd_some q
  refine ⟨po, E, pt, r1, p1, R, R0, H0, w, e1, ?_⟩
  cases r1 with
  | nx E' => exact fun σ' R' H' w' s => ⟨po, E', p1, r, pt', R', R0, H0, w', q1, Due.less s k⟩
  | br E' => cases q1; exact k
  | ct E' => cases q1; exact k
  | rt d => cases q1; exact k
theorem st_one (h1 : PS X st (TSt K ps fr f)) : PSs X [st] (TSt K ps fr f) := pss_one h1
/-- slots given up ahead of a statement -/
def sFz (l : List Nat) (f : Sn) : Sn := fun E => f (frzL l E)
theorem st_frz {l : List Nat} (h : PS X st (TSt K ps fr f)) : PS X st (TSt K ps fr (sFz l f)) := ps_imp h fun D σ H ⟨po, E, pt, r, pt', R, R0, H0, w, q, k⟩ => by
  obtain ⟨R', w', sb⟩ := w.frzL l
  exact ⟨po, frzL l E, pt, r, pt', R', R0, H0, w', q, Due.less sb k⟩
theorem st_pass : PS X (.Pass pos) (TSt K ps fr sNil) := ps_imp ps_pass fun D σ H ⟨po, E, pt, r, pt', R, R0, H0, w, q, k⟩ => by
  cases q
  exact k σ R H w (Sub.refl R)
theorem st_doc {x : Str} {j : Nat} {p2 : Pos} : PS X (.Expr (.Constant (.str x) j pos) p2) (TSt K ps fr sNil) := ps_imp ps_doc fun D σ H ⟨po, E, pt, r, pt', R, R0, H0, w, q, k⟩ => by
  cases q
  exact k σ R H w (Sub.refl R)
def sBr : Sn := fun E => Mo.ret (.br E)
def sCt : Sn := fun E => Mo.ret (.ct E)
theorem st_break : PS X (.Break pos) (TSt K ps fr sBr) := ps_imp ps_break fun D σ H ⟨po, E, pt, r, pt', R, R0, H0, w, q, k⟩ => by
  cases q
  exact k σ R H w (Sub.refl R)
theorem st_continue : PS X (.Continue pos) (TSt K ps fr sCt) := ps_imp ps_continue fun D σ H ⟨po, E, pt, r, pt', R, R0, H0, w, q, k⟩ => by
  cases q
  exact k σ R H w (Sub.refl R)
/-- never reached -/
def sNo : Sn := fun _ => Mo.fail
theorem st_never : PS X st (TSt K ps fr sNo) := ps_imp ps_never fun D σ H ⟨po, E, pt, r, pt', R, R0, H0, w, q, k⟩ => by cases q
/-- an expression in a statement -/
def evS (S : List Nat) (h : Dn) (E : SEn) : Mo Dt := if ckS S E = true then h (vw E) else Mo.fail
theorem evS_some {E : SEn} {pt pt' : Pt} {d : Dt} (q : evS S h E pt = some (d, pt')) : ckS S E = true ∧ h (vw E) pt = some (d, pt') := by
  unfold evS at q
  split at q
  · exact ⟨by assumption, q⟩
  · cases q
def sExpr (S : List Nat) (h : Dn) : Sn := fun E => (evS S h E).bnd fun _ => Mo.ret (.nx E)
theorem st_expr (he : PE X e (TB K ps S h)) (hs : swapsWith e none pos.line X.env = pure false) : PS X (.Expr e pos) (TSt K ps fr (sExpr S h)) := ps_imp (ps_expr he hs) fun D σ H ⟨po, E, pt, r, pt', R, R0, H0, w, q, k⟩ => by
  obtain ⟨d, p1, e1, q9⟩ := Mo.bnd_some q
  cases q9
  obtain ⟨c, e2⟩ := evS_some e1
  exact ⟨po, vw E, pt, d, _, R, w.wd c, e2, fun v R' H' x p _ => k σ R' H' (w.up x p) x.r⟩
def sRet (S : List Nat) (h : Dn) : Sn := fun E => (evS S h E).bnd fun d => Mo.ret (.rt d)
theorem st_ret (he : PE X e (TD K ps S h)) : PS X (.Return (some e) pos) (TSt K ps false (sRet S h)) := ps_imp (ps_ret he) fun D σ H ⟨po, E, pt, r, pt', R, R0, H0, w, q, k⟩ => by
  obtain ⟨d, p1, e1, q9⟩ := Mo.bnd_some q
  cases q9
  obtain ⟨c, e2⟩ := evS_some e1
  exact ⟨po, vw E, pt, d, _, R, w.wd c, e2, fun v R' H' x p r => k v R' H' (w.ext.trans x) p r⟩
theorem st_retF (he : PE X e (TF K ps S h)) : PS X (.Return (some e) pos) (TSt K ps true (sRet S h)) := ps_imp (ps_ret he) fun D σ H ⟨po, E, pt, r, pt', R, R0, H0, w, q, k⟩ => by
  obtain ⟨d, p1, e1, q9⟩ := Mo.bnd_some q
  cases q9
  obtain ⟨c, e2⟩ := evS_some e1
  exact ⟨po, vw E, pt, d, _, R, w.wd c, e2, fun v R' H' x p r => k v R' H' (w.ext.trans x) p (r.back w.ext.d)⟩
/-- return of a name that holds a thing of one's own -/
def sRetO (i : Nat) : Sn := fun E => match E[i]? with
  | some (.ow d) => Mo.ret (.rt d)
  | some (.sh d) => if Still d = true then Mo.ret (.rt d) else Mo.fail
  | _ => Mo.fail
theorem retO_some {i : Nat} {E : SEn} {pt pt' : Pt} {r : Sg} (q : sRetO i E pt = some (r, pt')) : ∃ d, (E[i]? = some (Sl.ow d) ∨ (E[i]? = some (Sl.sh d) ∧ Still d = true)) ∧ r = .rt d ∧ pt' = pt := by
  cases e : E[i]? with
  | none => simp only [sRetO, e] at q; cases q
  | some s =>
    cases s with
    | no => simp only [sRetO, e] at q; cases q
    | ow d => simp only [sRetO, e] at q; cases q; exact ⟨d, .inl rfl, rfl, rfl⟩
    | sh d =>
      simp only [sRetO, e] at q
      split at q
      · cases q; exact ⟨d, .inr ⟨rfl, by assumption⟩, rfl, rfl⟩
      · cases q
theorem st_retO {i : Nat} (he : PE X e (tVar i)) : PS X (.Return (some e) pos) (TSt K ps true (sRetO i)) := ps_imp (ps_ret he) fun D σ H ⟨po, E, pt, r, pt', R, R0, H0, w, q, k⟩ => by
  obtain ⟨d, ei, hr, hp⟩ := retO_some q
  subst hr hp
  rcases ei with ei | ⟨ei, hs⟩
  · obtain ⟨v, a, h1, o⟩ := w.ow i d ei
    exact ⟨v, h1, k v R H w.ext w.pot (.inl ⟨a, o.e, o.h0, o.r, o.c⟩)⟩
  · obtain ⟨v, h1, o⟩ := w.sh i d ei
    exact ⟨v, h1, k v R H w.ext w.pot (.inr ⟨hs, o⟩)⟩
def sRetN : Sn := fun _ => Mo.ret (.rt .none)
theorem st_retN : PS X (.Return none pos) (TSt K ps fr sRetN) := ps_imp ps_retN fun D σ H ⟨po, E, pt, r, pt', R, R0, H0, w, q, k⟩ => by
  cases q
  exact k .non R H w.ext w.pot (by cases fr; exact .non; exact .inr ⟨rfl, .non⟩)
/-- the body ends without a return -/
def sEnd (f : Sn) : SEn → Mo Dt := fun E => (f E).bnd fun r => match r with
  | .nx _ => Mo.ret .none
  | .rt d => Mo.ret d
  | _ => Mo.fail
/-! assignments -/
def setS (ps : Option Nat) (i : Nat) (s : Sl) (E : SEn) : Mo Sg := if i < E.length ∧ ps ≠ some i then Mo.ret (.nx (E.set i s)) else Mo.fail
def sAsg (ps : Option Nat) (i : Nat) (S : List Nat) (h : Dn) : Sn := fun E => (evS S h E).bnd fun d => setS ps i (.sh d) E
def sAsgO (ps : Option Nat) (i : Nat) (S : List Nat) (h : Dn) : Sn := fun E => (evS S h E).bnd fun d => setS ps i (slN d) E
theorem setS_some {i : Nat} {s : Sl} {E : SEn} {pt pt' : Pt} {r : Sg} (q : setS ps i s E pt = some (r, pt')) : i < E.length ∧ ps ≠ some i ∧ r = .nx (E.set i s) ∧ pt' = pt := by
  unfold setS at q
  split at q
  · rename_i c
    cases q
    exact ⟨c.1, c.2, rfl, rfl⟩
  · cases q
theorem st_asg {i : Nat} (h1 : PS X st (tAsg te (gName i))) (ht : ∀ σ H Q, TD K ps S h σ H Q → te σ H Q) : PS X st (TSt K ps fr (sAsg ps i S h)) := ps_imp h1 fun D σ H ⟨po, E, pt, r, pt', R, R0, H0, w, q, k⟩ => by
  obtain ⟨d, p1, e1, q1⟩ := Mo.bnd_some q
  obtain ⟨c, e2⟩ := evS_some e1
  obtain ⟨hi, hp, er, ep⟩ := setS_some q1
  subst er ep
  exact ht _ _ _ ⟨po, vw E, pt, d, _, R, w.wd c, e2, fun v R' H' x p rv => k _ R' H' ((w.up x p).putS rv hi hp) x.r⟩
theorem st_asgO {i : Nat} (h1 : PS X st (tAsg te (gName i))) (ht : ∀ σ H Q, TF K ps S h σ H Q → te σ H Q) : PS X st (TSt K ps fr (sAsgO ps i S h)) := ps_imp h1 fun D σ H ⟨po, E, pt, r, pt', R, R0, H0, w, q, k⟩ => by
  obtain ⟨d, p1, e1, q1⟩ := Mo.bnd_some q
  obtain ⟨c, e2⟩ := evS_some e1
  obtain ⟨hi, hp, er, ep⟩ := setS_some q1
  subst er ep
  exact ht _ _ _ ⟨po, vw E, pt, d, _, R, w.wd c, e2, fun v R' H' x p rv => k _ R' H' (w.putN (w.up x p) rv hi hp) x.r⟩
/-! if -/
def sIf (S : List Nat) (c : Dn) (f g : Sn) : Sn := fun E => (evS S c E).bnd fun x => match x with
  | .bool true => f E
  | .bool false => g E
  | _ => Mo.fail
theorem st_if {c : Expr} {a b : List Stmt} {tc : Dn} (hc : PT X c (TT' K ps S tc)) (ha : PSs X a (TSt K ps fr f)) (hb : PSs X b (TSt K ps fr g)) : PS X (.If c a b pos) (TSt K ps fr (sIf S tc f g)) := ps_imp (ps_if hc ha hb) fun D σ H ⟨po, E, pt, r, pt', R, R0, H0, w, q, k⟩ => by
  obtain ⟨d, p1, e1, q1⟩ := Mo.bnd_some q
  obtain ⟨c, e2⟩ := evS_some e1
  split at q1
  · refine ⟨po, vw E, pt, true, p1, R, w.wd c, e2, fun R' H' x p => ?_⟩
    dsimp only
    rw [if_pos rfl]
    exact ⟨po, E, p1, r, pt', R', R0, H0, w.up x p, q1, Due.less x.r k⟩
  · refine ⟨po, vw E, pt, false, p1, R, w.wd c, e2, fun R' H' x p => ?_⟩
    dsimp only
    rw [if_neg Bool.false_ne_true]
    exact ⟨po, E, p1, r, pt', R', R0, H0, w.up x p, q1, Due.less x.r k⟩
  · cases q1
end
end Ev

/-! Ev, part J: loops, tuple targets, changed lists. -/
namespace Ev
open PySem L2

mutual
def bindS (ps : Option Nat) : Tg → Dt → SEn → Option SEn
  | .nm i, d, E => if i < E.length ∧ ps ≠ some i then some (E.set i (.sh d)) else none
  | .tp l, .tuple ds, E => bindSL ps l ds E
  | .tp l, .list ds, E => bindSL ps l ds E
  | .tp _, _, _ => none
def bindSL (ps : Option Nat) : List Tg → List Dt → SEn → Option SEn
  | [], [], E => some E
  | t :: ts, d :: ds, E => (bindS ps t d E).bind (bindSL ps ts ds)
  | _, _, _ => none
end
def TGs1 (K : PySem.W.Frag) (ps : Option Nat) (t : Tg) : TG := fun v σ H Q =>
  ∃ po E pt d E' R R0 H0, Ws K ps po R0 H0 σ E pt R H ∧ Rp K R v d ∧ bindS ps t d E = some E' ∧ ∀ σ', Ws K ps po R0 H0 σ' E' pt R H → Q σ' H
def TGsL (K : PySem.W.Frag) (ps : Option Nat) (t : List Tg) : TGs := fun vs σ H Q =>
  ∃ po E pt ds E' R R0 H0, Ws K ps po R0 H0 σ E pt R H ∧ RpL K R vs ds ∧ bindSL ps t ds E = some E' ∧ ∀ σ', Ws K ps po R0 H0 σ' E' pt R H → Q σ' H
section
variable {K : PySem.W.Frag} {ps : Option Nat} {S : List Nat} {fr : Bool} {X : Cx} {st : Stmt} {sts : List Stmt} {f g : Sn} {pos : Pos} {e : Expr} {h : Dn} {te : TE}
theorem sg_name {i : Nat} {x : Str} (h : PG X (.Name x pos) (gName i)) : PG X (.Name x pos) (TGs1 K ps (.nm i)) := pg_imp h fun v σ H Q ⟨po, E, pt, d, E', R, R0, H0, w, r, e, k⟩ => by
  unfold bindS at e
  split at e
  · rename_i c
    cases e
    exact k _ (w.putS r c.1 c.2)
  · cases e
theorem sgs_nil : PGs X [] (TGsL K ps []) := pgs_imp pgs_nil fun v σ H Q ⟨po, E, pt, d, E', R, R0, H0, w, r, e, k⟩ => by
  cases r with
  | nil =>
    cases e
    exact ⟨rfl, k σ w⟩
  | cons => cases e
theorem sgs_cons {e : Expr} {es : List Expr} {t : Tg} {ts : List Tg} (h1 : PG X e (TGs1 K ps t)) (h2 : PGs X es (TGsL K ps ts)) (hs : (assignEach (e :: es) X.env).map (·.2) = assign e X.env :: (assignEach es X.env).map (·.2)) : PGs X (e :: es) (TGsL K ps (t :: ts)) :=
  pgs_imp (pgs_cons h1 h2 hs) fun v σ H Q ⟨po, E, pt, d, E', R, R0, H0, w, r, e, k⟩ => by
    cases r with
    | nil => cases e
    | cons r l =>
      obtain ⟨E1, e1, e2⟩ := Option.bind_eq_some_iff.mp (show (bindS ps t _ E).bind (bindSL ps ts _) = some E' from e)
      exact ⟨_, _, rfl, ⟨po, E, pt, _, E1, R, R0, H0, w, r, e1, fun σ1 w1 => ⟨po, E1, pt, _, E', R, R0, H0, w1, l, e2, fun σ2 w2 => k σ2 w2⟩⟩⟩
theorem bindSL_len (ps : Option Nat) : ∀ (ts : List Tg) (ds : List Dt) (E : SEn) {E' : SEn}, bindSL ps ts ds E = some E' → ts.length = ds.length
  | [], [], _, _, _ => rfl
  | t :: ts, d :: ds, E, E', h => by
    obtain ⟨E1, e1, e2⟩ := Option.bind_eq_some_iff.mp (show (bindS ps t d E).bind (bindSL ps ts ds) = some E' from h)
    rw [List.length_cons, List.length_cons, bindSL_len ps ts ds E1 e2]
  | [], _ :: _, _, _, h => by cases h
  | _ :: _, [], _, _, h => by cases h
theorem sg_tup {es : List Expr} {k : Nat} {ts : List Tg} (hc : X.calm = true) (h : PGs X es (TGsL X.K ps ts)) (hn : (assignEach es X.env).length = ts.length) (hst : (assignEach es X.env).findIdx? (·.1) = none) : PG X (.Tuple es k pos) (TGs1 X.K ps (.tp ts)) :=
  pg_imp (pg_or (pg_tup (n := ts.length) hc h hn hst) (pg_unl (n := ts.length) hc h hn hst)) fun v σ H Q ⟨po, E, pt, d, E', R, R0, H0, w, r, e, k⟩ => by
    cases d with
    | tuple ds =>
      have e' : bindSL ps ts ds E = some E' := e
      cases r with
      | tup h l z => exact .inl ⟨_, _, rfl, w.ext.s.sqT h, by rw [l.len]; exact (bindSL_len ps ts ds E e').symm, ⟨po, E, pt, ds, E', R, R0, H0, w, l, e', k⟩⟩
    | list ds =>
      have e' : bindSL ps ts ds E = some E' := e
      cases r with
      | lst h l z => exact .inr ⟨_, _, rfl, w.ext.s.sqL h.sqL, by rw [l.len]; exact (bindSL_len ps ts ds E e').symm, ⟨po, E, pt, ds, E', R, R0, H0, w, l, e', k⟩⟩
    | _ => cases e
/-- target = e -/
def sBind (ps : Option Nat) (t : Tg) (S : List Nat) (h : Dn) : Sn := fun E => (evS S h E).bnd fun d => (Mo.ofO (bindS ps t d E)).bnd fun E' => Mo.ret (.nx E')
theorem st_bind {t : Tg} {tg : Expr} (he : PE X e (TD X.K ps S h)) (hg : PG X tg (TGs1 X.K ps t)) (hs : swapsWithSole [tg] e pos.line X.env = pure false) (hw : swappedStores [tg] e X.env = pure none) (h1 : (assignEach [tg] X.env).map (·.2) = [assign tg X.env]) :
    PS X (.Assign [tg] e pos) (TSt X.K ps fr (sBind ps t S h)) := ps_imp (ps_asg he hg hs hw h1) fun D σ H ⟨po, E, pt, r, pt', R, R0, H0, w, q, k⟩ => by
  obtain ⟨d, p1, e1, q1⟩ := Mo.bnd_some q
  obtain ⟨E', p2, e2, q9⟩ := Mo.bnd_some q1
  cases q9
  obtain ⟨e3, e3'⟩ := Mo.ofO_some e2
  subst e3'
  obtain ⟨c, e4⟩ := evS_some e1
  exact ⟨po, vw E, pt, d, _, R, w.wd c, e4, fun v R' H' x p r => ⟨po, E, _, d, E', R', R0, H0, w.up x p, r, e3, fun σ' w' => k σ' R' H' w' x.r⟩⟩
/-! for -/
def forF (ps : Option Nat) (t : Tg) (body : Sn) : List Dt → Sn
  | [], E => Mo.ret (.nx E)
  | d :: ds, E => (Mo.ofO (bindS ps t d E)).bnd fun E1 => (body E1).bnd fun r => match r with
    | .nx E2 => forF ps t body ds E2
    | .ct E2 => forF ps t body ds E2
    | .br E2 => Mo.ret (.nx E2)
    | .rt d => Mo.ret (.rt d)
def sFor (ps : Option Nat) (S : List Nat) (src : Sr) (t : Tg) (body : Sn) : Sn := fun E => (if ckS S E = true then src (vw E) else Mo.fail).bnd fun ds => forF ps t body ds E
theorem st_for {t : Tg} {tg iter : Expr} {body : List Stmt} {src : Sr} {tb : Sn} (hp : PassesOwn (model X.prog X.w) X.A X.env X.xe) (hc : X.calm = true) (hi : PI X tg iter (TSr X.K ps S KF src)) (hg : PG X tg (TGs1 X.K ps t)) (hb : PSs X body (TSt X.K ps fr tb))
    (hs : ∀ x, foldedSetIterable iter X.env x = pure x) : PS X (.For tg iter body [] pos) (TSt X.K ps fr (sFor ps S src t tb)) := ps_imp (ps_for hp hc hi hg hb hs) fun D σ H ⟨po, E, pt, r, pt', R, R0, H0, w, q, k⟩ => by
  obtain ⟨ds, p1, e1, q1⟩ := Mo.bnd_some q
  split at e1
  · rename_i c
    refine ⟨po, vw E, pt, ds, p1, R, w.wd c, e1, fun J R1 H1 x1 pq gs => ?_⟩
    have k1 : Due X.K ps fr po R0 H0 R1 D r pt' := Due.less x1.r k
    refine ⟨fun i m σ H => m = ds.length - i ∧ i ≤ ds.length ∧ ∃ E p R, Ws X.K ps po R0 H0 σ E p R H ∧ Sub R1 R ∧ forF ps t tb (ds.drop i) E p = some (r, pt'), ⟨ds.length, rfl, Nat.zero_le _, E, p1, R1, w.up x1 pq, Sub.refl _, q1⟩, ?_⟩
    rintro i m σ1 H2 ⟨rfl, hi, E1, p, R2, w1, s1, er⟩
    by_cases hlt : i < ds.length
    · refine .inr ?_
      have hd : ds[i]? = some ds[i] := List.getElem?_eq_getElem hlt
      obtain ⟨go, yl⟩ := (gs i R2 H2 ⟨s1, w1.ext.s⟩).1 _ hd
      refine ⟨go, fun σ H => i + 1 ≤ ds.length ∧ ∃ E p R, Ws X.K ps po R0 H0 σ E p R H ∧ Sub R1 R ∧ forF ps t tb (ds.drop (i + 1)) E p = some (r, pt'), fun σ' H' z => ⟨ds.length - (i + 1), by omega, rfl, z.1, z.2⟩, fun x H3 hy => ?_⟩
      obtain ⟨R3, x3, rv⟩ := yl x H3 hy
      rw [List.drop_eq_getElem_cons hlt] at er
      obtain ⟨E2, p2, e2, er1⟩ := Mo.bnd_some (show ((Mo.ofO (bindS ps t ds[i] E1)).bnd fun E1 => (tb E1).bnd fun r => match r with
        | .nx E2 => forF ps t tb (ds.drop (i + 1)) E2
        | .ct E2 => forF ps t tb (ds.drop (i + 1)) E2
        | .br E2 => Mo.ret (.nx E2)
        | .rt d => Mo.ret (.rt d)) p = some (r, pt') from er)
      obtain ⟨e3, e3'⟩ := Mo.ofO_some e2
      subst e3'
      obtain ⟨r1, p3, e4, er2⟩ := Mo.bnd_some er1
      have w2 := w1.up (x3.none (po := po)) (w1.pot.keep x3)
      refine ⟨po, E1, _, ds[i], E2, R3, R0, H0, w2, rv, e3, fun σ' w3 => ⟨po, E2, _, r1, p3, R3, R0, H0, w3, e4, ?_⟩⟩
      have s3 : Sub R1 R3 := s1.trans x3.r
      cases r1 with
      | nx E3 => exact fun σ4 R4 H4 w4 s4 => ⟨hlt, E3, p3, R4, w4, s3.trans s4, er2⟩
      | ct E3 => exact fun σ4 R4 H4 w4 s4 => ⟨hlt, E3, p3, R4, w4, s3.trans s4, er2⟩
      | br E3 =>
        cases er2
        exact fun σ4 R4 H4 w4 s4 => k1 σ4 R4 H4 w4 (s3.trans s4)
      | rt d =>
        cases er2
        exact k1
    · have e : i = ds.length := by omega
      subst e
      refine .inl ⟨(gs _ R2 H2 ⟨s1, w1.ext.s⟩).2 rfl, ?_⟩
      rw [List.drop_length] at er
      cases er
      exact k1 σ1 R2 H2 w1 s1
  · cases e1
/-! while -/
def whF (S : List Nat) (c : Dn) (body : Sn) : Nat → Sn
  | 0, _ => Mo.fail
  | n + 1, E => (evS S c E).bnd fun x => match x with
    | .bool true => (body E).bnd fun r => match r with
      | .nx E2 => whF S c body n E2
      | .ct E2 => whF S c body n E2
      | .br E2 => Mo.ret (.nx E2)
      | .rt d => Mo.ret (.rt d)
    | .bool false => Mo.ret (.nx E)
    | _ => Mo.fail
def sWh (n : Nat) (S : List Nat) (c : Dn) (body : Sn) : Sn := whF S c body n
theorem st_while {n : Nat} {c : Expr} {tc : Dn} {body : List Stmt} {tb : Sn} (hp : PassesOwn (model X.prog X.w) X.A X.env X.xe) (hc : PT X c (TT' X.K ps S tc)) (hb : PSs X body (TSt X.K ps fr tb)) :
    PS X (.While c body [] pos) (TSt X.K ps fr (sWh n S tc tb)) := ps_imp (ps_while hp hc hb) fun D σ H ⟨po, E, pt, r, pt', R, R0, H0, w, q, k⟩ => by
  refine ⟨fun m σ H => ∃ E p R1, Ws X.K ps po R0 H0 σ E p R1 H ∧ Sub R R1 ∧ whF S tc tb m E p = some (r, pt'), ⟨n, E, pt, R, w, Sub.refl _, q⟩, ?_⟩
  rintro m σ1 H1 ⟨E1, p, R1, w1, s1, er⟩
  cases m with
  | zero => cases er
  | succ m =>
    obtain ⟨x, p1, e1, er1⟩ := Mo.bnd_some er
    obtain ⟨ck, e2⟩ := evS_some e1
    split at er1
    · refine ⟨po, vw E1, p, true, p1, R1, w1.wd ck, e2, fun R2 H2 x2 q2 => ?_⟩
      dsimp only
      rw [if_pos rfl]
      obtain ⟨r1, p2, e3, er2⟩ := Mo.bnd_some er1
      have s2 : Sub R R2 := s1.trans x2.r
      refine ⟨fun σ H => ∃ E p R1, Ws X.K ps po R0 H0 σ E p R1 H ∧ Sub R R1 ∧ whF S tc tb m E p = some (r, pt'), fun σ' H' z => ⟨m, Nat.lt_succ_self m, z⟩, po, E1, p1, r1, p2, R2, R0, H0, w1.up x2 q2, e3, ?_⟩
      cases r1 with
      | nx E3 => exact fun σ4 R4 H4 w4 s4 => ⟨E3, p2, R4, w4, s2.trans s4, er2⟩
      | ct E3 => exact fun σ4 R4 H4 w4 s4 => ⟨E3, p2, R4, w4, s2.trans s4, er2⟩
      | br E3 =>
        cases er2
        exact fun σ4 R4 H4 w4 s4 => k σ4 R4 H4 w4 (s2.trans s4)
      | rt d =>
        cases er2
        exact k
    · refine ⟨po, vw E1, p, false, p1, R1, w1.wd ck, e2, fun R2 H2 x2 q2 => ?_⟩
      dsimp only
      rw [if_neg Bool.false_ne_true]
      cases er1
      exact k σ1 R2 H2 (w1.up x2 q2) (s1.trans x2.r)
    · cases er1
/-! op= of a name, ints -/
def augD : Operator → Int → Int → Option Int
  | .Add, i, j => some (i + j)
  | .Sub, i, j => some (i - j)
  | _, _, _ => none
def sAug (ps : Option Nat) (i : Nat) (S : List Nat) (op : Operator) (h : Dn) : Sn := fun E => match E[i]? with
  | some (.sh (.int x)) => (evS S h E).bnd fun d => match d with
    | .int y => (Mo.ofO (augD op x y)).bnd fun z => setS ps i (.sh (.int z)) E
    | _ => Mo.fail
  | _ => Mo.fail
theorem aug_some {i : Nat} {op : Operator} {E : SEn} {pt pt' : Pt} {r : Sg} (q : sAug ps i S op h E pt = some (r, pt')) : ∃ x y z, E[i]? = some (Sl.sh (.int x)) ∧ evS S h E pt = some (.int y, pt') ∧ augD op x y = some z ∧ i < E.length ∧ ps ≠ some i ∧ r = .nx (E.set i (.sh (.int z))) := by
  unfold sAug at q
  cases e : E[i]? with
  | none => rw [e] at q; cases q
  | some s =>
    rw [e] at q
    cases s with
    | no => cases q
    | ow d => cases q
    | sh d =>
      cases d with
      | int x =>
        obtain ⟨d, p1, e1, q1⟩ := Mo.bnd_some q
        split at q1
        · obtain ⟨z, p2, e2, q2⟩ := Mo.bnd_some q1
          obtain ⟨e3, e3'⟩ := Mo.ofO_some e2
          obtain ⟨h1, h2, h3, h4⟩ := setS_some q2
          subst e3' h4
          exact ⟨_, _, z, rfl, e1, e3, h1, h2, h3⟩
        · cases q1
      | _ => cases q
theorem st_aug {i : Nat} {op : Operator} {f : Int → Int → Int} (ht : PS X st (tAug i te (ipI f))) (hf : ∀ x y z, augD op x y = some z → z = f x y) (hte : ∀ σ H Q, TB X.K ps S h σ H Q → te σ H Q) : PS X st (TSt X.K ps fr (sAug ps i S op h)) := ps_imp ht fun D σ H ⟨po, E, pt, r, pt', R, R0, H0, w, q, k⟩ => by
  obtain ⟨x, y, z, e1, e2, e3, hi, hp, rfl⟩ := aug_some q
  obtain ⟨v, h1, rv⟩ := w.sh i _ e1
  cases rv
  obtain ⟨c, e4⟩ := evS_some e2
  refine ⟨_, h1, hte _ _ _ ⟨po, vw E, pt, _, _, R, w.wd c, e4, fun u R' H' x' p s => ?_⟩⟩
  obtain rfl := s.int
  refine ⟨x, y, rfl, rfl, ?_⟩
  rw [← hf x y z e3]
  exact k _ R' H' ((w.up x' p).putS (.int z) hi hp) x'.r
end
end Ev

/-! Ev, part K: two and three at once; lists of one's own. -/
namespace Ev
open PySem L2

/-- by mode: new (true), or standing (false) -/
def TM (b : Bool) (K : PySem.W.Frag) (ps : Option Nat) (S : List Nat) (f : Dn) : TE := fun σ H Q =>
  ∃ po env pt d pt' R, Wd K ps S po σ env pt R H ∧ f env pt = some (d, pt') ∧ ∀ v R' H', Ext po R H R' H' → PotAt po H' pt' → Out K b H R' H' v d → Q v H'
def slM (b : Bool) (d : Dt) : Sl := match b with
  | true => slN d
  | false => .sh d
section
variable {K : PySem.W.Frag} {ps : Option Nat} {S : List Nat} {fr : Bool} {X : Cx} {st : Stmt} {sts : List Stmt} {pos : Pos} {e a b c : Expr} {f g h : Dn} {te : TE} {po : Option Addr} {σ : L2.St} {E : SEn} {pt pt' : Pt} {R0 H0 R H R1 H1 R2 H2 : Hp}
theorem tm_F (h : PE X e (TF K ps S f)) : PE X e (TM true K ps S f) := pe_imp h fun _ _ _ q => q
theorem tm_D (h : PE X e (TD K ps S f)) : PE X e (TM false K ps S f) := pe_imp h fun _ _ _ q => q
theorem Out.up {bb : Bool} {v : V} {d : Dt} (o : Out K bb H R1 H1 v d) (q : PotAt po H pt) (xk : ∀ a, H1 a = none → H a = none) (x : Ext po R1 H1 R2 H2) : Out K bb H R2 H2 v d := by
  cases bb with
  | false => exact Rp.up x.r o
  | true =>
    rcases o with ⟨a, e, n, r, c⟩ | ⟨f, r⟩
    · have npo : po ≠ some a := fun z => by
        have := q a z
        rw [n] at this
        cases this
      have c' : Cont K R1 H1 a d := c
      refine .inl ⟨a, e, n, ?_, c'.up x.r fun o z => x.k a o z npo⟩
      cases z : R2 a with
      | none => rfl
      | some o =>
        exfalso
        rcases x.f a (by rw [z]; exact fun y => nomatch y) with y | y
        · exact y r
        · exact c'.there y
    · exact .inr ⟨f, r.up x.r⟩
theorem Ws.putM {i : Nat} {v : V} {d : Dt} {bb : Bool} (w1 : Ws K ps po R0 H0 σ E pt' R1 H1) (w : Ws K ps po R0 H0 σ E pt R H) (r : Out K bb H1 R H v d) (hi : i < E.length) (hp : ps ≠ some i) : Ws K ps po R0 H0 (σ.set i (some v)) (E.set i (slM bb d)) pt R H := by
  cases bb with
  | false => exact w.putS r hi hp
  | true => exact w1.putN w r hi hp
def TA2 (b1 b2 : Bool) (K : PySem.W.Frag) (ps : Option Nat) (S : List Nat) (f g : Dn) : TA := fun σ H Q =>
  ∃ po env pt d1 p1 d2 pt' R, Wd K ps S po σ env pt R H ∧ f env pt = some (d1, p1) ∧ g env p1 = some (d2, pt') ∧ ∀ v1 R1 H1 v2 R2 H2, Ext po R H R1 H1 → PotAt po H1 p1 → Out K b1 H R1 H1 v1 d1 → Ext po R1 H1 R2 H2 → PotAt po H2 pt' → Out K b2 H1 R2 H2 v2 d2 → Q [v1, v2] H2
theorem da_two {b1 b2 : Bool} (hn : notStar a = true) (hn2 : notStar b = true) (ha : PE X a (TM b1 K ps S f)) (hb : PE X b (TM b2 K ps S g)) : PA X [a, b] (TA2 b1 b2 K ps S f g) := pa_imp (pa_cons ha (pa_cons hb pa_nil (star_no hn2)) (star_no hn)) fun σ H Q ⟨po, env, pt, d1, p1, d2, pt', R, w, e1, e2, k⟩ =>
  ⟨po, env, pt, d1, p1, R, w, e1, fun v1 R1 H1 x1 q1 o1 => ⟨po, env, p1, d2, pt', R1, w.up x1 q1, e2, fun v2 R2 H2 x2 q2 o2 => k v1 R1 H1 v2 R2 H2 x1 q1 o1 x2 q2 o2⟩⟩
/-- a, b = x, y -/
def sPar (ps : Option Nat) (i j : Nat) (b1 b2 : Bool) (S : List Nat) (f g : Dn) : Sn := fun E => (evS S f E).bnd fun d1 => (evS S g E).bnd fun d2 =>
  if i < E.length ∧ ps ≠ some i ∧ j < E.length ∧ ps ≠ some j then Mo.ret (.nx ((E.set i (slM b1 d1)).set j (slM b2 d2))) else Mo.fail
theorem par_ok {i j : Nat} {b1 b2 : Bool} {D : Ends} {Q : List V → Hp → Prop} (q : TSt K ps fr (sPar ps i j b1 b2 S f g) D σ H) (hQ : ∀ v1 v2 H', (∀ R' p, (∃ po E R0 H0, Ws K ps po R0 H0 σ E p R' H') → True) → D.nx ((σ.set i (some v1)).set j (some v2)) H' → Q [v1, v2] H') : TA2 b1 b2 K ps S f g σ H Q := by
  obtain ⟨po, E, pt, r, pt', R, R0, H0, w, q, k⟩ := q
  obtain ⟨d1, p1, e1, q1⟩ := Mo.bnd_some q
  obtain ⟨d2, p2, e2, q2⟩ := Mo.bnd_some q1
  split at q2
  · rename_i cc
    cases q2
    obtain ⟨c1, e3⟩ := evS_some e1
    obtain ⟨c2, e4⟩ := evS_some e2
    refine ⟨po, vw E, pt, d1, p1, d2, _, R, w.wd c1, e3, e4, fun v1 R1 H1 v2 R2 H2 x1 q1 o1 x2 q2 o2 => hQ v1 v2 H2 (fun _ _ _ => trivial) ?_⟩
    have w1 := w.up x1 q1
    have w1i := w.putM w1 o1 cc.1 cc.2.1
    have w2 := w1.up x2 q2
    have w2i := w.putM w2 (o1.up w.pot x1.d x2) cc.1 cc.2.1
    exact k _ R2 H2 (w1i.putM w2i o2 (by rw [List.length_set]; exact cc.2.2.1) cc.2.2.2) (x1.trans x2).r
  · cases q2
theorem st_par {i j : Nat} {b1 b2 : Bool} (ht : PS X st (tPar i j (TA2 b1 b2 K ps S f g))) : PS X st (TSt K ps fr (sPar ps i j b1 b2 S f g)) := ps_imp ht fun D σ H q => par_ok q fun v1 v2 H' _ h => ⟨v1, v2, rfl, h⟩
/-- the same through the tuple -/
theorem st_parT {i j : Nat} {b1 b2 : Bool} {k1 : Nat} {p1 : Pos} {tg : Expr} (hz : 2 ≤ sizeLine) (ha : PA X [a, b] (TA2 b1 b2 X.K ps S f g)) (hg : PG X tg (gTup X.K 2 (gCons (gName i) (gCons (gName j) gNil))))
    (hs : swapsWithSole [tg] (.Tuple [a, b] k1 p1) pos.line X.env = pure false) (hw : swappedStores [tg] (.Tuple [a, b] k1 p1) X.env = pure none) (h1 : (assignEach [tg] X.env).map (·.2) = [assign tg X.env]) :
    PS X (.Assign [tg] (.Tuple [a, b] k1 p1) pos) (TSt X.K ps fr (sPar ps i j b1 b2 S f g)) := by
  refine ps_imp (ps_asg (pe_tup ha) hg hs hw h1) fun D σ H q => ?_
  obtain ⟨po, E, pt, r, pt', R, R0, H0, w, q, k⟩ := q
  obtain ⟨d1, p1, e1, q1⟩ := Mo.bnd_some q
  obtain ⟨d2, p2, e2, q2⟩ := Mo.bnd_some q1
  split at q2
  · rename_i cc
    cases q2
    obtain ⟨c1, e3⟩ := evS_some e1
    obtain ⟨c2, e4⟩ := evS_some e2
    refine ⟨po, vw E, pt, d1, p1, d2, _, R, w.wd c1, e3, e4, fun v1 R1 H1 v2 R2 H2 x1 q1 o1 x2 q2 o2 => ⟨hz, fun p np => ⟨p, [v1, v2], rfl, .inl (.inl upd_same), rfl, v1, [v2], rfl, v2, [], rfl, rfl, ?_⟩⟩⟩
    have x3 : Ext po R2 H2 R2 (upd H2 p (.tup [v1, v2])) := .side x2.s np
    have w1 := w.up x1 q1
    have w1i := w.putM w1 o1 cc.1 cc.2.1
    have q3 : PotAt po (upd H2 p (.tup [v1, v2])) pt' := fun y ey => by
      rw [upd_ne fun z => by have := q2 y ey; rw [z, np] at this; cases this]
      exact q2 y ey
    have x23 := x2.trans x3
    have w2 := w1.up x23 q3
    have w2i := w.putM w2 (o1.up w.pot x1.d x23) cc.1 cc.2.1
    exact k _ R2 _ (w1i.putM w2i (o2.up q1 x2.d x3) (by rw [List.length_set]; exact cc.2.2.1) cc.2.2.2) (x1.trans x23).r
  · cases q2
/-! lists of one's own -/
def ownL (i : Nat) (E : SEn) : Option (List Dt) := match E[i]? with
  | some (.ow (.list xs)) => some xs
  | _ => none
theorem ownL_some {i : Nat} {xs : List Dt} (h : ownL i E = some xs) : E[i]? = some (Sl.ow (.list xs)) := by
  unfold ownL at h
  split at h
  · cases h; assumption
  · cases h
theorem Ws.ownList {i : Nat} {xs : List Dt} (w : Ws K ps po R0 H0 σ E pt R H) (e : E[i]? = some (Sl.ow (.list xs))) : ∃ a vs, σ[i]? = some (some (.ref a)) ∧ H a = some (.lst vs) ∧ RpL K R vs xs ∧ xs.length ≤ sizeLine := by
  obtain ⟨v, a, h1, o⟩ := w.ow i _ e
  have := o.e
  subst this
  rcases o.c with ⟨vs, ds, e1, h, l, z⟩ | ⟨_, _, e1, _⟩ | ⟨_, _, e1, _⟩
  · cases e1; exact ⟨a, vs, h1, h, l, z⟩
  · cases e1
  · cases e1
def sApp (i : Nat) (S : List Nat) (h : Dn) : Sn := fun E => (Mo.ofO (ownL i E)).bnd fun xs => (evS S h E).bnd fun d => if xs.length < sizeLine then Mo.ret (.nx (E.set i (.ow (.list (xs ++ [d]))))) else Mo.fail
theorem st_app {i : Nat} {x : Str} {p2 apos cpos : Pos} (hx : PE X (.Name x p2) (tVar i)) (hn : notStar e = true) (he : PE X e (TD X.K ps S h)) (hb : attributeBase (.Name x p2) "append" X.env (eval (.Name x p2) X.env) = eval (.Name x p2) X.env)
    (hl : (apos.endLine == cpos.line) = true) (hs : swapsWith (.Call (.Attribute (.Name x p2) "append" apos) [e] [] cpos) none pos.line X.env = pure false) :
    PS X (.Expr (.Call (.Attribute (.Name x p2) "append" apos) [e] [] cpos) pos) (TSt X.K ps fr (sApp i S h)) := by
  refine ps_imp (ps_expr (pe_bm PySem.F.plainAttrs_list PySem.F.slot_list_append PySem.F.type_list_append mt_append hx (pa_cons he pa_nil (star_no hn)) hb (by rw [star_no hn]; rfl) hl (star_no hn)) hs) fun D σ H ⟨po, E, pt, r, pt', R, R0, H0, w, q, k⟩ => ?_
  obtain ⟨xs, p1, e1, q1⟩ := Mo.bnd_some q
  obtain ⟨e1', ep⟩ := Mo.ofO_some e1
  subst ep
  obtain ⟨d, p2, e2, q2⟩ := Mo.bnd_some q1
  split at q2
  · rename_i hz
    cases q2
    obtain ⟨c, e3⟩ := evS_some e2
    have eo := ownL_some e1'
    obtain ⟨a, vs, h1, h2, l, z⟩ := w.ownList eo
    refine ⟨.ref a, h1, .inl ⟨rfl, vs, .inl (.inl h2)⟩, ⟨po, vw E, _, d, _, R, w.wd c, e3, fun v R' H' x pq rv => ?_⟩⟩
    have w' := w.up x pq
    obtain ⟨a', vs', h1', h2', l', z'⟩ := w'.ownList eo
    rw [h1] at h1'
    cases h1'
    refine ⟨a, vs', v, rfl, rfl, h2', by rw [l'.len]; exact hz, ?_⟩
    exact k _ R' _ (w'.mut eo h1 (.inl ⟨_, _, rfl, upd_same, l'.app (.cons rv .nil), by rw [List.length_append, List.length_singleton]; omega⟩)) x.r
  · cases q2
def sExt (i : Nat) (S : List Nat) (h : Dn) : Sn := fun E => (Mo.ofO (ownL i E)).bnd fun xs => (evS S h E).bnd fun d => match d with
  | .list ys => if xs.length + ys.length ≤ sizeLine then Mo.ret (.nx (E.set i (.ow (.list (xs ++ ys))))) else Mo.fail
  | _ => Mo.fail
section
variable {X : Cx}
def rExtendE (K : PySem.W.Frag) : V → List V → Hp → VK → Prop := fun x vs H Q => ∃ l b xs zs, x = .ref l ∧ vs = [.ref b] ∧ H l = some (.lst xs) ∧ SqE K H b zs ∧ xs.length + zs.length ≤ sizeLine ∧ Q .non (upd H l (.lst (xs ++ zs)))
theorem mt_extendE : MtM X "list.extend" (rExtendE X.K) := by
  intro pins s σ H x vs v us Q I rx rv h
  obtain ⟨l, b, xs, zs, rfl, rfl, hH, hB, hz, q⟩ := h
  cases rx
  obtain ⟨u, rfl, ru⟩ := rv.one
  cases ru
  obtain ⟨z, its, n, r, hl, e⟩ := I.lstM hH
  obtain ⟨z2, its2, n2, r2, hl2, e2⟩ := Inv.listE I hB
  have hsz : its.toArray.size + its2.toArray.size ≤ sizeLine := by rw [List.size_toArray, List.size_toArray]; omega
  have hlong : ¬ (!its.toArray.isEmpty && Builtin.List.listTooLong (its.toArray.size + its2.toArray.size)) = true := by
    rw [notLongL hsz, Bool.and_false]
    exact Bool.false_ne_true
  refine call_meets F.slot_list_extend ⟨_, e, rfl⟩ F.entry_list_extend (F.args_list_extend_2 _ _)
    (AutoSeq1.list_extend_list_list_0 l its.toArray n b its2.toArray n2 hlong (by rw [List.size_toArray]; omega) (by omega)) ⟨e, e2, ?_⟩
  refine ⟨.non, _, I.lset (its' := its ++ its2) hH e (by simp) (r.append r2) ?_, rfl, q⟩
  rw [List.length_append]
  omega
end
theorem st_ext {i : Nat} {x : Str} {p2 apos cpos : Pos} (hx : PE X (.Name x p2) (tVar i)) (hn : notStar e = true) (he : PE X e (TB X.K ps S h)) (hb : attributeBase (.Name x p2) "extend" X.env (eval (.Name x p2) X.env) = eval (.Name x p2) X.env)
    (hl : (apos.endLine == cpos.line) = true) (hs : swapsWith (.Call (.Attribute (.Name x p2) "extend" apos) [e] [] cpos) none pos.line X.env = pure false) :
    PS X (.Expr (.Call (.Attribute (.Name x p2) "extend" apos) [e] [] cpos) pos) (TSt X.K ps fr (sExt i S h)) := by
  refine ps_imp (ps_expr (pe_bm PySem.F.plainAttrs_list PySem.F.slot_list_extend PySem.F.type_list_extend mt_extendE hx (pa_cons he pa_nil (star_no hn)) hb (by rw [star_no hn]; rfl) hl (star_no hn)) hs) fun D σ H ⟨po, E, pt, r, pt', R, R0, H0, w, q, k⟩ => ?_
  obtain ⟨xs, p1, e1, q1⟩ := Mo.bnd_some q
  obtain ⟨e1', ep⟩ := Mo.ofO_some e1
  subst ep
  obtain ⟨d, p2, e2, q2⟩ := Mo.bnd_some q1
  split at q2
  · split at q2
    · rename_i ys hz
      cases q2
      obtain ⟨c, e3⟩ := evS_some e2
      have eo := ownL_some e1'
      obtain ⟨a, vs, h1, h2, l, z⟩ := w.ownList eo
      refine ⟨.ref a, h1, .inl ⟨rfl, vs, .inl (.inl h2)⟩, ⟨po, vw E, _, _, _, R, w.wd c, e3, fun v R' H' x pq sv => ?_⟩⟩
      have w' := w.up x pq
      obtain ⟨a', vs', h1', h2', l', z'⟩ := w'.ownList eo
      rw [h1] at h1'
      cases h1'
      obtain ⟨b, us, rfl, h3, l2, z2⟩ := sv.list w'.ext.s
      refine ⟨a, b, vs', us, rfl, rfl, h2', h3, by rw [l'.len, l2.len]; exact hz, ?_⟩
      exact k _ R' _ (w'.mut eo h1 (.inl ⟨_, _, rfl, upd_same, l'.app l2, by rw [List.length_append]; exact hz⟩)) x.r
    · cases q2
  · cases q2
/-- x.pop() -/
def popD (i : Nat) (E : SEn) : Option (Dt × SEn) := (ownL i E).bind fun xs => (xs[xs.length - 1]?).map fun d => (d, E.set i (.ow (.list xs.dropLast)))
def popAtD (i : Nat) (k : Int) (E : SEn) : Option (Dt × SEn) := (ownL i E).bind fun xs => (ixN xs.length k).bind fun j => (xs[j]?).map fun d => (d, E.set i (.ow (.list (xs.eraseIdx j))))
def sPop (ps : Option Nat) (j i : Nat) : Sn := fun E => (Mo.ofO (popD i E)).bnd fun p => setS ps j (.sh p.1) p.2
def sPopAt (ps : Option Nat) (j i : Nat) (S : List Nat) (h : Dn) : Sn := fun E => (evS S h E).bnd fun d => match d with
  | .int k => (Mo.ofO (popAtD i k E)).bnd fun p => setS ps j (.sh p.1) p.2
  | _ => Mo.fail
def sPopX (i : Nat) : Sn := fun E => (Mo.ofO (popD i E)).bnd fun p => Mo.ret (.nx p.2)
def sPopAtX (i : Nat) (S : List Nat) (h : Dn) : Sn := fun E => (evS S h E).bnd fun d => match d with
  | .int k => (Mo.ofO (popAtD i k E)).bnd fun p => Mo.ret (.nx p.2)
  | _ => Mo.fail
theorem RpL.erase {R : Hp} : ∀ {vs : List V} {ds : List Dt} (n : Nat), RpL K R vs ds → RpL K R (vs.eraseIdx n) (ds.eraseIdx n)
  | _, _, _, .nil => .nil
  | _, _, 0, .cons _ l => l
  | _, _, n + 1, .cons r l => .cons r (RpL.erase n l)
theorem RpL.last {R : Hp} {vs : List V} {ds : List Dt} (l : RpL K R vs ds) : RpL K R vs.dropLast ds.dropLast := by
  rw [List.dropLast_eq_take, List.dropLast_eq_take, l.len]
  exact l.take _
theorem pop_ok {i : Nat} {d : Dt} {E' : SEn} (w : Ws K ps po R0 H0 σ E pt R H) (q : popD i E = some (d, E')) : ∃ a vs v, σ[i]? = some (some (.ref a)) ∧ H a = some (.lst vs) ∧ vs[vs.length - 1]? = some v ∧ Rp K R v d ∧ Ws K ps po R0 H0 σ E' pt R (upd H a (.lst vs.dropLast)) := by
  obtain ⟨xs, e1, q⟩ := Option.bind_eq_some_iff.mp q
  obtain ⟨d', e2, e3⟩ := Option.map_eq_some_iff.mp q
  cases e3
  have eo := ownL_some e1
  obtain ⟨a, vs, h1, h2, l, z⟩ := w.ownList eo
  obtain ⟨v, e4, rv⟩ := l.get e2
  exact ⟨a, vs, v, h1, h2, by rw [l.len]; exact e4, rv, w.mut eo h1 (.inl ⟨_, _, rfl, upd_same, l.last, by rw [List.length_dropLast]; omega⟩)⟩
theorem popAt_ok {i : Nat} {k : Int} {d : Dt} {E' : SEn} (w : Ws K ps po R0 H0 σ E pt R H) (q : popAtD i k E = some (d, E')) : ∃ a vs j v, σ[i]? = some (some (.ref a)) ∧ H a = some (.lst vs) ∧ -(2 ^ 63) ≤ k ∧ k < 2 ^ 63 ∧ seqIndex? k vs.length = some j ∧ vs[j]? = some v ∧ Rp K R v d ∧ Ws K ps po R0 H0 σ E' pt R (upd H a (.lst (vs.eraseIdx j))) := by
  obtain ⟨xs, e1, q⟩ := Option.bind_eq_some_iff.mp q
  obtain ⟨j, e5, q⟩ := Option.bind_eq_some_iff.mp q
  obtain ⟨d', e2, e3⟩ := Option.map_eq_some_iff.mp q
  cases e3
  have eo := ownL_some e1
  obtain ⟨a, vs, h1, h2, l, z⟩ := w.ownList eo
  obtain ⟨v, e4, rv⟩ := l.get e2
  obtain ⟨g1, g2, g3, g4⟩ := ixN_seq e5
  have hl := line63
  refine ⟨a, vs, j, v, h1, h2, by omega, by omega, by rw [l.len]; exact g1, e4, rv, w.mut eo h1 (.inl ⟨_, _, rfl, upd_same, l.erase j, ?_⟩)⟩
  have := len_erase xs j
  omega
section
variable {i j : Nat} {x : Str} {p2 apos cpos : Pos}
theorem st_pop (hx : PE X (.Name x p2) (tVar i)) (hb : attributeBase (.Name x p2) "pop" X.env (eval (.Name x p2) X.env) = eval (.Name x p2) X.env) (hl : (apos.endLine == cpos.line) = true)
    (hst : ∀ te, PE X (.Call (.Attribute (.Name x p2) "pop" apos) [] [] cpos) te → PS X st (tAsg te (gName j))) : PS X st (TSt X.K ps fr (sPop ps j i)) := by
  refine ps_imp (hst _ (pe_bm0 PySem.F.plainAttrs_list PySem.F.slot_list_pop PySem.F.type_list_pop mt_pop hx hb hl)) fun D σ H ⟨po, E, pt, r, pt', R, R0, H0, w, q, k⟩ => ?_
  obtain ⟨⟨d, E'⟩, p1, e1, q1⟩ := Mo.bnd_some q
  obtain ⟨e1', ep⟩ := Mo.ofO_some e1
  subst ep
  obtain ⟨hi, hp, er, ep⟩ := setS_some q1
  subst er ep
  obtain ⟨a, vs, v, h1, h2, h3, rv, w'⟩ := pop_ok w e1'
  exact ⟨.ref a, h1, .inl ⟨rfl, vs, .inl (.inl h2)⟩, a, vs, v, rfl, rfl, h2, h3, k _ R _ (w'.putS rv hi hp) (Sub.refl R)⟩
theorem st_popX (hx : PE X (.Name x p2) (tVar i)) (hb : attributeBase (.Name x p2) "pop" X.env (eval (.Name x p2) X.env) = eval (.Name x p2) X.env) (hl : (apos.endLine == cpos.line) = true)
    (hs : swapsWith (.Call (.Attribute (.Name x p2) "pop" apos) [] [] cpos) none pos.line X.env = pure false) : PS X (.Expr (.Call (.Attribute (.Name x p2) "pop" apos) [] [] cpos) pos) (TSt X.K ps fr (sPopX i)) := by
  refine ps_imp (ps_expr (pe_bm0 PySem.F.plainAttrs_list PySem.F.slot_list_pop PySem.F.type_list_pop mt_pop hx hb hl) hs) fun D σ H ⟨po, E, pt, r, pt', R, R0, H0, w, q, k⟩ => ?_
  obtain ⟨⟨d, E'⟩, p1, e1, q1⟩ := Mo.bnd_some q
  obtain ⟨e1', ep⟩ := Mo.ofO_some e1
  subst ep
  cases q1
  obtain ⟨a, vs, v, h1, h2, h3, rv, w'⟩ := pop_ok w e1'
  exact ⟨.ref a, h1, .inl ⟨rfl, vs, .inl (.inl h2)⟩, a, vs, v, rfl, rfl, h2, h3, k _ R _ w' (Sub.refl R)⟩
theorem st_popAt (hx : PE X (.Name x p2) (tVar i)) (hn : notStar e = true) (he : PE X e (TB X.K ps S h)) (hb : attributeBase (.Name x p2) "pop" X.env (eval (.Name x p2) X.env) = eval (.Name x p2) X.env) (hl : (apos.endLine == cpos.line) = true)
    (hst : ∀ te, PE X (.Call (.Attribute (.Name x p2) "pop" apos) [e] [] cpos) te → PS X st (tAsg te (gName j))) : PS X st (TSt X.K ps fr (sPopAt ps j i S h)) := by
  refine ps_imp (hst _ (pe_bm PySem.F.plainAttrs_list PySem.F.slot_list_pop PySem.F.type_list_pop mt_popAt hx (pa_cons he pa_nil (star_no hn)) hb (by rw [star_no hn]; rfl) hl (star_no hn))) fun D σ H ⟨po, E, pt, r, pt', R, R0, H0, w, q, k⟩ => ?_
  obtain ⟨d, p1, e1, q1⟩ := Mo.bnd_some q
  obtain ⟨c, e2⟩ := evS_some e1
  split at q1
  · obtain ⟨⟨d', E'⟩, p3, e3, q3⟩ := Mo.bnd_some q1
    obtain ⟨e3', ep⟩ := Mo.ofO_some e3
    subst ep
    obtain ⟨hi, hp, er, ep⟩ := setS_some q3
    subst er ep
    obtain ⟨a0, vs0, h10, h20, _, _⟩ : ∃ a vs, σ[i]? = some (some (.ref a)) ∧ H a = some (.lst vs) ∧ True ∧ True := by
      obtain ⟨a, vs, _, _, h1, h2, _⟩ := popAt_ok w e3'
      exact ⟨a, vs, h1, h2, trivial, trivial⟩
    refine ⟨.ref a0, h10, .inl ⟨rfl, vs0, .inl (.inl h20)⟩, ⟨po, vw E, pt, _, _, R, w.wd c, e2, fun u R' H' xx pq s => ?_⟩⟩
    obtain rfl := s.int
    obtain ⟨a, vs, jj, v, h1, h2, b1, b2, h3, h4, rv, w'⟩ := popAt_ok (w.up xx pq) e3'
    rw [h10] at h1
    cases h1
    exact ⟨a0, vs, _, jj, v, rfl, rfl, h2, b1, b2, h3, h4, k _ R' _ (w'.putS rv hi hp) xx.r⟩
  · cases q1
theorem st_popAtX (hx : PE X (.Name x p2) (tVar i)) (hn : notStar e = true) (he : PE X e (TB X.K ps S h)) (hb : attributeBase (.Name x p2) "pop" X.env (eval (.Name x p2) X.env) = eval (.Name x p2) X.env) (hl : (apos.endLine == cpos.line) = true)
    (hs : swapsWith (.Call (.Attribute (.Name x p2) "pop" apos) [e] [] cpos) none pos.line X.env = pure false) : PS X (.Expr (.Call (.Attribute (.Name x p2) "pop" apos) [e] [] cpos) pos) (TSt X.K ps fr (sPopAtX i S h)) := by
  refine ps_imp (ps_expr (pe_bm PySem.F.plainAttrs_list PySem.F.slot_list_pop PySem.F.type_list_pop mt_popAt hx (pa_cons he pa_nil (star_no hn)) hb (by rw [star_no hn]; rfl) hl (star_no hn)) hs) fun D σ H ⟨po, E, pt, r, pt', R, R0, H0, w, q, k⟩ => ?_
  obtain ⟨d, p1, e1, q1⟩ := Mo.bnd_some q
  obtain ⟨c, e2⟩ := evS_some e1
  split at q1
  · obtain ⟨⟨d', E'⟩, p3, e3, q3⟩ := Mo.bnd_some q1
    obtain ⟨e3', ep⟩ := Mo.ofO_some e3
    subst ep
    cases q3
    obtain ⟨a0, vs0, h10, h20, _, _⟩ : ∃ a vs, σ[i]? = some (some (.ref a)) ∧ H a = some (.lst vs) ∧ True ∧ True := by
      obtain ⟨a, vs, _, _, h1, h2, _⟩ := popAt_ok w e3'
      exact ⟨a, vs, h1, h2, trivial, trivial⟩
    refine ⟨.ref a0, h10, .inl ⟨rfl, vs0, .inl (.inl h20)⟩, ⟨po, vw E, pt, _, _, R, w.wd c, e2, fun u R' H' xx pq s => ?_⟩⟩
    obtain rfl := s.int
    obtain ⟨a, vs, jj, v, h1, h2, b1, b2, h3, h4, rv, w'⟩ := popAt_ok (w.up xx pq) e3'
    rw [h10] at h1
    cases h1
    exact ⟨a0, vs, _, jj, v, rfl, rfl, h2, b1, b2, h3, h4, k _ R' _ w' xx.r⟩
  · cases q1
end
end
end Ev

/-! Ev, part L: membership, isinstance, sets of ints used at once, items of one's own lists. -/
namespace Ev
open PySem L2 PyProof.Rows

/-! ### in -/
def inD (x y : Dt) : Option Dt := if SeqAt.shaped x = true ∧ SeqAt.shaped y = true then (itemsD y).map fun ds => .bool (ds.any fun z => PyData.eqv z x) else none
def notInD (x y : Dt) : Option Dt := if SeqAt.shaped x = true ∧ SeqAt.shaped y = true then (itemsD y).map fun ds => .bool (!ds.any fun z => PyData.eqv z x) else none
section
variable {X : Cx}
theorem ov_in (hu : X.A.units + 65 < cLine) : OpR X (compareOp .In) (V2 X.K inD) := fun pins s σ H x y v u Q I rx ry ⟨po, R, dx, dy, d, sb, sx, sy, e, ko⟩ => by
  unfold inD at e
  split at e
  · rename_i h
    obtain ⟨ds, e1, e2⟩ := Option.map_eq_some_iff.mp e
    subst e2
    obtain ⟨as, r1⟩ := Dp.reads I dx x v (sx.dp sb (flat_lay _ (SeqAt.canLay_of_shaped h.1))) rx
    obtain ⟨bs, r2⟩ := Dp.reads I dy y u (sy.dp sb (flat_lay _ (SeqAt.canLay_of_shaped h.2))) ry
    rcases itemsD_some e1 with rfl | rfl
    · exact SeqAt.in_list_reads r2 r1 (SeqAt.canLay_of_shaped h.2) (SeqAt.canLay_of_shaped h.1) (room_in_shaped h.1 hu) ⟨.bl _, H, I, rfl, ko.bool sb⟩
    · exact SeqAt.in_tuple_reads r2 r1 (SeqAt.canLay_of_shaped h.2) (SeqAt.canLay_of_shaped h.1) (room_in_shaped h.1 hu) ⟨.bl _, H, I, rfl, ko.bool sb⟩
  · cases e
theorem ov_notIn (hu : X.A.units + 65 < cLine) : OpR X (compareOp .NotIn) (V2 X.K notInD) := fun pins s σ H x y v u Q I rx ry ⟨po, R, dx, dy, d, sb, sx, sy, e, ko⟩ => by
  unfold notInD at e
  split at e
  · rename_i h
    obtain ⟨ds, e1, e2⟩ := Option.map_eq_some_iff.mp e
    subst e2
    obtain ⟨as, r1⟩ := Dp.reads I dx x v (sx.dp sb (flat_lay _ (SeqAt.canLay_of_shaped h.1))) rx
    obtain ⟨bs, r2⟩ := Dp.reads I dy y u (sy.dp sb (flat_lay _ (SeqAt.canLay_of_shaped h.2))) ry
    rcases itemsD_some e1 with rfl | rfl
    · exact SeqAt.notIn_list_reads r2 r1 (SeqAt.canLay_of_shaped h.2) (SeqAt.canLay_of_shaped h.1) (room_in_shaped h.1 hu) ⟨.bl _, H, I, rfl, ko.bool sb⟩
    · exact SeqAt.notIn_tuple_reads r2 r1 (SeqAt.canLay_of_shaped h.2) (SeqAt.canLay_of_shaped h.1) (room_in_shaped h.1 hu) ⟨.bl _, H, I, rfl, ko.bool sb⟩
  · cases e
end

/-! ### isinstance -/
def kits : List String := ["int", "bool", "str", "tuple", "list", "dict"]
section
variable {X : Cx} {K : PySem.W.Frag} {ps : Option Nat} {S : List Nat} {e : Expr} {f : Dn} {x : Str} {p p2 pos : Pos}
theorem pe_bty {n : String} (hg : Gl X x) (hm : X.mg x = none) (hv : bootBuiltins x = some (.type n)) (hn : x ≠ "__name__") (hd : (x == ("__debug__" : Str)) = false) : PE X (.Name x pos) (tC (.ty n)) :=
  ⟨fun pins s σ H Q I h => ld_blt I hg hm hv ⟨.ty n, H, I, rfl, h⟩ hn hd⟩
def isI (T : String) (d : Dt) : Option Dt := some (.bool (isG T d))
theorem de_isi {T : String} (hT : kits.contains T = true) (hg : Gl X "isinstance") (hm : X.mg "isinstance" = none) (hg2 : Gl X x) (hm2 : X.mg x = none) (hv : bootBuiltins x = some (.type T)) (hnn : x ≠ "__name__") (hdb : (x == ("__debug__" : Str)) = false) (hn : notStar e = true) (he : PE X e (TB X.K ps S f)) :
    PE X (.Call (.Name "isinstance" p) [e, .Name x p2] [] pos) (TF X.K ps S (d1 (isI T) f)) := by
  refine pe_imp (pe_callB call_isi hg hm (by decide +kernel : bootBuiltins "isinstance" = some (.builtin "isinstance")) (pa_cons he (pa_cons (pe_bty hg2 hm2 hv hnn hdb) pa_nil (star_no (by rfl))) (star_no hn)) (by decide) (by decide) (star_no hn) (by rfl)) fun σ H Q ⟨po, env, pt, d, pt', R, w, q, k⟩ => ?_
  obtain ⟨dx, p1, e1, q⟩ := Mo.bnd_some q
  obtain ⟨e3, rfl⟩ := Mo.ofO_some q
  cases e3
  refine ⟨po, env, pt, dx, _, R, w, e1, fun v R1 H1 x1 q1 s1 => ?_⟩
  obtain ⟨t, ht, hk⟩ := Shal.tyX (K := X.K) x1.s s1
  have hk := (hk T).resolve_right fun z => z (by
    unfold kits at hT
    simp only [List.contains_cons, List.contains_nil, Bool.or_false, Bool.or_eq_true, beq_iff_eq] at hT
    exact hT)
  exact ⟨v, .ty T, .type t, .type T, _, rfl, .ty T, ht, kit_ty hk, k _ R1 H1 x1 q1 (.inr ⟨rfl, .bl _⟩)⟩
end

/-! ### a set of ints, made and used at once -/
section
variable {P : Program} {w : World} {A : Around} {E : Value → Shared → Prop} {s : Shared}
/-- (after HandS.SetFor's set of a tuple) set of a list of ints -/
theorem set_listI {l : Addr} {items : Array Value} (ns : List Int) {Q : Value → Shared → Prop} (hh : A.handled = none) (hl : s.heap.IsList l items) (hit : IntsAre items.toList ns) (hb : ns.length + 1 < scanBound)
    (h : ∀ (h' : Heap) (tk c : Nat), SetR w h' s.heap.objs.size (fun j => decide (j ∈ ns)) c → c ≤ ns.length → (∀ b o, s.heap.get? b = some o → h'.get? b = some o) → Q (.ref s.heap.objs.size) { s with heap := h', toks := tk }) :
    wpAny (model P w) A (call (.type "set") [.ref l]) Q E s := by
  have hisz : items.size = ns.length := by
    have q := IntsAre.length hit
    rw [Array.length_toList] at q
    exact q
  obtain ⟨c, tl, hmro⟩ := PySem.F.called_set.mro
  have hmade := PySem.F.called_set.made
  have hsub := PySem.F.called_set.sub
  refine wpAny_call (codeAny_of_tree ?_)
  show wpAny _ _ (callAny (.type "set") _) _ _ _
  refine wpAny_pure ⟨Code.quiet_builtin _ (by decide +kernel), codeAny_builtin PySem.F.entry_type_call ?_⟩
  rw [Around.under_plain (weight_type_call_type "set" [.ref l] []) rfl]
  have h1 := PySem.F.called_set.notType
  have h2 := PySem.F.called_set.canCreate
  have hct := PySem.F.typeCall_set_1 (.ref l)
  repeat (any_goals (first | assumption | wp_step))
  refine codeAny_mono (code_set_led1 (.ref l) (E := E) (Q₁ := fun obj s₁ => obj = .ref s.heap.objs.size ∧ s₁ = { s with heap := s.heap.push { cls := .type "set", dict := none, data := .set #[] 0 (.fresh 0 0 (!w.params.followText "set-order")) } }) ⟨rfl, rfl⟩) fun r s₁ hr => ?_
  cases r with
  | error e => exact hr
  | ok fl =>
    cases fl with
    | ret obj =>
      obtain ⟨rfl, rfl⟩ := hr
      have hS : (s.heap.push { cls := .type "set", dict := none, data := .set #[] 0 (.fresh 0 0 (!w.params.followText "set-order")) }).get? s.heap.objs.size = some { cls := .type "set", dict := none, data := .set #[] 0 (.fresh 0 0 (!w.params.followText "set-order")) } := Heap.get?_push_size _ rfl
      have hT : Shared.TypeIs { s with heap := s.heap.push { cls := .type "set", dict := none, data := .set #[] 0 (.fresh 0 0 (!w.params.followText "set-order")) } } (.ref s.heap.objs.size) "set" := ⟨_, hS, rfl⟩
      have hli := PySem.F.called_set.init.lookup
      have hbi := PySem.F.called_set.init.bind (.ref s.heap.objs.size)
      repeat (any_goals (first | assumption | wp_step))
      refine codeAny_mono (codeAny_call_builtin (R := wants (fun r s₂ => r = .none ∧ ∃ h' tk c, s₂ = { s with heap := h', toks := tk } ∧ SetR w h' s.heap.objs.size (fun j => decide (j ∈ ns)) c ∧ c ≤ ns.length ∧
          (∀ b o, s.heap.get? b = some o → h'.get? b = some o)) E) PySem.F.called_set.init.plain PySem.F.entry_set_init (check_set_init_1 hT ?_)) fun r₂ s₂ hr₂ => ?_
      · obtain ⟨⟨oc, od, ot, os⟩, hol, hcl, nl, hdl⟩ := hl
        simp only at hcl hdl
        subst hcl hdl
        have hol' : (s.heap.push { cls := .type "set", dict := none, data := .set #[] 0 (.fresh 0 0 (!w.params.followText "set-order")) }).get? l = some { cls := .type "list", dict := od, data := .seq items nl, slots := os } := Heap.get?_push_of_some _ hol
        have f1 := PySem.F.sub_list_set
        have f2 := PySem.F.sub_list_frozenset
        have f3 : (Value.type "list" == Value.type "dict") = false := by decide
        have hl1 : (s.heap.push { cls := .type "set", dict := none, data := .set #[] 0 (.fresh 0 0 (!w.params.followText "set-order")) }).IsList l items := ⟨_, hol', rfl, nl, rfl⟩
        unfold Builtin.«set.__init__» noKeywords Builtin.Frozenset.updateFrom
        generalize hPI : pyIter = PI
        wp_walk
        subst hPI
        refine wpAny_pyIter_list hl1 ?_
        refine wpAny_bind (wpAny_runValue ?_)
        have ll : l < s.heap.objs.size := Heap.lt_size hol
        have hz1 : (s.heap.push { cls := .type "set", dict := none, data := .set #[] 0 (.fresh 0 0 (!w.params.followText "set-order")) }).objs.size = s.heap.objs.size + 1 := Heap.size_push ..
        have fp : s.heap.objs.size ∉ [(s.heap.push { cls := .type "set", dict := none, data := .set #[] 0 (.fresh 0 0 (!w.params.followText "set-order")) }).objs.size, l] := by
          rw [hz1]
          intro m
          rcases List.mem_cons.mp m with e | m
          · exact Nat.ne_of_lt (Nat.lt_succ_self _) e
          · exact Nat.ne_of_gt ll (List.mem_singleton.mp m)
        have val : ∀ (i : Nat) (v : Value), items[i]? = some v → ∃ k t, ns[i]? = some k ∧ v = .int k t := fun i v hv => by
          obtain ⟨t, e⟩ := PyProof.Rows.IntsAre.int_at hit i v (by rw [Array.getElem?_toList]; exact hv)
          have hi : i < ns.length := by rw [← hisz]; exact (Array.getElem?_eq_some_iff.mp hv).1
          exact ⟨ns[i], t, List.getElem?_eq_getElem hi, by rw [e, List.getD_eq_getElem?_getD, List.getElem?_eq_getElem hi]; rfl⟩
        refine set_update_ints ((Walks.list (by simp [hh]) _ l (by rw [hz1]; exact Nat.ne_of_lt (Nat.lt_succ_of_lt ll)) items).toS) s.heap.objs.size fp ns hisz hb val (items.size - 0) 0 _ (by omega) (Nat.zero_le _)
          ⟨⟨_, Heap.get?_push_size _ rfl, rfl, rfl⟩, hl1.push _⟩ ?_ ?_
        · refine ⟨0, Nat.le_refl 0, setR_new_at ?_⟩
          exact Heap.get?_push_of_some _ hS
        · intro s' c' hm hc' hS'
          obtain ⟨h', g2, d', tk', os'⟩ := s'
          obtain rfl : g2 = s.gens := hm.gens
          obtain rfl : d' = s.drawn := hm.drawn
          obtain rfl : os' = s.os := hm.os
          show wpAny _ _ _ _ _ _
          refine wpAny_pure ?_
          show wpAny _ _ (ret Value.none) _ _ _
          rw [hisz] at hc'
          refine wpAny_pure ⟨rfl, h', tk', c', rfl, hS', hc', fun b o e => hm.heap b o (fun m => ?_) (Heap.get?_push_of_some _ (Heap.get?_push_of_some _ e))⟩
          have lt := Heap.lt_size e
          rcases List.mem_cons.mp m with q | m
          · exact Nat.ne_of_lt lt q
          · rw [hz1] at m
            exact Nat.ne_of_lt (Nat.lt_succ_of_lt lt) (List.mem_singleton.mp m)
      · cases r₂ with
        | error e => exact hr₂
        | ok fl₂ =>
          cases fl₂ with
          | ret r =>
            obtain ⟨rfl, h', tk, c', rfl, hS', hc', hk'⟩ := hr₂
            repeat (any_goals (first | assumption | wp_step))
            exact h _ _ _ hS' hc' hk'
          | _ => exact hr₂.elim
    | _ => exact hr.elim
theorem set_seqI {k : Bool} {l : Addr} {items : Array Value} (ns : List Int) {Q : Value → Shared → Prop} (hh : A.handled = none) (hl : SeqH k s.heap l items) (hit : IntsAre items.toList ns) (hb : ns.length + 1 < scanBound)
    (h : ∀ (h' : Heap) (tk c : Nat), SetR w h' s.heap.objs.size (fun j => decide (j ∈ ns)) c → c ≤ ns.length → (∀ b o, s.heap.get? b = some o → h'.get? b = some o) → Q (.ref s.heap.objs.size) { s with heap := h', toks := tk }) :
    wpAny (model P w) A (call (.type "set") [.ref l]) Q E s := by
  cases k
  · exact set_listI ns hh hl hit hb h
  · exact call_set_tupI ns hh hl hit hb h
end
end Ev

/-! Ev, part M: sorted(set(x)), len(set(x)) of ints; items of one's own lists. -/
namespace Ev
open PySem L2 PyProof.Rows

/-! ### ascending, each once -/
def insU (x : Int) : List Int → List Int
  | [] => [x]
  | y :: r => if x < y then x :: y :: r else if x = y then y :: r else y :: insU x r
def sortU (ns : List Int) : List Int := ns.foldr insU []
theorem mem_insU {x z : Int} : ∀ {l : List Int}, z ∈ insU x l ↔ z = x ∨ z ∈ l
  | [] => by simp [insU]
  | y :: r => by
    unfold insU
    split
    · simp
    · split
      · rename_i h; subst h; simp
      · simp only [List.mem_cons, mem_insU (l := r)]
        constructor
        · rintro (h | h | h)
          · exact .inr (.inl h)
          · exact .inl h
          · exact .inr (.inr h)
        · rintro (h | h | h)
          · exact .inr (.inl h)
          · exact .inl h
          · exact .inr (.inr h)
theorem mem_sortU {z : Int} : ∀ {l : List Int}, z ∈ sortU l ↔ z ∈ l
  | [] => by simp [sortU]
  | y :: r => by
    show z ∈ insU y (sortU r) ↔ _
    rw [mem_insU, mem_sortU (l := r), List.mem_cons]
theorem insU_lt {x : Int} : ∀ {l : List Int}, l.Pairwise (· < ·) → (insU x l).Pairwise (· < ·)
  | [], _ => by simp [insU]
  | y :: r, h => by
    obtain ⟨h1, h2⟩ := List.pairwise_cons.mp h
    unfold insU
    split
    · rename_i lt
      refine List.pairwise_cons.mpr ⟨fun z hz => ?_, h⟩
      rcases List.mem_cons.mp hz with e | m
      · rw [e]; exact lt
      · exact Int.lt_trans lt (h1 z m)
    · split
      · exact h
      · refine List.pairwise_cons.mpr ⟨fun z hz => ?_, insU_lt h2⟩
        rcases mem_insU.mp hz with e | m
        · rw [e]; omega
        · exact h1 z m
theorem sortU_lt : ∀ l : List Int, (sortU l).Pairwise (· < ·)
  | [] => .nil
  | y :: r => insU_lt (sortU_lt r)
theorem lt_unique : ∀ {l m : List Int}, l.Pairwise (· < ·) → m.Pairwise (· < ·) → (∀ z, z ∈ l ↔ z ∈ m) → l = m
  | [], [], _, _, _ => rfl
  | [], y :: r, _, _, h => absurd ((h y).mpr List.mem_cons_self) (by simp)
  | x :: l, [], _, _, h => absurd ((h x).mp List.mem_cons_self) (by simp)
  | x :: l, y :: r, hl, hr, h => by
    obtain ⟨a1, a2⟩ := List.pairwise_cons.mp hl
    obtain ⟨b1, b2⟩ := List.pairwise_cons.mp hr
    have e : x = y := by
      rcases List.mem_cons.mp ((h x).mp List.mem_cons_self) with e | m
      · exact e
      · rcases List.mem_cons.mp ((h y).mpr List.mem_cons_self) with e | m'
        · exact e.symm
        · have := b1 x m
          have := a1 y m'
          omega
    subst e
    rw [lt_unique a2 b2 fun z => ?_]
    constructor
    · intro m
      rcases List.mem_cons.mp ((h z).mp (List.mem_cons_of_mem _ m)) with e | m'
      · have := a1 z m; omega
      · exact m'
    · intro m
      rcases List.mem_cons.mp ((h z).mpr (List.mem_cons_of_mem _ m)) with e | m'
      · have := b1 z m; omega
      · exact m'
theorem insU_len (x : Int) : ∀ l : List Int, (insU x l).length ≤ l.length + 1
  | [] => by simp [insU]
  | y :: r => by
    unfold insU
    split
    · simp
    · split
      · simp
      · have := insU_len x r
        simp; omega
theorem sortU_len : ∀ l : List Int, (sortU l).length ≤ l.length
  | [] => Nat.le_refl _
  | y :: r => by
    have h1 := insU_len y (sortU r)
    have h2 := sortU_len r
    show (insU y (sortU r)).length ≤ r.length + 1
    omega
theorem sortU_nodup {ns ks : List Int} (h : ks.Nodup) (m : ∀ z, z ∈ ks ↔ z ∈ ns) : ks.mergeSort (fun a b => decide (a ≤ b)) = sortU ns := by
  have p := List.mergeSort_perm ks (fun a b => decide (a ≤ b))
  have s := List.pairwise_mergeSort (le := fun a b : Int => decide (a ≤ b)) (fun a b c h1 h2 => by simp only [decide_eq_true_eq] at *; omega) (fun a b => by simp only [Bool.or_eq_true, decide_eq_true_eq]; omega) ks
  refine lt_unique (lt_of_le_nodup _ (s.imp fun h => of_decide_eq_true h) (p.nodup_iff.mpr h)) (sortU_lt ns) fun z => ?_
  rw [p.mem_iff, m z, mem_sortU]

/-! ### the calls -/
section
variable {P : Program} {w : World} {A : Around} {E : Value → Shared → Prop} {s : Shared}
theorem intsAre_each {h : Heap} : ∀ {us : List Value} {ns : List Int}, IntsAre us ns → PySem.W.EachIs (fun u d => ∃ as, Reads h u d as) us (ns.map PyData.int)
  | _, _, .nil => .nil
  | _, _, .cons n t h => .cons ⟨_, Reads.int n t⟩ (intsAre_each h)
theorem each_intsAre : ∀ {us : List Value} {ns : List Int}, PySem.W.EachIs (fun u d => ∃ (n : Int) (t : Tok), u = .int n t ∧ d = PyData.int n) us (ns.map PyData.int) → IntsAre us ns
  | _, [], .nil => .nil
  | _, n :: ns, .cons ⟨m, t, e1, e2⟩ r => by
    cases e2
    subst e1
    exact .cons n t (each_intsAre r)
theorem intsAre_each2 : ∀ {us : List Value} {ns : List Int}, IntsAre us ns → PySem.W.EachIs (fun u d => ∃ (n : Int) (t : Tok), u = .int n t ∧ d = PyData.int n) us (ns.map PyData.int)
  | _, _, .nil => .nil
  | _, _, .cons n t h => .cons ⟨n, t, rfl, rfl⟩ (intsAre_each2 h)
theorem map_sort_int (ns : List Int) : (ns.map PyData.int).mergeSort (PySem.W.dataLe false id) = (ns.mergeSort fun a b => decide (a ≤ b)).map PyData.int := by
  have q := PySem.W.dataLe_int (fun i : Int => i)
  refine (List.map_mergeSort fun a _ b _ => ?_).symm
  show decide (a ≤ b) = PySem.W.dataLe false id (PyData.int a) (PyData.int b)
  have := congrFun (congrFun q a) b
  rw [← this]
  rfl
/-- sorted of ints that are collected -/
theorem sorted_ints2 {x : Value} {Q : Value → Shared → Prop} {C : List Int → Prop} (hu : A.units + 66 < cLine)
    (hcol : ∀ (E' : Value → Shared → Prop) (Q' : List Value → Shared → Prop), (∀ us ns s1, IntsAre us ns → us.length ≤ sizeLine → C ns → (∀ b o, s.heap.get? b = some o → s1.heap.get? b = some o) → s1.gens = s.gens → s1.os = s.os → Q' us s1) → wpAny (model P w) A.in1 (collect x) Q' E' s)
    (h : ∀ ns out s' a, C ns → (∀ b o, s.heap.get? b = some o → s'.heap.get? b = some o) → s'.gens = s.gens → s'.os = s.os → s.heap.get? a = none → (∃ n, s'.heap.get? a = some { cls := .type "list", data := .seq out n }) → IntsAre out.toList (ns.mergeSort fun a b => decide (a ≤ b)) → out.size ≤ sizeLine → Q (.ref a) s') :
    wpAny (model P w) A (call (.builtin "sorted") [x]) Q E s := by
  refine Calls.call_function_entry PyProof.Rows.kind_sorted PyProof.Rows.plain_sorted PyProof.Rows.entry_sorted (PyProof.Rows.args_sorted1 _) ?_
  unfold Builtin.«sorted»
  refine wpAny_bind (m := checkCount "sorted" 1 1 _) (wpAny_pure ?_)
  refine wpAny_bind (hcol _ _ fun us ns s1 hi hL hC hk1 hg ho => ?_)
  refine wpAny_bind (wpAny_newList ?_ hL)
  have hat : (s1.heap.push { cls := .type "list", data := .seq us.toArray }).get? s1.heap.objs.size = some (PyProof.Rows.seqObj "list" us.toArray 0) := Heap.get?_push_size _ rfl
  have hk2 : ∀ b o, s.heap.get? b = some o → (s1.heap.push { cls := .type "list", data := .seq us.toArray }).get? b = some o := fun b o q => Heap.get?_push_of_some _ (hk1 b o q)
  have hb : ∀ b o, s.heap.get? b = some o → b ≠ s1.heap.objs.size := fun b o q => Nat.ne_of_lt (Heap.lt_size (hk1 b o q))
  refine wpAny_bind (wpAny_holding (PyProof.Rows.wpAny_call_entry_kw PyProof.Rows.slot_list_sort ⟨_, hat, rfl⟩ PyProof.Rows.entry_list_sort ?body (PyProof.Rows.args_list_sort _)))
  case body =>
    have hal : PySem.W.AllAlike (ns.map PyData.int) := fun d hd d' hd' => by
      obtain ⟨i, _, rfl⟩ := List.mem_map.mp hd
      obtain ⟨j, _, rfl⟩ := List.mem_map.mp hd'
      rfl
    have hks : PySem.W.Sortable (ns.map PyData.int) := .inr fun d hd => by
      obtain ⟨i, _, rfl⟩ := List.mem_map.mp hd
      exact ⟨(fun z => nomatch z), fun _ z => nomatch z⟩
    have er2 : PySem.W.EachIs (fun u d => ∃ as, Reads (PySem.W.sortingHeap (s1.heap.push { cls := .type "list", data := .seq us.toArray }) s1.heap.objs.size us) u d as) us (ns.map PyData.int) := intsAre_each hi
    refine wpAny_mono (PySem.W.list_sort_vals (κ := PySem.W.dataKind (PySem.W.sortingHeap (s1.heap.push { cls := .type "list", data := .seq us.toArray }) s1.heap.objs.size us) (ns.map PyData.int)) (A := A.in1.in1) (s := { s1 with heap := s1.heap.push { cls := .type "list", data := .seq us.toArray } }) hat
      (PySem.W.SortsAt.data (s := { s1 with heap := PySem.W.sortingHeap (s1.heap.push { cls := .type "list", data := .seq us.toArray }) s1.heap.objs.size us }) er2 hal hks fun d hd => by
        obtain ⟨i, _, rfl⟩ := List.mem_map.mp hd
        show A.units + 1 + 1 + 0 < cLine
        omega) hL ⟨rfl, rfl⟩) (fun f s' (hf : f = _ ∧ s' = _) => ?_) fun _ _ q => q
    obtain ⟨rfl, rfl⟩ := hf
    refine ⟨_, rfl, wpAny_pure ⟨_, rfl, ?_⟩⟩
    have z := PySem.W.sortVals_data (enc := id) (h' := PySem.W.sortingHeap (s1.heap.push { cls := .type "list", data := .seq us.toArray }) s1.heap.objs.size us) (vs := us) (bs := ns.map PyData.int) false (intsAre_each2 hi) (by exact er2) (by rw [List.map_id]; exact hal)
    rw [List.map_id, map_sort_int] at z
    have z := each_intsAre z
    refine h ns (PySem.W.sortVals (PySem.W.dataKind (PySem.W.sortingHeap (s1.heap.push { cls := .type "list", data := .seq us.toArray }) s1.heap.objs.size us) (ns.map PyData.int)) false us us).toArray _ _ hC (fun b o q => ?_) hg ho ?_ (PyProof.Rows.sortedHeap_at hat) z ?_
    · rw [PyProof.Rows.sortedHeap_old (hb b o q) (Heap.lt_size (hk2 b o q))]
      exact hk2 b o q
    · cases q : s.heap.get? s1.heap.objs.size with
      | none => rfl
      | some o => exact absurd (Heap.lt_size (hk1 _ _ q)) (Nat.lt_irrefl _)
    · have l := z.length
      have l2 := hi.length
      have l3 : (PySem.W.sortVals (PySem.W.dataKind (PySem.W.sortingHeap (s1.heap.push { cls := .type "list", data := .seq us.toArray }) s1.heap.objs.size us) (ns.map PyData.int)) false us us).length = us.length := by
        rw [l, List.length_mergeSort, l2]
      rw [List.size_toArray, l3]
      exact hL
end
def intsD (d : Dt) : Option (List Int) := (itemsD d).bind intsOf
theorem intsD_some {d : Dt} {ns : List Int} (h : intsD d = some ns) : itemsD d = some (ns.map .int) := by
  obtain ⟨ds, e1, e2⟩ := Option.bind_eq_some_iff.mp h
  rw [e1, intsOf_eq e2]
def sortSetD (d : Dt) : Option Dt := (intsD d).bind fun ns => if ns.length ≤ 4000 then some (.list ((sortU ns).map .int)) else none
def lenSetD (d : Dt) : Option Dt := (intsD d).bind fun ns => if ns.length ≤ 4000 then some (.int (sortU ns).length) else none
section
variable {X : Cx} {K : PySem.W.Frag} {ps : Option Nat} {S : List Nat} {e : Expr} {f : Dn} {p p2 q pos : Pos}
theorem Shal.seq {po : Option Addr} {R H : Hp} {v : V} {d : Dt} {ds : List Dt} (sb : Sub R H) (h : Shal K po R H v d) (e : itemsD d = some ds) : ∃ k a xs, v = .ref a ∧ SqX k K H a xs ∧ RpL K R xs ds := by
  rcases itemsD_some e with rfl | rfl
  · obtain ⟨a, xs, rfl, h1, r1, z⟩ := h.list sb
    exact ⟨false, a, xs, rfl, h1.sqL, r1⟩
  · obtain ⟨a, xs, rfl, h1, r1, z⟩ := h.tuple sb
    exact ⟨true, a, xs, rfl, h1, r1⟩
theorem de_sortSet (hc : X.calm = true) (hu : X.A.units + 70 < cLine) (hg : Gl X "sorted") (hm : X.mg "sorted" = none) (hg2 : Gl X "set") (hm2 : X.mg "set" = none) (hn : notStar e = true) (he : PE X e (TB X.K ps S f)) :
    PE X (.Call (.Name "sorted" p) [.Call (.Name "set" p2) [e] [] q] [] pos) (TF X.K ps S (d1 sortSetD f)) := by
  have na : starEach [e] X.env = (false, eval e X.env) :: starEach [] X.env := star_no hn
  refine ⟨fun pins s σ H Q I ⟨po, env, pt, d, pt', R, w, eq, k⟩ => ?_⟩
  obtain ⟨dx, p1, e1, eq⟩ := Mo.bnd_some eq
  obtain ⟨e3, rfl⟩ := Mo.ofO_some eq
  obtain ⟨ns, e4, e5⟩ := Option.bind_eq_some_iff.mp e3
  split at e5
  · rename_i hz
    cases e5
    refine Call_ (ld_blt I hg hm (by decide +kernel : bootBuiltins "sorted" = some (.builtin "sorted")) ?_)
    refine PyProof.Rows.callWith_builtin1 (PyProof.Rows.args_cons ?_ rfl) rfl rfl
    refine Call_ (ld_blt I hg2 hm2 PyProof.Rows.boot_set ?_)
    refine PyProof.Rows.callWith_type1 (PyProof.Rows.args_cons (thn (he.run pins s σ H _ I ⟨po, env, pt, dx, _, R, w, e1, fun v R1 H1 x1 q1 s1 => (⟨R1, x1, q1, s1⟩ : ∃ R1, Ext po R H R1 H1 ∧ PotAt po H1 _ ∧ Shal X.K po R1 H1 v dx)⟩) fun v s1 ⟨x, H1, I1, r1, R1, x1, q1, sh⟩ => PyProof.Rows.args_nil ?_) na) na rfl
    obtain ⟨kd, a, xs, rfl, hq, rl⟩ := sh.seq x1.s (intsD_some e4)
    obtain rfl := rl.ints
    cases r1
    obtain ⟨its, rv, hs, hz2, hlt⟩ := inv_seq I1 hq
    refine set_seqI ns (I1.ok.hd hc) hs (by simpa using rv.ints) (by unfold scanBound; omega) fun h' tk c R2 hcn hk => ?_
    refine PyProof.Rows.args_nil ?_
    obtain ⟨o, es, ep, t, ho, hex, hdt, g, nd, hm2', hb, hf, hnn, hr, hl⟩ := R2
    have I2 : Inv X pins σ H1 { s1 with heap := h', toks := tk } := I1.kept hk
    refine sorted_ints2 (C := fun ks => ks.Nodup ∧ ∀ z, z ∈ ks ↔ z ∈ ns) (by omega) (fun E' Q' hq' => collect_set (A := X.A.in1) (I1.ok.hd hc) ⟨o, ho, hex.1, hdt⟩ hf hb hr hl fun s2 vs k1 hzz g1 o1 pm => ?_) fun ks out s' b hC hk3 hg3 ho3 hb3 hn3 hi3 hz3 => ?_
    · have hI : IntsAre vs (vs.map Builtin.Re.reRawOf) := ints_of vs fun v hv => by
        obtain ⟨e, he, q⟩ := List.mem_map.mp (pm.mem_iff.mp hv)
        obtain ⟨k, tk, h1, _⟩ := g e he
        exact ⟨k, tk, by rw [← q]; exact h1⟩
      have pk : (vs.map Builtin.Re.reRawOf).Perm (es.toList.map keyOf) := by
        have q := pm.map Builtin.Re.reRawOf
        rw [List.map_map] at q
        exact q
      refine hq' vs _ s2 hI ?_ ⟨pk.nodup_iff.mpr nd, fun z => ?_⟩ k1 g1 o1
      · rw [pm.length_eq, List.length_map, Array.length_toList, hnn]
        have := sizeLine_eq
        omega
      · rw [pk.mem_iff, ← hm2' z, decide_eq_true_eq]
    · have hC' := sortU_nodup hC.1 hC.2
      rw [hC'] at hi3
      have hlen : ((sortU ns).map V.int).length ≤ sizeLine := by
        rw [List.length_map]
        have := sortU_len ns
        have := sizeLine_eq
        omega
      have hn : H1 b = none := hok_none I2.hok hb3
      have hb4 : s1.heap.get? b = none := by
        cases z : s1.heap.get? b with
        | none => rfl
        | some o =>
          have z' : h'.get? b = none := hb3
          rw [hk b o z] at z'
          cases z'
      obtain ⟨cc, hn3⟩ := hn3
      have J : Inv X pins σ (upd H1 b (.lst ((sortU ns).map V.int))) { s1 with heap := s'.heap, gens := s'.gens, drawn := s'.drawn, toks := s'.toks } :=
        I1.call (ch := []) (Un.laidN (fun b u e => hk3 b u (hk b u e)) hb4 hn) (I1.hok.laidN (fun b u e => hk3 b u (hk b u e)) hn ⟨hlen, out.toList, cc, vals_of_ints hi3, hn3⟩) (by rw [hg3]; exact I1.bare) (fun _ z => nomatch z)
      have es' : s' = { s1 with heap := s'.heap, gens := s'.gens, drawn := s'.drawn, toks := s'.toks } := by
        cases s'
        cases s1
        cases ho3
        rfl
      rw [es']
      have rn : R1 b = none := by
        cases z : R1 b with
        | none => rfl
        | some o => rw [x1.s b o z] at hn; cases hn
      exact ⟨.ref b, _, J, rfl, k _ R1 _ (x1.trans (.side x1.s hn)) (fun y ey => by rw [upd_ne fun z => by have := q1 y ey; rw [z, hn] at this; cases this]; exact q1 y ey)
        (.inl ⟨b, rfl, x1.d b hn, rn, .inl ⟨_, _, rfl, upd_same, RpL.of_ints _, by rw [List.length_map] at hlen ⊢; exact hlen⟩⟩)⟩
  · cases e5
theorem de_lenSet (hc : X.calm = true) (hg : Gl X "len") (hm : X.mg "len" = none) (hg2 : Gl X "set") (hm2 : X.mg "set" = none) (hn : notStar e = true) (he : PE X e (TB X.K ps S f)) :
    PE X (.Call (.Name "len" p) [.Call (.Name "set" p2) [e] [] q] [] pos) (TF X.K ps S (d1 lenSetD f)) := by
  have na : starEach [e] X.env = (false, eval e X.env) :: starEach [] X.env := star_no hn
  refine ⟨fun pins s σ H Q I ⟨po, env, pt, d, pt', R, w, eq, k⟩ => ?_⟩
  obtain ⟨dx, p1, e1, eq⟩ := Mo.bnd_some eq
  obtain ⟨e3, rfl⟩ := Mo.ofO_some eq
  obtain ⟨ns, e4, e5⟩ := Option.bind_eq_some_iff.mp e3
  split at e5
  · rename_i hz
    cases e5
    refine Call_ (ld_blt I hg hm (by decide +kernel : bootBuiltins "len" = some (.builtin "len")) ?_)
    refine PyProof.Rows.callWith_builtin1 (PyProof.Rows.args_cons ?_ rfl) rfl rfl
    refine Call_ (ld_blt I hg2 hm2 PyProof.Rows.boot_set ?_)
    refine PyProof.Rows.callWith_type1 (PyProof.Rows.args_cons (thn (he.run pins s σ H _ I ⟨po, env, pt, dx, _, R, w, e1, fun v R1 H1 x1 q1 s1 => (⟨R1, x1, q1, s1⟩ : ∃ R1, Ext po R H R1 H1 ∧ PotAt po H1 _ ∧ Shal X.K po R1 H1 v dx)⟩) fun v s1 ⟨x, H1, I1, r1, R1, x1, q1, sh⟩ => PyProof.Rows.args_nil ?_) na) na rfl
    obtain ⟨kd, a, xs, rfl, hq, rl⟩ := sh.seq x1.s (intsD_some e4)
    obtain rfl := rl.ints
    cases r1
    obtain ⟨its, rv, hs, hz2, hlt⟩ := inv_seq I1 hq
    refine set_seqI ns (I1.ok.hd hc) hs (by simpa using rv.ints) (by unfold scanBound; omega) fun h' tk c R2 hcn hk => ?_
    refine PyProof.Rows.args_nil ?_
    obtain ⟨o, es, ep, t, ho, hex, hdt, g, nd, hm2', hb, hf, hnn, hr, hl⟩ := R2
    have I2 : Inv X pins σ H1 { s1 with heap := h', toks := tk } := I1.kept hk
    have en : es.size = (sortU ns).length := by
      have q := sortU_nodup nd (ns := ns) fun z => by rw [← hm2' z, decide_eq_true_eq]
      rw [← q, List.length_mergeSort, List.length_map, Array.length_toList]
    refine call_len_set ho hex hdt hf (by omega) ⟨.int (sortU ns).length, H1, I2.tok _, ⟨_, by rw [en]⟩, k _ R1 H1 x1 q1 (.inr ⟨rfl, .int _⟩)⟩
  · cases e5
end
end Ev

/-! Ev, part N: items of one's own lists, range as an argument. -/
namespace Ev
open PySem L2

section
variable {K : PySem.W.Frag} {ps : Option Nat} {S : List Nat} {fr : Bool} {X : Cx} {st : Stmt} {pos p2 p3 : Pos} {e ix : Expr} {f g h : Dn} {i : Nat} {x : Str}
/-- x[k] = v, of data -/
def setD (o k v : Dt) : Option Dt := match o, k with
  | .list xs, .int k => (ixN xs.length k).map fun j => .list (xs.set j v)
  | _, _ => none
def ownAt (i : Nat) (E : SEn) : Option Dt := match E[i]? with
  | some (.ow d) => some d
  | _ => none
theorem ownAt_some {i : Nat} {E : SEn} {d : Dt} (h : ownAt i E = some d) : E[i]? = some (Sl.ow d) := by
  unfold ownAt at h
  split at h
  · cases h; assumption
  · cases h
def sSet (i : Nat) (S : List Nat) (h ix : Dn) : Sn := fun E => (evS S h E).bnd fun v => (evS S ix E).bnd fun k => (Mo.ofO ((ownAt i E).bind fun o => setD o k v)).bnd fun o => Mo.ret (.nx (E.set i (.ow o)))
theorem st_set (hx : PE X (.Name x p2) (tVar i)) (hix : PE X ix (TB X.K ps S g)) (he : PE X e (TD X.K ps S h))
    (ha : ∀ v, assign (.Subscript (.Name x p2) ix p3) X.env v = (do
      let ov ← holding [v] (eval (.Name x p2) X.env)
      let iv ← holding [v, ov] (eval ix X.env)
      standAt p3
      holding [v, ov, iv] (setItem ov iv v)
      release [v, ov, iv] []))
    (hs : swapsWithSole [.Subscript (.Name x p2) ix p3] e pos.line X.env = pure false) (hw : swappedStores [.Subscript (.Name x p2) ix p3] e X.env = pure none)
    (h1 : (assignEach [.Subscript (.Name x p2) ix p3] X.env).map (·.2) = [assign (.Subscript (.Name x p2) ix p3) X.env]) :
    PS X (.Assign [.Subscript (.Name x p2) ix p3] e pos) (TSt X.K ps fr (sSet i S h g)) := by
  refine ps_imp (ps_asg he (pg_sub hx hix set_list ha) hs hw h1) fun D σ H ⟨po, E, pt, r, pt', R, R0, H0, w, q, k⟩ => ?_
  obtain ⟨v, p1, e1, q1⟩ := Mo.bnd_some q
  obtain ⟨kk, p2, e2, q2⟩ := Mo.bnd_some q1
  obtain ⟨o, p3, e3, q9⟩ := Mo.bnd_some q2
  cases q9
  obtain ⟨e3', ep⟩ := Mo.ofO_some e3
  subst ep
  obtain ⟨o0, e4, e5⟩ := Option.bind_eq_some_iff.mp e3'
  have eo := ownAt_some e4
  obtain ⟨c1, e6⟩ := evS_some e1
  obtain ⟨c2, e7⟩ := evS_some e2
  unfold setD at e5
  split at e5
  · rename_i xs kn
    obtain ⟨j, e8, e9⟩ := Option.map_eq_some_iff.mp e5
    subst e9
    refine ⟨po, vw E, pt, v, p1, R, w.wd c1, e6, fun u R1 H1 x1 q1 rv => ?_⟩
    have w1 := w.up x1 q1
    obtain ⟨a, vs, h1, h2, l, z⟩ := w1.ownList eo
    refine ⟨.ref a, h1, ⟨po, vw E, p1, _, _, R1, w1.wd c2, e7, fun y R2 H2 x2 q2 sy => ?_⟩⟩
    obtain rfl := sy.int
    have w2 := w1.up x2 q2
    obtain ⟨a', vs', h1', h2', l', z'⟩ := w2.ownList eo
    rw [h1] at h1'
    cases h1'
    refine ⟨a, vs', kn, j, rfl, rfl, h2', by rw [l'.len]; exact e8, ?_⟩
    exact k _ R2 _ (w2.mut eo h1 (.inl ⟨_, _, rfl, upd_same, l'.set (rv.up x2.r) j, by rw [List.length_set]; exact z'⟩)) (x1.trans x2).r
  · cases e5
/-- x[k1], x[k2] = a, b -/
def sSwp (i : Nat) (S : List Nat) (f g ix1 ix2 : Dn) : Sn := fun E => (evS S f E).bnd fun v1 => (evS S g E).bnd fun v2 => (evS S ix1 E).bnd fun k1 => (Mo.ofO ((ownAt i E).bind fun o => setD o k1 v1)).bnd fun o =>
  (evS S ix2 (E.set i (.ow o))).bnd fun k2 => (Mo.ofO (setD o k2 v2)).bnd fun o2 => Mo.ret (.nx ((E.set i (.ow o)).set i (.ow o2)))
theorem setD_some {o k v o' : Dt} (h : setD o k v = some o') : ∃ xs kn j, o = .list xs ∧ k = .int kn ∧ ixN xs.length kn = some j ∧ o' = .list (xs.set j v) := by
  unfold setD at h
  split at h
  · obtain ⟨j, e8, e9⟩ := Option.map_eq_some_iff.mp h
    exact ⟨_, _, j, rfl, rfl, e8, e9.symm⟩
  · cases h
theorem st_swp {a b ix1 ix2 : Expr} {g1 g2 f1 f2 : Dn} {p4 p5 pt0 pp : Pos} {kt k0 : Nat} (hz : 2 ≤ sizeLine) (hc : X.calm = true) (hx1 : PE X (.Name x p2) (tVar i)) (hx2 : PE X (.Name x p4) (tVar i)) (hix1 : PE X ix1 (TB X.K ps S g1)) (hix2 : PE X ix2 (TB X.K ps S g2)) (he : PA X [a, b] (TA2 false false X.K ps S f1 f2))
    (ha1 : ∀ v, assign (.Subscript (.Name x p2) ix1 p3) X.env v = (do
      let ov ← holding [v] (eval (.Name x p2) X.env)
      let iv ← holding [v, ov] (eval ix1 X.env)
      standAt p3
      holding [v, ov, iv] (setItem ov iv v)
      release [v, ov, iv] []))
    (ha2 : ∀ v, assign (.Subscript (.Name x p4) ix2 p5) X.env v = (do
      let ov ← holding [v] (eval (.Name x p4) X.env)
      let iv ← holding [v, ov] (eval ix2 X.env)
      standAt p5
      holding [v, ov, iv] (setItem ov iv v)
      release [v, ov, iv] []))
    (hs : swapsWithSole [.Tuple [.Subscript (.Name x p2) ix1 p3, .Subscript (.Name x p4) ix2 p5] kt pt0] (.Tuple [a, b] k0 pp) pos.line X.env = pure false)
    (hw : swappedStores [.Tuple [.Subscript (.Name x p2) ix1 p3, .Subscript (.Name x p4) ix2 p5] kt pt0] (.Tuple [a, b] k0 pp) X.env = pure none) :
    PS X (.Assign [.Tuple [.Subscript (.Name x p2) ix1 p3, .Subscript (.Name x p4) ix2 p5] kt pt0] (.Tuple [a, b] k0 pp) pos) (TSt X.K ps fr (sSwp i S f1 f2 g1 g2)) := by
  refine ps_imp (ps_asg (pe_tup he) (pg_tup (n := 2) hc (pgs_cons (pg_sub hx1 hix1 set_list ha1) (pgs_cons (pg_sub hx2 hix2 set_list ha2) pgs_nil))) hs hw rfl) fun D σ H ⟨po, E, pt, r, pt', R, R0, H0, w, q, k⟩ => ?_
  obtain ⟨d1, p1, e1, qa⟩ := Mo.bnd_some q
  obtain ⟨d2, p2', e2, qb⟩ := Mo.bnd_some qa
  obtain ⟨kk1, p3', e3, qc⟩ := Mo.bnd_some qb
  obtain ⟨o, p4', e4, qd⟩ := Mo.bnd_some qc
  obtain ⟨kk2, p5', e5, qe⟩ := Mo.bnd_some qd
  obtain ⟨o2, p6', e6, qf⟩ := Mo.bnd_some qe
  cases qf
  obtain ⟨e4', ep⟩ := Mo.ofO_some e4
  subst ep
  obtain ⟨e6', ep⟩ := Mo.ofO_some e6
  subst ep
  obtain ⟨o0, e7, e8⟩ := Option.bind_eq_some_iff.mp e4'
  have eo := ownAt_some e7
  obtain ⟨c1, e9⟩ := evS_some e1
  obtain ⟨c2, e10⟩ := evS_some e2
  obtain ⟨c3, e11⟩ := evS_some e3
  obtain ⟨c4, e12⟩ := evS_some e5
  obtain ⟨xs, kn, j, rfl, rfl, hj, rfl⟩ := setD_some e8
  obtain ⟨xs', kn2, j2, hxs, rfl, hj2, rfl⟩ := setD_some e6'
  cases hxs
  refine ⟨po, vw E, pt, d1, p1, d2, _, R, w.wd c1, e9, e10, fun v1 R1 H1 v2 R2 H2 x1 q1 o1 x2 q2 o2 => ⟨hz, fun pa np => ⟨pa, [v1, v2], rfl, .inl (.inl upd_same), rfl, v1, [v2], rfl, ?_⟩⟩⟩
  have x3 : Ext po R2 H2 R2 (upd H2 pa (.tup [v1, v2])) := .side x2.s np
  have q3 : PotAt po (upd H2 pa (.tup [v1, v2])) p2' := fun y ey => by
    rw [upd_ne fun z => by have := q2 y ey; rw [z, np] at this; cases this]
    exact q2 y ey
  have r1 : Rp X.K R1 v1 d1 := o1
  have r2 : Rp X.K R2 v2 d2 := o2
  have x123 := (x1.trans x2).trans x3
  have w3 := w.up x123 q3
  obtain ⟨ad, vs, h1, h2, l, z⟩ := w3.ownList eo
  refine ⟨.ref ad, h1, ⟨po, vw E, p2', _, _, R2, w3.wd c3, e11, fun y R4 H4 x4 q4 sy => ?_⟩⟩
  obtain rfl := sy.int
  have w4 := w3.up x4 q4
  obtain ⟨ad', vs', h1', h2', l', z'⟩ := w4.ownList eo
  rw [h1] at h1'
  cases h1'
  refine ⟨ad, vs', kn, j, rfl, rfl, h2', by rw [l'.len]; exact hj, v2, [], rfl, ?_⟩
  have w5 := w4.mut eo h1 (.inl ⟨_, _, rfl, upd_same, l'.set ((r1.up x2.r).up x4.r) j, by rw [List.length_set]; exact z'⟩)
  have eo5 : (E.set i (Sl.ow (.list (xs.set j d1))))[i]? = some (Sl.ow (.list (xs.set j d1))) := List.getElem?_set_self (List.getElem?_eq_some_iff.mp eo).1
  refine ⟨.ref ad, h1, ⟨po, vw (E.set i (.ow (.list (xs.set j d1)))), _, _, _, R4, w5.wd c4, e12, fun y R6 H6 x6 q6 sy => ?_⟩⟩
  obtain rfl := sy.int
  have w6 := w5.up x6 q6
  obtain ⟨ad6, vs6, h16, h26, l6, z6⟩ := w6.ownList eo5
  rw [h1] at h16
  cases h16
  refine ⟨ad, vs6, kn2, j2, rfl, rfl, h26, by rw [l6.len]; exact hj2, rfl, ?_⟩
  exact k _ R6 _ (w6.mut eo5 h1 (.inl ⟨_, _, rfl, upd_same, l6.set ((r2.up x4.r).up x6.r) j2, by rw [List.length_set]; exact z6⟩)) ((x123.r.trans x4.r).trans x6.r)
/-! the pot -/
def ptAt (p : Pt) : Nat → Option Int
  | 0 => some p.1
  | 1 => some p.2.1
  | 2 => some p.2.2
  | _ => none
def ptSet (p : Pt) (k : Nat) (v : Int) : Option Pt := match k with
  | 0 => some (v, p.2.1, p.2.2)
  | 1 => some (p.1, v, p.2.2)
  | 2 => some (p.1, p.2.1, v)
  | _ => none
def dPotr (k : Nat) : Dn := fun _ p => (ptAt p k).map fun i => (.int i, p)
theorem de_potr {k i : Nat} {j : Nat} {p3 : Pos} (hv : PE X (.Name x p2) (tVar i)) : PE X (.Subscript (.Name x p2) (.Constant (.int k) j p3) pos) (TF X.K (some i) S (dPotr k)) :=
  pe_imp (pe_ix ix_list hv pe_int (fun _ _ => rfl)) fun σ H Q ⟨po, env, pt, d, pt', R, w, q, kk⟩ => by
    obtain ⟨n, e1, e2⟩ := Option.map_eq_some_iff.mp (show (ptAt pt k).map (fun i => (PyData.int i, pt)) = some (d, pt') from q)
    cases e2
    obtain ⟨p, rfl, hs⟩ := w.pos i rfl
    refine ⟨_, hs, p, [.int pt.1, .int pt.2.1, .int pt.2.2], (k : Int), .int n, rfl, rfl, .of (w.pot p rfl), ?_, kk _ R H (.refl w.sub) w.pot (.inr ⟨rfl, .int _⟩)⟩
    match k, e1 with
    | 0, e1 => cases e1; rfl
    | 1, e1 => cases e1; rfl
    | 2, e1 => cases e1; rfl
    | k + 3, e1 => cases e1
def sPotw (k : Nat) (S : List Nat) (h : Dn) : Sn := fun E => (evS S h E).bnd fun d => (Mo.ofO (intD d)).bnd fun v => fun p => (ptSet p k v).map fun q => (.nx E, q)
theorem st_potw {k i : Nat} {j : Nat} {p4 : Pos} (hx : PE X (.Name x p2) (tVar i)) (he : PE X e (TD X.K (some i) S h)) : PS X (.Assign [.Subscript (.Name x p2) (.Constant (.int k) j p4) p3] e pos) (TSt X.K (some i) fr (sPotw k S h)) := by
  have hs : swapsWithSole [.Subscript (.Name x p2) (.Constant (.int k) j p4) p3] e pos.line X.env = pure false := by
    show swapsWith e (some (.Subscript (.Name x p2) (.Constant (.int k) j p4) p3)) pos.line X.env = pure false
    cases e <;> rfl
  have hw : swappedStores [.Subscript (.Name x p2) (.Constant (.int k) j p4) p3] e X.env = pure none := by cases e <;> rfl
  refine ps_imp (ps_asg he (pg_sub hx pe_int set_list (by intro _; rfl)) hs hw rfl) fun D σ H ⟨po, E, pt, r, pt', R, R0, H0, w, q, kk⟩ => ?_
  obtain ⟨v, p1, e1, q1⟩ := Mo.bnd_some q
  obtain ⟨c1, e6⟩ := evS_some e1
  obtain ⟨n, p8, e8, q2⟩ := Mo.bnd_some q1
  obtain ⟨e8', e8''⟩ := Mo.ofO_some e8
  subst e8''
  cases v with
  | int m =>
    cases e8'
    obtain ⟨p9, e2, e3⟩ := Option.map_eq_some_iff.mp q2
    cases e3
    refine ⟨po, vw E, pt, _, _, R, w.wd c1, e6, fun u R1 H1 x1 pq1 rv => ?_⟩
    cases rv
    have w1 := w.up x1 pq1
    obtain ⟨p, rfl, hs⟩ := w1.pos i rfl
    have hp := w1.pot p rfl
    have hR := w1.pof p rfl
    refine ⟨_, hs, p, [.int p8.1, .int p8.2.1, .int p8.2.2], (k : Int), k, rfl, rfl, hp, ?_, ?_⟩
    · match k, e2 with
      | 0, e2 => rfl
      | 1, e2 => rfl
      | 2, e2 => rfl
      | k + 3, e2 => cases e2
    · have eq : PotAt (some p) (upd H1 p (.lst ([V.int p8.1, .int p8.2.1, .int p8.2.2].set k (.int n)))) pt' := fun q eq => by
        cases eq
        rw [upd_same]
        match k, e2 with
        | 0, e2 => cases e2; rfl
        | 1, e2 => cases e2; rfl
        | 2, e2 => cases e2; rfl
        | k + 3, e2 => cases e2
      refine kk σ R1 _ ⟨⟨w1.ext.r, fun a o ea => ?_, fun a o ea na => ?_, fun a ea => ?_, w1.ext.f⟩, eq, w1.pof, w1.pos, w1.len, w1.sh, fun i d ei => ?_, w1.ap, w1.pn⟩ x1.r
      · rw [upd_ne fun z => by rw [z, hR] at ea; cases ea]; exact w1.ext.s a o ea
      · rw [upd_ne fun z => na (by rw [z])]; exact w1.ext.k a o ea na
      · by_cases z : a = p
        · subst z; rw [upd_same] at ea; cases ea
        · rw [upd_ne z] at ea; exact w1.ext.d a ea
      · obtain ⟨v, a, h1, o⟩ := w1.ow i d ei
        refine ⟨v, a, h1, o.e, o.n, o.h0, o.r, o.c.up (Sub.refl R1) fun u hu => ?_⟩
        rw [upd_ne fun z => o.n (by rw [z])]
        exact hu
  | _ => cases e8'
/-- i = a new pot; what follows goes by it -/
def pot3 : Dt → Option Pt
  | .list [.int a, .int b, .int c] => some (a, b, c)
  | _ => none
theorem pot3_some {d : Dt} {p : Pt} (h : pot3 d = some p) : d = .list [.int p.1, .int p.2.1, .int p.2.2] := by
  unfold pot3 at h
  split at h
  · cases h; rfl
  · cases h
def sPotIn (i : Nat) (S : List Nat) (h : Dn) (f : Sn) : Sn := fun E => (evS S h E).bnd fun d => (Mo.ofO (pot3 d)).bnd fun q => fun p => if i < E.length then (f (E.set i .no) q).map fun r => (r.1, p) else none
theorem st_potIn {i : Nat} {te : TE} {rest : List Stmt} {f : Sn} (h1 : PS X st (tAsg te (gName i))) (ht : ∀ σ H Q, TF K none S h σ H Q → te σ H Q) (hr : PSs X rest (TSt K (some i) fr f)) : PSs X (st :: rest) (TSt K none fr (sPotIn i S h f)) :=
  pss_imp (pss_cons h1 hr) fun D σ H ⟨po, E, pt, r, pt', R, R0, H0, w, q, kk⟩ => by
    obtain ⟨v, p1, e1, q1⟩ := Mo.bnd_some q
    obtain ⟨c1, e6⟩ := evS_some e1
    obtain ⟨q3, p2, e2, q2⟩ := Mo.bnd_some q1
    obtain ⟨e2', e2''⟩ := Mo.ofO_some e2
    subst e2''
    split at q2
    · rename_i hi
      obtain ⟨⟨r1, p9⟩, e3, e4⟩ := Option.map_eq_some_iff.mp q2
      cases e4
      have hpo := w.pn rfl
      subst hpo
      have ev := pot3_some e2'
      subst ev
      refine ht _ _ _ ⟨none, vw E, pt, _, _, R, w.wd c1, e6, fun u R1 H1 x1 pq1 nw => ?_⟩
      have w1 := w.up x1 pq1
      rcases nw with ⟨a, rfl, na, ra, ⟨xs, ds, ed, h3, l, z⟩ | ⟨_, _, ed, _⟩ | ⟨_, _, ed, _⟩⟩ | ⟨f, _⟩
      · cases ed
        have hx : xs = [.int q3.1, .int q3.2.1, .int q3.2.2] := RpL.ints (ns := [q3.1, q3.2.1, q3.2.2]) l
        subst hx
        have h0a : H0 a = none := w.ext.d a na
        have back : ∀ {R' H' : Hp}, Ext (some a) R0 H0 R' H' → Ext none R0 H0 R' H' := fun {R' H'} x => ⟨x.r, x.s, fun b o e _ => x.k b o e (fun z => by cases z; rw [h0a] at e; cases e), x.d, x.f⟩
        have due : Due K (some i) fr (some a) R0 H0 R1 D r1 p9 := by
          have cv : ∀ {σ : L2.St} {E' : SEn} {R' H' : Hp}, Ws K (some i) (some a) R0 H0 σ E' p9 R' H' → Ws K none none R0 H0 σ E' pt' R' H' := fun {σ E' R' H'} w' =>
            ⟨back w'.ext, (fun _ z => nomatch z), (fun _ z => nomatch z), (fun _ z => nomatch z), w'.len, w'.sh, fun j d e => let ⟨v, b, h5, o⟩ := w'.ow j d e; ⟨v, b, h5, o.e, (fun z => nomatch z), o.h0, o.r, o.c⟩, w'.ap, fun _ => rfl⟩
          cases r1 with
          | nx E' => exact fun σ R' H' w' s => kk σ R' H' (cv w') (x1.r.trans s)
          | br E' => exact fun σ R' H' w' s => kk σ R' H' (cv w') (x1.r.trans s)
          | ct E' => exact fun σ R' H' w' s => kk σ R' H' (cv w') (x1.r.trans s)
          | rt d => exact fun v R' H' x _ o => kk v R' H' (back x) (fun _ z => nomatch z) o
        have ne : ∀ {j : Nat} {s : Sl}, (E.set i .no)[j]? = some s → s ≠ .no → i ≠ j ∧ E[j]? = some s := fun {j s} e hs => by
          by_cases z : i = j
          · subst z; rw [List.getElem?_set_self hi] at e; cases e; exact absurd rfl hs
          · rw [List.getElem?_set_ne z] at e; exact ⟨z, e⟩
        refine ⟨some a, E.set i .no, q3, r1, p9, R1, R0, H0, ⟨w1.ext.none, fun p e => by cases e; exact h3, fun p e => by cases e; exact ra, fun j e => ?_, by rw [List.length_set, List.length_set]; exact w1.len, fun j d e => ?_, fun j d e => ?_, fun j k d d' b n e e' h5 => ?_, fun z => nomatch z⟩, e3, due⟩
        · cases e
          exact ⟨a, rfl, List.getElem?_set_self (by rw [w1.len]; exact hi)⟩
        · obtain ⟨z, e⟩ := ne e (fun z => nomatch z)
          rw [List.getElem?_set_ne z]
          exact w1.sh j d e
        · obtain ⟨z, e⟩ := ne e (fun z => nomatch z)
          obtain ⟨v, b, h5, o⟩ := w1.ow j d e
          obtain ⟨v', b', h6, o'⟩ := w.ow j d e
          rw [h5] at h6
          cases h6
          have eb : b' = b := by
            have := o.e.symm.trans o'.e
            cases this
            rfl
          subst eb
          refine ⟨v, b', by rw [List.getElem?_set_ne z]; exact h5, o.e, fun y => ?_, o.h0, o.r, o.c⟩
          cases y
          exact o'.c.there na
        · obtain ⟨z, e⟩ := ne e (fun z => nomatch z)
          obtain ⟨z', e'⟩ := ne e' (fun z => nomatch z)
          rw [List.getElem?_set_ne z] at h5
          rw [List.getElem?_set_ne z']
          exact w1.ap j k d d' b n e e' h5
      · cases ed
      · cases ed
      · cases f
    · cases q2
end
end Ev

/-! Ev, part O: terms that stand for code, what they do to data, and how they are held against the text. -/
namespace Ev
open PySem L2

/-- built-ins that are called with arguments that may be looked at -/
inductive Bi where
  | len | abs | int | list | tuple | max | min | any | all | sum | sorted | repr
  deriving DecidableEq, Repr
def Bi.id : Bi → String
  | .len => "len" | .abs => "abs" | .int => "int" | .list => "list" | .tuple => "tuple" | .max => "max" | .min => "min" | .any => "any" | .all => "all" | .sum => "sum" | .sorted => "sorted" | .repr => "repr"
def Bi.ty : Bi → Bool
  | .int | .list | .tuple => true
  | _ => false
def Bi.fn : Bi → List Dt → Option Dt
  | .len => lenG | .abs => absG | .int => intG | .list => listG | .tuple => tupleG | .max => maxG | .min => minG | .any => anyG | .all => allG | .sum => sumG | .sorted => sortedG | .repr => reprG
mutual
inductive IE where
  | var (i : Nat)
  | lit (d : Dt)
  | con (k : Nat)
  | bin (o : Operator) (a b : IE)
  | neg (a : IE)
  | cmp (o : CmpOp) (a b : IE)
  | chn (o o' : CmpOp) (a b c : IE)
  | band (l : IA)
  | bor (l : IA)
  | not (a : IE)
  | ite (c a b : IE)
  | tup (l : IA)
  | lst (l : IA)
  | idx (a b : IE)
  | slc (a : IE) (lo hi : IO)
  | rev (a : IE)
  | call (n : Nat) (l : IA)
  | callp (n : Nat) (l : IA)
  | bi (g : Bi) (l : IA)
  | isi (T : String) (a : IE)
  | ssort (a : IE)
  | slen (a : IE)
  | lrg1 (tp : Bool) (a : IE)
  | lrg2 (tp : Bool) (a b : IE)
  | potr (k : Nat)
  | lc (src : IR) (t : Tg) (vs : List Nat) (cond elt : IE)
  | lc2 (src : IR) (t : Tg) (vs : List Nat) (cond : IE) (src1 : IR) (t1 : Tg) (vs1 : List Nat) (cond1 elt : IE)
inductive IA where
  | nil
  | cons (a : IE) (l : IA)
  | star (a : IE) (l : IA)
inductive IO where
  | no
  | yes (a : IE)
inductive IR where
  | seq (a : IE)
  | enum (a : IE)
  | zip2 (a b : IE)
  | rng1 (a : IE)
  | rng2 (a b : IE)
  | rng3 (a b c : IE)
end
inductive IS where
  | pass | doc | brk | cont | never | retN
  | expr (S : List Nat) (a : IE)
  | ret (S : List Nat) (a : IE)
  | retO (i : Nat)
  | asg (S : List Nat) (i : Nat) (a : IE)
  | asgO (S : List Nat) (i : Nat) (a : IE)
  | par (S : List Nat) (i j : Nat) (b1 b2 : Bool) (a b : IE)
  | bind (S : List Nat) (t : Tg) (a : IE)
  | aug (S : List Nat) (o : Operator) (i : Nat) (a : IE)
  | app (S : List Nat) (i : Nat) (a : IE)
  | ext (S : List Nat) (i : Nat) (a : IE)
  | pop (j i : Nat)
  | popX (i : Nat)
  | popAt (S : List Nat) (j i : Nat) (a : IE)
  | popAtX (S : List Nat) (i : Nat) (a : IE)
  | set (S : List Nat) (i : Nat) (k a : IE)
  | swp (S : List Nat) (i : Nat) (k1 k2 a b : IE)
  | sif (S : List Nat) (c : IE) (f g : List IS)
  | sfor (S : List Nat) (src : IR) (t : Tg) (b : List IS)
  | swh (n : Nat) (S : List Nat) (c : IE) (b : List IS)
  | potw (k : Nat) (S : List Nat) (a : IE)
  | sforP (S : List Nat) (src : IR) (t : Tg) (S1 : List Nat) (i : Nat) (a : IE) (b : List IS)
  | fz (l : List Nat) (s : IS)

/-! ### the context -/
structure Cs where
  N : List Str
  sc : Scope
  blk : Option Scope
  ps : Option Nat
  fns : List FnI
  cs : List (Str × Dt)

/-! ### what they do -/
def binD : Operator → Dt → Dt → Option Dt
  | .Add => addD | .Sub => subD | .Mult => mulD | .FloorDiv => divD | .Mod => modD | .Pow => powD
  | _ => fun _ _ => none
def cmpD : CmpOp → Dt → Dt → Option Dt
  | .Lt => ltD | .LtE => leD | .Gt => gtD | .GtE => geD | .Eq => eqD | .NotEq => neD | .Is => isD | .IsNot => isntD | .In => inD | .NotIn => notInD
def lrgD (tp : Bool) (i j : Int) : Option Dt := if -(2 ^ 62) ≤ i ∧ i < 2 ^ 62 ∧ -(2 ^ 62) ≤ j ∧ j < 2 ^ 62 ∧ (j - i).toNat ≤ 2 ^ 24 then some (if tp = true then .tuple (rngD i (j - i).toNat) else .list (rngD i (j - i).toNat)) else none
def dLrg1 (tp : Bool) (f : Dn) : Dn := fun env => (f env).bnd fun x => match x with
  | .int j => Mo.ofO (lrgD tp 0 j)
  | _ => Mo.fail
def dLrg2 (tp : Bool) (f g : Dn) : Dn := fun env => (f env).bnd fun x => (g env).bnd fun y => match x, y with
  | .int i, .int j => Mo.ofO (lrgD tp i j)
  | _, _ => Mo.fail
section
variable (fs : List FnI) (cs : List (Str × Dt)) (ps : Option Nat)
def callD (n : Nat) (l : Ln) : Dn := match fs[n]? with
  | some F => dCall F l
  | none => fun _ => Mo.fail
mutual
def ev : IE → Dn
  | .var i => dVar i
  | .lit d => dLit d
  | .con k => match cs[k]? with | some p => dLit p.2 | none => fun _ => Mo.fail
  | .bin o a b => d2 (binD o) (ev a) (ev b)
  | .neg a => d1 negD (ev a)
  | .cmp o a b => d2 (cmpD o) (ev a) (ev b)
  | .chn o o' a b c => dChn (cmpD o) (cmpD o') (ev a) (ev b) (ev c)
  | .band l => evAnd l
  | .bor l => evOr l
  | .not a => dNot (ev a)
  | .ite c a b => dIf (ev c) (ev a) (ev b)
  | .tup l => dTup (evA l)
  | .lst l => dLst (evA l)
  | .idx a b => d2 idxD (ev a) (ev b)
  | .slc a lo hi => dSlc (ev a) (evO lo) (evO hi)
  | .rev a => d1 revD (ev a)
  | .call n l => callD fs n (evA l)
  | .callp n l => callD fs n (evA l)
  | .bi g l => dBi g.fn (evA l)
  | .isi T a => d1 (isI T) (ev a)
  | .ssort a => d1 sortSetD (ev a)
  | .slen a => d1 lenSetD (ev a)
  | .lrg1 tp a => dLrg1 tp (ev a)
  | .lrg2 tp a b => dLrg2 tp (ev a) (ev b)
  | .potr k => dPotr k
  | .lc src t vs cond elt => dLc ps (evR src) t vs (ev cond) (ev elt)
  | .lc2 src t vs cond src1 t1 vs1 cond1 elt => dLc2 ps (evR src) t vs (ev cond) (evR src1) t1 vs1 (ev cond1) (ev elt)
def evA : IA → Ln
  | .nil => lNil
  | .cons a l => lCons (ev a) (evA l)
  | .star a l => lStar (ev a) (evA l)
def evAnd : IA → Dn
  | .nil => dLit (.bool true)
  | .cons a .nil => ev a
  | .cons a l => dAnd (ev a) (evAnd l)
  | .star _ _ => fun _ => Mo.fail
def evOr : IA → Dn
  | .nil => dLit (.bool false)
  | .cons a .nil => ev a
  | .cons a l => dOr (ev a) (evOr l)
  | .star _ _ => fun _ => Mo.fail
def evO : IO → On
  | .no => oNo
  | .yes a => oSome (ev a)
def evR : IR → Sr
  | .seq a => sSeq (ev a)
  | .enum a => sEnum (ev a)
  | .zip2 a b => sZip2 (ev a) (ev b)
  | .rng1 a => sRng1 (ev a)
  | .rng2 a b => sRng2 (ev a) (ev b)
  | .rng3 a b c => sRng3 (ev a) (ev b) (ev c)
end
end
mutual
def evS' (fs : List FnI) (cs : List (Str × Dt)) (ps : Option Nat) : IS → Sn
  | .pass => sNil
  | .doc => sNil
  | .brk => sBr
  | .cont => sCt
  | .never => sNo
  | .retN => sRetN
  | .expr S a => sExpr S (ev fs cs ps a)
  | .ret S a => sRet S (ev fs cs ps a)
  | .retO i => sRetO i
  | .asg S i a => sAsg ps i S (ev fs cs ps a)
  | .asgO S i a => sAsgO ps i S (ev fs cs ps a)
  | .par S i j b1 b2 a b => sPar ps i j b1 b2 S (ev fs cs ps a) (ev fs cs ps b)
  | .bind S t a => sBind ps t S (ev fs cs ps a)
  | .aug S o i a => sAug ps i S o (ev fs cs ps a)
  | .app S i a => sApp i S (ev fs cs ps a)
  | .ext S i a => sExt i S (ev fs cs ps a)
  | .pop j i => sPop ps j i
  | .popX i => sPopX i
  | .popAt S j i a => sPopAt ps j i S (ev fs cs ps a)
  | .popAtX S i a => sPopAtX i S (ev fs cs ps a)
  | .set S i k a => sSet i S (ev fs cs ps a) (ev fs cs ps k)
  | .swp S i k1 k2 a b => sSwp i S (ev fs cs ps a) (ev fs cs ps b) (ev fs cs ps k1) (ev fs cs ps k2)
  | .sif S c f g => sIf S (ev fs cs ps c) (evSs fs cs ps f) (evSs fs cs ps g)
  | .sfor S src t b => sFor ps S (evR fs cs ps src) t (evSs fs cs ps b)
  | .swh n S c b => sWh n S (ev fs cs ps c) (evSs fs cs ps b)
  | .fz l s => sFz l (evS' fs cs ps s)
  | .potw k S a => sPotw k S (ev fs cs ps a)
  | .sforP S src t S1 i a b => sFor ps S (evR fs cs ps src) t (sPotIn i S1 (ev fs cs none a) (evSs fs cs (some i) b))
def evSs (fs : List FnI) (cs : List (Str × Dt)) (ps : Option Nat) : List IS → Sn
  | [] => sNil
  | [s] => evS' fs cs ps s
  | s :: t :: r => sSq (evS' fs cs ps s) (evSs fs cs ps (t :: r))
end
section
variable (fs : List FnI)
/-- new (true) or standing (false) -/
def md : IE → Bool
  | .var _ => false
  | .band _ => false
  | .bor _ => false
  | .ite _ a b => md a && md b
  | .idx _ _ => false
  | .call n _ => match fs[n]? with | some F => F.fresh | none => false
  | .callp n _ => match fs[n]? with | some F => F.fresh | none => false
  | _ => true
end
end Ev

/-! Ev, part P: how the terms are held against the text. -/
namespace Ev
open PySem L2

def dbgB (x : Str) : Bool := !(x == ("__debug__" : Str)) && !(x == ("__classdict__" : Str)) && !(x == ("__name__" : Str))
def visB (sc : Scope) (x : Str) : Bool := match sc.names.lookup x with
  | some .local => true
  | some .cell => true
  | some .free => true
  | _ => false
def nmB (c : Cs) (i : Nat) (x : Str) : Bool := decide (c.N[i]? = some x) && visB c.sc x && dbgB x
def glB (c : Cs) (x : Str) : Bool := decide (c.sc.names.lookup x = some .globalImplicit) && dbgB x
/-- a name that may be stored -/
def stB (c : Cs) (x : Str) : Bool := match c.sc.names.lookup x with
  | some .local => true
  | some .cell => match c.blk with
    | none => true
    | some s => s.names.lookup x == some .cell
  | _ => false
def litB (d : Dt) (k : Const) : Bool := match d, k with
  | .none, .none => true
  | .bool a, .bool b => a == b
  | .int i, .int j => i == j
  | .str x, .str y => x == y
  | _, _ => false
def okBin : Operator → Bool
  | .Add | .Sub | .Mult | .FloorDiv | .Mod | .Pow => true
  | _ => false
inductive Md where
  | b | v | t
  deriving DecidableEq
def plB (m : Md) (x : Expr) : Bool := match m with
  | .t => plainTest x
  | _ => true
def ownN (N : List Str) (vs : List Nat) : List (Str × Nat) := vs.map fun i => (N[i]?.getD (Str.ofString ""), i)
def subB (a b : List Nat) : Bool := a.all fun i => b.contains i
mutual
def tgB (c : Cs) : Tg → Expr → Bool
  | .nm i, x => match x with
    | .Name n _ => decide (c.N[i]? = some n) && stB c n
    | _ => false
  | .tp l, x => match x with
    | .Tuple es _ _ => tgsB c l es
    | _ => false
def tgsB (c : Cs) : List Tg → List Expr → Bool
  | [], es => match es with
    | [] => true
    | _ => false
  | t :: ts, es => match es with
    | e :: r => notStar e && tgB c t e && tgsB c ts r
    | [] => false
end
def noSet : Expr → Bool
  | .Set .. => false
  | _ => true
def nm? : Expr → Option Str
  | .Name n _ => some n
  | _ => none
/-! the shapes, with what is asked of the parts -/
abbrev Fe := Expr → Bool
abbrev Fa := List Expr → Bool
abbrev Fo := Option Expr → Bool
abbrev Fr := Expr → Expr → Bool
def aVar (c : Cs) (m : Md) (S : List Nat) (i : Nat) : Fe
  | .Name n _ => nmB c i n && (decide (m = .b) || S.contains i)
  | _ => false
def aLit (d : Dt) : Fe
  | .Constant k _ _ => litB d k
  | _ => false
def conB (c : Cs) (k : Nat) (n : Str) : Bool := match c.cs[k]? with
  | some p => decide (p.1 = n)
  | none => false
def aCon (c : Cs) (k : Nat) : Fe
  | .Name n _ => glB c n && conB c k n
  | _ => false
def aBin (o : Operator) (fa fb : Fe) : Fe
  | .BinOp x1 o' x2 _ => decide (o = o') && okBin o && fa x1 && fb x2
  | _ => false
def aNeg (fa : Fe) : Fe
  | .UnaryOp .USub x1 _ => fa x1
  | _ => false
def aCmp (o : CmpOp) (fa fb : Fe) : Fe
  | .Compare x1 [o'] [x2] _ => decide (o = o') && !behindInMarks o x2 && fa x1 && fb x2
  | _ => false
def aChn (o o' : CmpOp) (fa fb fd : Fe) : Fe
  | .Compare x1 [q, q'] [x2, x3] _ => decide (o = q) && decide (o' = q') && !lastMarks [o, o'] [x2, x3] && fa x1 && fb x2 && fd x3
  | _ => false
def aAnd (fl : Fa) : Fe
  | .BoolOp .And xs _ => fl xs
  | _ => false
def aOr (fl : Fa) : Fe
  | .BoolOp .Or xs _ => fl xs
  | _ => false
def aNot (fa : Fe) : Fe
  | .UnaryOp .Not x1 _ => fa x1
  | _ => false
def aIte (m : Md) (fd fa fb : Fe) : Fe
  | .IfExp x1 x2 x3 _ => !decide (m = .t) && fd x1 && fa x2 && fb x3
  | _ => false
def aTup (fl : Fa) : Fe
  | .Tuple xs _ _ => fl xs
  | _ => false
def aLst (fl : Fa) : Fe
  | .List xs _ => fl xs
  | _ => false
def aIdx (fa fb : Fe) : Fe
  | .Subscript x1 x2 _ => plainIx x2 && fa x1 && fb x2
  | _ => false
def aSlc (fa : Fe) (fl fh : Fo) : Fe
  | .Subscript x1 (.Slice l h none _) _ => fa x1 && fl l && fh h
  | _ => false
def aRev (fa : Fe) : Fe
  | .Subscript x1 (.Slice none none (some (.UnaryOp .USub (.Constant (.int k) _ _) _)) _) _ => decide (k = 1) && fa x1
  | _ => false
def fnB (c : Cs) (n : Nat) (f : Str) (pot : Bool) : Bool := match c.fns[n]? with
  | some F => decide (F.name = f) && decide (F.pot = pot)
  | none => false
def aCall (c : Cs) (n : Nat) (fl : Fa) : Fe
  | .Call (.Name f _) xs [] _ => glB c f && !xs.isEmpty && xs.all notStar && fnB c n f false && fl xs
  | _ => false
def potB (c : Cs) (p : Str) : Bool := match c.ps with
  | some i => nmB c i p
  | none => false
def aPotr (c : Cs) (k : Nat) : Fe
  | .Subscript (.Name p _) (.Constant (.int j) _ _) _ => decide (j = (k : Int)) && potB c p
  | _ => false
def aCallp (c : Cs) (n : Nat) (fl : Fa) : Fe
  | .Call (.Name f _) (.Name p _ :: xs) [] _ => glB c f && xs.all notStar && fnB c n f true && potB c p && fl xs
  | _ => false
def aBi (c : Cs) (g : Bi) (fl : Fa) : Fe
  | .Call (.Name f _) xs [] _ => decide (f = Str.ofString g.id) && glB c f && !xs.isEmpty && xs.all notStar && fl xs
  | _ => false
def aIsi (c : Cs) (T : String) (fa : Fe) : Fe
  | .Call (.Name f _) [x1, .Name t _] [] _ => decide (f = Str.ofString "isinstance") && glB c f && decide (t = Str.ofString T) && glB c t && kits.contains T && notStar x1 && fa x1
  | _ => false
def aTwo (c : Cs) (f1 f2 : String) (fa : Fe) : Fe
  | .Call (.Name f _) [.Call (.Name t _) [x1] [] _] [] _ => decide (f = Str.ofString f1) && glB c f && decide (t = Str.ofString f2) && glB c t && notStar x1 && fa x1
  | _ => false
def aTwo2 (c : Cs) (f1 f2 : String) (fa fb : Fe) : Fe
  | .Call (.Name f _) [.Call (.Name t _) [x1, x2] [] _] [] _ => decide (f = Str.ofString f1) && glB c f && decide (t = Str.ofString f2) && glB c t && notStar x1 && notStar x2 && fa x1 && fb x2
  | _ => false
def potNo (c : Cs) (vs : List Nat) : Bool := match c.ps with
  | some i => !vs.contains i
  | none => true
def yesE : IE → Bool
  | .lit (.bool true) => true
  | _ => false
def aIfs (y : Bool) (fq : Fe) : Fa
  | [] => y
  | [q] => fq q
  | _ => false
def Cs.in_ (c : Cs) (sc : Scope) : Cs := { c with sc := relS sc c.sc, blk := some sc }
def aLc (c : Cs) (t : Tg) (vs : List Nat) (y : Bool) (fr : Fr) (fq fe : Cs → Fe) : Fe
  | .ListComp e [⟨tg, it, ifs, 0⟩] sc _ => blkC c.N c.sc sc (ownN c.N vs) && noSet it && potNo c vs && subB t.slots vs && fr tg it && tgB (c.in_ sc) t tg && aIfs y (fq (c.in_ sc)) ifs && fe (c.in_ sc) e
  | _ => false
def aLc2 (c : Cs) (t : Tg) (vs : List Nat) (y : Bool) (t1 : Tg) (vs1 : List Nat) (y1 : Bool) (fr : Fr) (fq : Cs → Fe) (fr1 : Cs → Fr) (fq1 fe : Cs → Fe) : Fe
  | .ListComp e [⟨tg, it, ifs, 0⟩, ⟨tg1, it1, ifs1, 0⟩] sc _ => blkC c.N c.sc sc (ownN c.N vs) && noSet it && noSet it1 && potNo c vs && subB t.slots vs && subB t1.slots vs1 && subB vs1 vs && fr tg it && tgB (c.in_ sc) t tg && aIfs y (fq (c.in_ sc)) ifs &&
      fr1 (c.in_ sc) tg1 it1 && tgB (c.in_ sc) t1 tg1 && aIfs y1 (fq1 (c.in_ sc)) ifs1 && fe (c.in_ sc) e
  | _ => false
def aNil : Fa
  | [] => true
  | _ => false
def aCons (fa : Fe) (fl : Fa) : Fa
  | x :: r => notStar x && fa x && fl r
  | [] => false
def aStar (bo : Bool) (fa : Fe) (fl : Fa) : Fa
  | .Starred x _ :: r => !bo && fa x && fl r
  | _ => false
def aOne (fa : Fe) : Fa
  | [x] => fa x
  | _ => false
def aMore (fa : Fe) (fl : Fa) : Fa
  | x :: y :: r => fa x && fl (y :: r)
  | _ => false
def aNo : Fo
  | none => true
  | some _ => false
def aYes (fa : Fe) : Fo
  | some x => fa x
  | none => false
def rEnum (c : Cs) (fa : Fe) : Fr
  | .Tuple .., .Call (.Name f _) [x1] [] _ => decide (f = Str.ofString "enumerate") && glB c f && notStar x1 && fa x1
  | _, _ => false
def rZip (c : Cs) (fa fb : Fe) : Fr
  | .Tuple .., .Call (.Name f _) [x1, x2] [] _ => decide (f = Str.ofString "zip") && glB c f && notStar x1 && notStar x2 && fa x1 && fb x2
  | _, _ => false
def rR1 (c : Cs) (fa : Fe) : Fe
  | .Call (.Name f _) [x1] [] _ => decide (f = Str.ofString "range") && glB c f && notStar x1 && fa x1
  | _ => false
def rR2 (c : Cs) (fa fb : Fe) : Fe
  | .Call (.Name f _) [x1, x2] [] _ => decide (f = Str.ofString "range") && glB c f && notStar x1 && notStar x2 && fa x1 && fb x2
  | _ => false
def rR3 (c : Cs) (fa fb fd : Fe) : Fe
  | .Call (.Name f _) [x1, x2, x3] [] _ => decide (f = Str.ofString "range") && glB c f && notStar x1 && notStar x2 && notStar x3 && fa x1 && fb x2 && fd x3
  | _ => false
mutual
def ck : IE → Cs → Md → List Nat → Fe
  | .var i, c, m, S => aVar c m S i
  | .lit d, _, _, _ => aLit d
  | .con k, c, _, _ => aCon c k
  | .bin o a b, c, _, S => aBin o (ck a c .b S) (ck b c .b S)
  | .neg a, c, _, S => aNeg (ck a c .b S)
  | .cmp o a b, c, _, S => aCmp o (ck a c .b S) (ck b c .b S)
  | .chn o o' a b d, c, _, S => aChn o o' (ck a c .b S) (ck b c .b S) (ck d c .b S)
  | .band l, c, m, S => aAnd (ckL l c m S)
  | .bor l, c, m, S => aOr (ckL l c m S)
  | .not a, c, m, S => aNot (ck a c (if m = .t then .t else .b) S)
  | .ite d a b, c, m, S => aIte m (ck d c .t S) (ck a c .v S) (ck b c .v S)
  | .tup l, c, _, S => aTup (ckA l c false S)
  | .lst l, c, _, S => aLst (ckA l c false S)
  | .idx a b, c, _, S => aIdx (ck a c .b S) (ck b c .b S)
  | .slc a lo hi, c, _, S => aSlc (ck a c .b S) (ckO lo c S) (ckO hi c S)
  | .rev a, c, _, S => aRev (ck a c .b S)
  | .call n l, c, _, S => aCall c n (ckA l c false S)
  | .callp n l, c, _, S => aCallp c n (ckA l c false S)
  | .bi g l, c, _, S => aBi c g (ckA l c true S)
  | .isi T a, c, _, S => aIsi c T (ck a c .b S)
  | .ssort a, c, _, S => aTwo c "sorted" "set" (ck a c .b S)
  | .slen a, c, _, S => aTwo c "len" "set" (ck a c .b S)
  | .lrg1 tp a, c, _, S => aTwo c (if tp = true then "tuple" else "list") "range" (ck a c .b S)
  | .lrg2 tp a b, c, _, S => aTwo2 c (if tp = true then "tuple" else "list") "range" (ck a c .b S) (ck b c .b S)
  | .potr k, c, _, _ => aPotr c k
  | .lc src t vs cond elt, c, _, S => aLc c t vs (yesE cond) (ckR src c false S) (fun c' => ck cond c' .t (vs ++ S)) (fun c' => ck elt c' .v (vs ++ S))
  | .lc2 src t vs cond src1 t1 vs1 cond1 elt, c, _, S => aLc2 c t vs (yesE cond) t1 vs1 (yesE cond1) (ckR src c false S) (fun c' => ck cond c' .t (vs ++ S)) (fun c' => ckR src1 c' true (vs ++ S)) (fun c' => ck cond1 c' .t (vs1 ++ (vs ++ S))) (fun c' => ck elt c' .v (vs1 ++ (vs ++ S)))
def ckA : IA → Cs → Bool → List Nat → Fa
  | .nil, _, _, _ => aNil
  | .cons a l, c, bo, S => aCons (ck a c (if bo = true then .b else .v) S) (ckA l c bo S)
  | .star a l, c, bo, S => aStar bo (ck a c .b S) (ckA l c bo S)
/-- and, or -/
def ckL : IA → Cs → Md → List Nat → Fa
  | .nil, _, _, _ => fun _ => false
  | .cons a .nil, c, m, S => aOne (ck a c (if m = .t then .t else .v) S)
  | .cons a (.cons b l), c, m, S => aMore (ck a c (if m = .t then .t else .b) S) (ckL (.cons b l) c m S)
  | .cons _ (.star _ _), _, _, _ => fun _ => false
  | .star _ _, _, _, _ => fun _ => false
def ckO : IO → Cs → List Nat → Fo
  | .no, _, _ => aNo
  | .yes a, c, S => aYes (ck a c .b S)
def ckR : IR → Cs → Bool → List Nat → Fr
  | .seq a, c, kf, S => fun _ => ck a c (if kf = true then .v else .b) S
  | .enum a, c, kf, S => rEnum c (ck a c (if kf = true then .v else .b) S)
  | .zip2 a b, c, kf, S => rZip c (ck a c (if kf = true then .v else .b) S) (ck b c (if kf = true then .v else .b) S)
  | .rng1 a, c, _, S => fun _ => rR1 c (ck a c .b S)
  | .rng2 a b, c, _, S => fun _ => rR2 c (ck a c .b S) (ck b c .b S)
  | .rng3 a b d, c, _, S => fun _ => rR3 c (ck a c .b S) (ck b c .b S) (ck d c .b S)
end
end Ev

/-! Ev, part Q: what is held against the text is so: expressions. -/
namespace Ev
open PySem L2

def bltS : List String := ["len", "abs", "int", "list", "tuple", "max", "min", "any", "all", "sum", "sorted", "repr", "isinstance", "set", "range", "enumerate", "zip", "bool", "str", "dict"]
structure Good (c : Cs) (X : Cx) : Prop where
  N : X.N = c.N
  nd : c.N.Nodup
  sc : X.env.scope = c.sc
  kd : X.env.scope.kind = .function
  fn : X.fn = match c.blk with
    | none => fun _ => true
    | some s => fun x => s.names.lookup x == some .cell
  calm : X.calm = true
  gd : X.A.guards = some []
  un : X.A.units + 100 < cLine
  fns : ∀ F ∈ c.fns, ∃ k f fd qs, FnG X.prog X.w X.K X.mg X.base k f fd qs (spN X.K F) ∧ Room k X.A ∧ X.mg F.name = some (.ref f) ∧ PySem.W.keepIn X.K (.ref f) = true ∧ Binds X.K fd qs []
  cs : ∀ p ∈ c.cs, ∃ u v, X.mg p.1 = some u ∧ RelV v u ∧ Still p.2 = true ∧ ∀ R, Rp X.K R v p.2
  bl : ∀ n ∈ bltS, X.mg (Str.ofString n) = none
section
variable {c : Cs} {X : Cx}
theorem Good.blk' (g : Good c X) {sc : Scope} (hk : sc.kind = .function) (s : Shared) (H : Hp) (C : Addr) (cl : List (Str × Addr)) (fp : List Addr) : Good { c with sc := relS sc c.sc, blk := some sc } (X.blk s H sc (compEnvC sc cl C X.env) fp) where
  N := g.N
  nd := g.nd
  sc := by rw [← g.sc]; rfl
  kd := hk
  fn := rfl
  calm := g.calm
  gd := g.gd
  un := g.un
  fns := g.fns
  cs := g.cs
  bl := g.bl
theorem dbg_ok {x : Str} (h : dbgB x = true) : (x == ("__debug__" : Str)) = false ∧ (x == ("__classdict__" : Str)) = false ∧ x ≠ "__name__" := by
  unfold dbgB at h
  simp only [Bool.and_eq_true, Bool.not_eq_true'] at h
  exact ⟨h.1.1, h.1.2, fun e => by rw [e] at h; exact absurd h.2 (by simp)⟩
theorem vis_ok {sc : Scope} {x : Str} (h : visB sc x = true) : Vis sc x := by
  unfold visB at h
  split at h
  · exact .inl (by assumption)
  · exact .inr (.inl (by assumption))
  · exact .inr (.inr (by assumption))
  · cases h
theorem gl_ok (g : Good c X) {x : Str} (h : glB c x = true) : Gl X x ∧ dbgB x = true := by
  unfold glB at h
  simp only [Bool.and_eq_true, decide_eq_true_eq] at h
  refine ⟨?_, h.2⟩
  show X.env.scope.names.lookup x = _
  rw [g.sc]
  exact h.1
theorem nm_ok (g : Good c X) {i : Nat} {x : Str} {pos : Pos} (h : nmB c i x = true) : PE X (.Name x pos) (tVar i) := by
  unfold nmB at h
  simp only [Bool.and_eq_true, decide_eq_true_eq] at h
  obtain ⟨d1, d2, _⟩ := dbg_ok h.2
  exact pe_var (by rw [g.N]; exact h.1.1) (by rw [g.sc]; exact vis_ok h.1.2) d1 d2
/-- what is known of an expression in a mode -/
def Sw (X : Cx) (ps : Option Nat) (S : List Nat) (x : Expr) (f : Dn) : Prop := ∀ elt gs sc pos, x = .ListComp elt gs sc pos → ∀ (i : Nat) (y : Str) (py spos : Pos), X.N[i]? = some y → X.env.scope.names.lookup y = some .local →
  swapsWith x (some (.Name y py)) spos.line X.env = pure true → ∃ te, PS X (.Assign [.Name y py] x spos) (tAsg te (gName i)) ∧ ∀ σ H Q, TF X.K ps S f σ H Q → te σ H Q
def isLC : Expr → Bool
  | .ListComp .. => true
  | _ => false
theorem sw_no {ps : Option Nat} {S : List Nat} {x : Expr} {f : Dn} (h : isLC x = false) : Sw X ps S x f := fun elt gs sc pos e => by rw [e] at h; cases h
def JE (X : Cx) (c : Cs) (m : Md) (S : List Nat) (b : Bool) (f : Dn) (x : Expr) : Prop := match m with
  | .b => PE X x (TB X.K c.ps S f)
  | .v => PE X x (TM b X.K c.ps S f) ∧ Sw X c.ps S x f
  | .t => PT X x (TT' X.K c.ps S f)
def JA (X : Cx) (c : Cs) (bo : Bool) (S : List Nat) (l : Ln) (xs : List Expr) : Prop := match bo with
  | true => PA X xs (TAB X.K c.ps S l)
  | false => PA X xs (TAs X.K c.ps S l)
theorem TM.toD {b : Bool} {K : PySem.W.Frag} {ps : Option Nat} {S : List Nat} {f : Dn} {x : Expr} (h : PE X x (TM b K ps S f)) : PE X x (TD K ps S f) := by
  cases b
  · exact h
  · exact pe_FD h
theorem fin_F {m : Md} {S : List Nat} {f : Dn} {x : Expr} (hp : plainTest x = true) (hl : isLC x = false) (h : PE X x (TF X.K c.ps S f)) : JE X c m S true f x := by
  cases m
  · exact pe_DB (pe_FD h)
  · exact ⟨h, sw_no hl⟩
  · exact dt_val hp (pe_FD h)
theorem fin_D {m : Md} {S : List Nat} {f : Dn} {x : Expr} (hp : plainTest x = true) (hl : isLC x = false) (h : PE X x (TD X.K c.ps S f)) : JE X c m S false f x := by
  cases m
  · exact pe_DB h
  · exact ⟨h, sw_no hl⟩
  · exact dt_val hp h
theorem fin_M {m : Md} {b : Bool} {S : List Nat} {f : Dn} {x : Expr} (hp : plainTest x = true) (hl : isLC x = false) (h : PE X x (TM b X.K c.ps S f)) : JE X c m S b f x := by
  cases b
  · exact fin_D hp hl h
  · exact fin_F hp hl h
theorem bin_ok {o : Operator} (h : okBin o = true) : OpR X (binaryOp o) (V2 X.K (binD o)) := by
  cases o with
  | Add => exact ov_add
  | Sub => exact ov_sub
  | Mult => exact ov_mul
  | FloorDiv => exact ov_div
  | Mod => exact ov_mod
  | Pow => exact ov_pow
  | _ => cases h
theorem cmp_ok (g : Good c X) (o : CmpOp) : OpR X (compareOp o) (V2 X.K (cmpD o)) := by
  have hu := g.un
  cases o with
  | Lt => exact ov_lt
  | LtE => exact ov_le
  | Gt => exact ov_gt
  | GtE => exact ov_ge
  | Eq => exact ov_eq (by omega)
  | NotEq => exact ov_ne (by omega)
  | Is => exact ov_is
  | IsNot => exact ov_isnt
  | In => exact ov_in (by omega)
  | NotIn => exact ov_notIn (by omega)
theorem lit_ok {d : Dt} {k : Const} {j : Nat} {pos : Pos} {ps : Option Nat} {S : List Nat} (h : litB d k = true) : PE X (.Constant k j pos) (TF X.K ps S (dLit d)) := by
  cases d with
  | none =>
    cases k with
    | none => exact de_lit rfl (fun R => .non) pe_non
    | _ => cases h
  | bool a =>
    cases k with
    | bool b =>
      have e : a = b := eq_of_beq h
      subst e
      exact de_lit rfl (fun R => .bl a) pe_bl
    | _ => cases h
  | int a =>
    cases k with
    | int b =>
      have e : a = b := eq_of_beq h
      subst e
      exact de_lit rfl (fun R => .int a) pe_int
    | _ => cases h
  | str a =>
    cases k with
    | str b =>
      have e : a = b := eq_of_beq h
      subst e
      exact de_lit rfl (fun R => .str a) pe_str
    | _ => cases h
  | _ => cases h
theorem bi_mem (gb : Bi) : gb.id ∈ bltS := by cases gb <;> decide
theorem bi_okE (g : Good c X) {gb : Bi} {S : List Nat} {l : Ln} {f : Str} {p pos : Pos} {e : Expr} {es : List Expr} (hf : f = Str.ofString gb.id) (hg : Gl X f) (hn : (e :: es).all notStar = true) (ha : PA X (e :: es) (TAB X.K c.ps S l)) :
    PE X (.Call (.Name f p) (e :: es) [] pos) (TF X.K c.ps S (dBi gb.fn l)) := by
  subst hf
  have hm := g.bl _ (bi_mem gb)
  have hu := g.un
  cases gb with
  | len => exact de_bi cv_len hg hm (by decide +kernel) (by decide) (by decide) hn ha
  | abs => exact de_bi cv_abs hg hm (by decide +kernel) (by decide) (by decide) hn ha
  | int => exact de_biT cv_int hg hm (by decide +kernel) (by decide) (by decide) hn ha
  | list => exact de_biT cv_list hg hm (by decide +kernel) (by decide) (by decide) hn ha
  | tuple => exact de_biT cv_tuple hg hm (by decide +kernel) (by decide) (by decide) hn ha
  | max => exact de_bi (cv_max g.calm) hg hm (by decide +kernel) (by decide) (by decide) hn ha
  | min => exact de_bi (cv_min g.calm (by have := g.un; omega)) hg hm (by decide +kernel) (by decide) (by decide) hn ha
  | any => exact de_bi (cv_any g.calm) hg hm (by decide +kernel) (by decide) (by decide) hn ha
  | all => exact de_bi (cv_all g.calm) hg hm (by decide +kernel) (by decide) (by decide) hn ha
  | sum => exact de_bi (cv_sum g.calm) hg hm (by decide +kernel) (by decide) (by decide) hn ha
  | sorted => exact de_bi (cv_sorted (by omega)) hg hm (by decide +kernel) (by decide) (by decide) hn ha
  | repr => exact de_bi (cv_repr g.gd (by omega)) hg hm (by decide +kernel) (by decide) (by decide) hn ha
theorem call_okE (g : Good c X) {n : Nat} {S : List Nat} {l : Ln} {f : Str} {p pos : Pos} {e : Expr} {es : List Expr} {F : FnI} (hF : c.fns[n]? = some F) (hf : F.name = f) (hp : F.pot = false) (hg : Gl X f) (hd : (f == ("__debug__" : Str)) = false) (hn : (e :: es).all notStar = true) (ha : PA X (e :: es) (TAs X.K c.ps S l)) :
    PE X (.Call (.Name f p) (e :: es) [] pos) (TM F.fresh X.K c.ps S (dCall F l)) := by
  obtain ⟨k, fa, fd, qs, G, hr, hm, hk, hb⟩ := g.fns F (List.mem_of_getElem? hF)
  rw [hf] at hm
  have q := pe_callG (p := p) (pos := pos) G hr g.gd hg hm hk hb hd hn ha
  cases hfr : F.fresh
  · exact pe_imp q fun _ _ _ z => call_ok hp z hfr
  · exact pe_imp q fun _ _ _ z => call_okF hp z hfr
theorem callp_okE (g : Good c X) {n i : Nat} {S : List Nat} {l : Ln} {f x : Str} {p p2 pos : Pos} {es : List Expr} {F : FnI} (hF : c.fns[n]? = some F) (hf : F.name = f) (hp : F.pot = true) (hps : c.ps = some i) (hg : Gl X f) (hd : (f == ("__debug__" : Str)) = false) (hn : es.all notStar = true) (hv : PE X (.Name x p2) (tVar i)) (ha : PA X es (TAs X.K c.ps S l)) :
    PE X (.Call (.Name f p) (.Name x p2 :: es) [] pos) (TM F.fresh X.K c.ps S (dCall F l)) := by
  obtain ⟨k, fa, fd, qs, G, hr, hm, hk, hb⟩ := g.fns F (List.mem_of_getElem? hF)
  rw [hf] at hm
  rw [hps] at ha ⊢
  have q := pe_callG (p := p) (pos := pos) G hr g.gd hg hm hk hb hd (by rw [List.all_cons, hn]; rfl) (da_pot hv ha)
  cases hfr : F.fresh
  · exact pe_imp q fun _ _ _ z => call_okP hp z hfr
  · exact pe_imp q fun _ _ _ z => call_okPF hp z hfr
theorem rg_ok {tp : Bool} {i j : Int} {d : Dt} (h : lrgD tp i j = some d) : RgOk i j ∧ d = if tp = true then .tuple (rngD i (j - i).toNat) else .list (rngD i (j - i).toNat) := by
  unfold lrgD at h
  split at h
  · rename_i c
    cases h
    exact ⟨c, rfl⟩
  · cases h
theorem rgV_rp {K : PySem.W.Frag} {R : Hp} (i j : Int) : RpL K R (rgV i j) (rngD i (j - i).toNat) := by
  unfold rgV rngD
  induction (List.range (j - i).toNat) with
  | nil => exact .nil
  | cons a r ih => exact .cons (.int _) ih
theorem lrg_fin {tp : Bool} {i j : Int} {d : Dt} {K : PySem.W.Frag} {po : Option Addr} {R H R1 H1 : Hp} {pt : Pt} {Q : VK} (h : lrgD tp i j = some d) (x1 : Ext po R H R1 H1) (q1 : PotAt po H1 pt)
    (k : ∀ v R' H', Ext po R H R' H' → PotAt po H' pt → Nw K H R' H' v d → Q v H') : RgOk i j ∧ ∀ q, H1 q = none → Q (.ref q) (upd H1 q (if tp = true then .tup (rgV i j) else .lst (rgV i j))) := by
  obtain ⟨ok, e⟩ := rg_ok h
  subst e
  have ko : Ko K R1 H1 (if tp = true then .tuple (rngD i (j - i).toNat) else .list (rngD i (j - i).toNat)) Q := fun v R' H' x4 n => k v R' H' (x1.trans x4.none) (q1.keep x4) (n.back x1.d)
  have hl : (rngD i (j - i).toNat).length ≤ sizeLine := by
    unfold rngD
    rw [List.length_map, List.length_range]
    have := ok.2.2.2.2
    have := sizeLine_eq
    omega
  refine ⟨ok, fun q hq => ?_⟩
  cases tp
  · exact ko.lst x1.s (rgV_rp i j) hl q hq
  · exact ko.tup x1.s (rgV_rp i j) hl q hq
theorem lrg1_ok (g : Good c X) {tp : Bool} {S : List Nat} {f : Dn} {p p2 q pos : Pos} {e : Expr} (hg : Gl X (Str.ofString (if tp = true then "tuple" else "list"))) (hg2 : Gl X (Str.ofString "range")) (hn : notStar e = true) (he : PE X e (TB X.K c.ps S f)) :
    PE X (.Call (.Name (Str.ofString (if tp = true then "tuple" else "list")) p) [.Call (.Name (Str.ofString "range") p2) [e] [] q] [] pos) (TF X.K c.ps S (dLrg1 tp f)) := by
  have hr := prg_1 (p := p2) (pos := q) hg2 (g.bl "range" (by decide)) he (star_no hn)
  have main : ∀ σ H Q, TF X.K c.ps S (dLrg1 tp f) σ H Q → tRg1 (TB X.K c.ps S f) σ H fun i j H1 => RgOk i j ∧ ∀ q, H1 q = none → Q (.ref q) (upd H1 q (if tp = true then .tup (rgV i j) else .lst (rgV i j))) := fun σ H Q ⟨po, env, pt, d, pt', R, w, qq, k⟩ => by
    obtain ⟨dx, p1, e1, q1⟩ := Mo.bnd_some qq
    refine ⟨po, env, pt, dx, p1, R, w, e1, fun v R1 H1 x1 qq1 s1 => ?_⟩
    split at q1
    · obtain ⟨e2, e3⟩ := Mo.ofO_some q1
      subst e3
      obtain rfl := s1.int
      exact ⟨_, rfl, lrg_fin e2 x1 qq1 k⟩
    · cases q1
  cases tp
  · exact pe_imp (pe_listRg g.calm hg (g.bl "list" (by decide)) hr (by rfl)) main
  · exact pe_imp (pe_tupRg g.calm hg (g.bl "tuple" (by decide)) hr (by rfl)) main
theorem lrg2_ok (g : Good c X) {tp : Bool} {S : List Nat} {f h : Dn} {p p2 q pos : Pos} {e e2 : Expr} (hg : Gl X (Str.ofString (if tp = true then "tuple" else "list"))) (hg2 : Gl X (Str.ofString "range")) (hn : notStar e = true) (hn2 : notStar e2 = true) (he : PE X e (TB X.K c.ps S f)) (he2 : PE X e2 (TB X.K c.ps S h)) :
    PE X (.Call (.Name (Str.ofString (if tp = true then "tuple" else "list")) p) [.Call (.Name (Str.ofString "range") p2) [e, e2] [] q] [] pos) (TF X.K c.ps S (dLrg2 tp f h)) := by
  have hr := prg_2 (p := p2) (pos := q) hg2 (g.bl "range" (by decide)) he he2 (star_no hn) (star_no hn2) (by rw [star_no hn2]; rfl)
  have main : ∀ σ H Q, TF X.K c.ps S (dLrg2 tp f h) σ H Q → tRg2 (TB X.K c.ps S f) (TB X.K c.ps S h) σ H fun i j H1 => RgOk i j ∧ ∀ q, H1 q = none → Q (.ref q) (upd H1 q (if tp = true then .tup (rgV i j) else .lst (rgV i j))) := fun σ H Q ⟨po, env, pt, d, pt', R, w, qq, k⟩ => by
    obtain ⟨dx, p1, e1, q1⟩ := Mo.bnd_some qq
    obtain ⟨dy, p2, e3, q2⟩ := Mo.bnd_some q1
    refine ⟨po, env, pt, dx, p1, R, w, e1, fun v R1 H1 x1 qq1 s1 => ⟨po, env, p1, dy, p2, R1, w.up x1 qq1, e3, fun v2 R2 H2 x2 qq2 s2 => ?_⟩⟩
    split at q2
    · obtain ⟨e4, e5⟩ := Mo.ofO_some q2
      subst e5
      obtain rfl := s1.int
      obtain rfl := s2.int
      exact ⟨_, _, rfl, rfl, lrg_fin e4 (x1.trans x2) qq2 k⟩
    · cases q2
  cases tp
  · exact pe_imp (pe_listRg g.calm hg (g.bl "list" (by decide)) hr (by rfl)) main
  · exact pe_imp (pe_tupRg g.calm hg (g.bl "tuple" (by decide)) hr (by rfl)) main
end
end Ev

/-! Ev, part R: what is held against the text is so: targets, expressions by induction. -/
namespace Ev
open PySem L2

section
variable {c : Cs} {X : Cx}
theorem st_name (g : Good c X) {i : Nat} {x : Str} {pos : Pos} (h : (decide (c.N[i]? = some x) && stB c x) = true) : PG X (.Name x pos) (gName i) := by
  simp only [Bool.and_eq_true, decide_eq_true_eq] at h
  obtain ⟨h1, h2⟩ := h
  unfold stB at h2
  refine pg_name (by rw [g.N]; exact g.nd) (by rw [g.N]; exact h1) ?_ ?_
  · rw [g.sc]
    split at h2
    · exact .inl (by assumption)
    · exact .inr (by assumption)
    · cases h2
  · rw [g.sc]
    split at h2
    · exact .inr (by assumption)
    · refine .inl ?_
      rw [g.fn]
      split at h2
      · rename_i e; rw [e]
      · rename_i e; rw [e]; exact h2
    · cases h2
theorem each_no {e : Expr} {es : List Expr} {env : Env} (h : notStar e = true) : assignEach (e :: es) env = (false, assign e env) :: assignEach es env := by
  cases e with
  | Starred => cases h
  | _ => rfl
theorem tgs_len {c : Cs} : ∀ (ts : List Tg) (es : List Expr) {env : Env}, tgsB c ts es = true → (assignEach es env).length = ts.length ∧ (assignEach es env).findIdx? (·.1) = none
  | [], es, env, h => by
    cases es with
    | nil => exact ⟨rfl, rfl⟩
    | cons => cases h
  | t :: ts, es, env, h => by
    cases es with
    | nil => cases h
    | cons e r =>
      simp only [tgsB, Bool.and_eq_true] at h
      obtain ⟨i1, i2⟩ := tgs_len ts r (env := env) h.2
      rw [each_no h.1.1]
      exact ⟨by rw [List.length_cons, List.length_cons, i1], by rw [List.findIdx?_cons, i2]; rfl⟩
mutual
theorem tg_ok (g : Good c X) {S : List Nat} : ∀ (t : Tg) (x : Expr), tgB c t x = true → PG X x (TGt X.K c.ps S t)
  | .nm i, x, h => by
    simp only [tgB] at h
    split at h
    · exact tg_name (st_name g h)
    · cases h
  | .tp l, x, h => by
    simp only [tgB] at h
    split at h
    · obtain ⟨h1, h2⟩ := tgs_len l _ (env := X.env) h
      exact tg_tup g.calm (tgs_ok g l _ h) h1 h2
    · cases h
theorem tgs_ok (g : Good c X) {S : List Nat} : ∀ (ts : List Tg) (es : List Expr), tgsB c ts es = true → PGs X es (TGs' X.K c.ps S ts)
  | [], es, h => by
    cases es with
    | nil => exact tgs_nil
    | cons => cases h
  | t :: ts, es, h => by
    cases es with
    | nil => cases h
    | cons e r =>
      simp only [tgsB, Bool.and_eq_true] at h
      exact tgs_cons (tg_ok g t e h.1.2) (tgs_ok g ts r h.2) (by rw [each_no h.1.1]; rfl)
end
mutual
theorem sg_ok (g : Good c X) : ∀ (t : Tg) (x : Expr), tgB c t x = true → PG X x (TGs1 X.K c.ps t)
  | .nm i, x, h => by
    simp only [tgB] at h
    split at h
    · exact sg_name (st_name g h)
    · cases h
  | .tp l, x, h => by
    simp only [tgB] at h
    split at h
    · obtain ⟨h1, h2⟩ := tgs_len l _ (env := X.env) h
      exact sg_tup g.calm (sgs_ok g l _ h) h1 h2
    · cases h
theorem sgs_ok (g : Good c X) : ∀ (ts : List Tg) (es : List Expr), tgsB c ts es = true → PGs X es (TGsL X.K c.ps ts)
  | [], es, h => by
    cases es with
    | nil => exact sgs_nil
    | cons => cases h
  | t :: ts, es, h => by
    cases es with
    | nil => cases h
    | cons e r =>
      simp only [tgsB, Bool.and_eq_true] at h
      exact sgs_cons (sg_ok g t e h.1.2) (sgs_ok g ts r h.2) (by rw [each_no h.1.1]; rfl)
end
end
theorem sub_ok {a b : List Nat} (h : subB a b = true) : ∀ i ∈ a, i ∈ b := fun i hi => by
  have := List.all_eq_true.mp h i hi
  exact List.contains_iff_mem.mp this
theorem ownN_map (N : List Str) (vs : List Nat) : (ownN N vs).map (·.2) = vs := by
  unfold ownN
  rw [List.map_map]
  exact List.map_id vs
theorem noSet_ok {e : Expr} (h : noSet e = true) (env : Env) : ∀ x, foldedSetIterable e env x = pure x := fun x => by
  cases e with
  | Set => cases h
  | _ => rfl
theorem ps_free {c : Cs} {vs : List Nat} (h : potNo c vs = true) : ∀ i, c.ps = some i → i ∉ vs := fun i e m => by
  unfold potNo at h
  rw [e] at h
  have h' : (!vs.contains i) = true := h
  rw [List.contains_iff_mem.mpr m] at h'
  cases h'
theorem ifs_ok {c : Cs} {X : Cx} {S : List Nat} {cond : IE} {fq : Fe} {ifs : List Expr} {fs : List FnI} {cs : List (Str × Dt)} (h : aIfs (yesE cond) fq ifs = true) (hq : ∀ q, fq q = true → PT X q (TT' X.K c.ps S (ev fs cs c.ps cond))) : PTs X ifs (TT' X.K c.ps S (ev fs cs c.ps cond)) := by
  unfold aIfs at h
  split at h
  · unfold yesE at h
    split at h
    · exact dts_nil
    · cases h
  · exact dts_one (hq _ h)
  · cases h
mutual
theorem ck_ok : ∀ (i : IE) {c : Cs} {X : Cx} (g : Good c X) (m : Md) (S : List Nat) (x : Expr), ck i c m S x = true → JE X c m S (md c.fns i) (ev c.fns c.cs c.ps i) x
  | .var i, c, X, g, m, S, x, h => by
    rw [ck] at h
    unfold aVar at h
    split at h
    · simp only [Bool.and_eq_true, Bool.or_eq_true, decide_eq_true_eq] at h
      obtain ⟨h1, h2⟩ := h
      rcases h2 with h2 | h2
      · subst h2
        exact db_var (nm_ok g h1)
      · exact fin_D rfl rfl (de_var (List.contains_iff_mem.mp h2) (nm_ok g h1))
    · cases h
  | .lit d, c, X, g, m, S, x, h => by
    rw [ck] at h
    unfold aLit at h
    split at h
    · exact fin_F rfl rfl (lit_ok h)
    · cases h
  | .con k, c, X, g, m, S, x, h => by
    rw [ck] at h
    unfold aCon at h
    split at h
    · simp only [Bool.and_eq_true] at h
      obtain ⟨h1, h2⟩ := h
      unfold conB at h2
      split at h2
      · rename_i p hp
        have e := of_decide_eq_true h2
        obtain ⟨u, v, q1, q2, q3, q4⟩ := g.cs p (List.mem_of_getElem? hp)
        rw [e] at q1
        obtain ⟨hg, hd⟩ := gl_ok g h1
        have z : ev c.fns c.cs c.ps (.con k) = dLit p.2 := by simp only [ev, hp]
        rw [z]
        exact fin_F rfl rfl (de_lit q3 q4 (pe_glob hg q1 q2 (dbg_ok hd).1))
      · cases h2
    · cases h
  | .bin o a b, c, X, g, m, S, x, h => by
    rw [ck] at h
    unfold aBin at h
    split at h
    · simp only [Bool.and_eq_true, decide_eq_true_eq] at h
      obtain ⟨⟨⟨rfl, h1⟩, h2⟩, h3⟩ := h
      exact fin_F rfl rfl (de_bin (bin_ok h1) (ck_ok a g .b S _ h2) (ck_ok b g .b S _ h3))
    · cases h
  | .neg a, c, X, g, m, S, x, h => by
    rw [ck] at h
    unfold aNeg at h
    split at h
    · exact fin_F rfl rfl (de_un uv_neg (ck_ok a g .b S _ h))
    · cases h
  | .cmp o a b, c, X, g, m, S, x, h => by
    rw [ck] at h
    unfold aCmp at h
    split at h
    · simp only [Bool.and_eq_true, decide_eq_true_eq, Bool.not_eq_true'] at h
      obtain ⟨⟨⟨rfl, h1⟩, h2⟩, h3⟩ := h
      have ha := ck_ok a g .b S _ h2
      have hb := ck_ok b g .b S _ h3
      cases m
      · exact pe_DB (pe_FD (de_cmp (cmp_ok g _) ha hb h1))
      · exact ⟨de_cmp (cmp_ok g _) ha hb h1, sw_no rfl⟩
      · exact dt_cmp (cmp_ok g _) ha hb h1
    · cases h
  | .chn o o' a b d, c, X, g, m, S, x, h => by
    rw [ck] at h
    unfold aChn at h
    split at h
    · simp only [Bool.and_eq_true, decide_eq_true_eq, Bool.not_eq_true'] at h
      obtain ⟨⟨⟨⟨⟨rfl, rfl⟩, h1⟩, h2⟩, h3⟩, h4⟩ := h
      have ha := ck_ok a g .b S _ h2
      have hb := ck_ok b g .b S _ h3
      have hd := ck_ok d g .b S _ h4
      cases m
      · exact pe_DB (pe_FD (de_chain (cmp_ok g _) (cmp_ok g _) ha hb hd h1))
      · exact ⟨de_chain (cmp_ok g _) (cmp_ok g _) ha hb hd h1, sw_no rfl⟩
      · exact dt_chain (cmp_ok g _) (cmp_ok g _) ha hb hd h1
    · cases h
  | .band l, c, X, g, m, S, x, h => by
    rw [ck] at h
    unfold aAnd at h
    split at h
    · obtain ⟨h1, h2⟩ := ckAnd_ok l g m S _ h
      cases m
      · exact pe_DB (h1 (by decide) _)
      · exact ⟨h1 (by decide) _, sw_no rfl⟩
      · exact (h2 rfl _).pt
    · cases h
  | .bor l, c, X, g, m, S, x, h => by
    rw [ck] at h
    unfold aOr at h
    split at h
    · obtain ⟨h1, h2⟩ := ckOr_ok l g m S _ h
      cases m
      · exact pe_DB (h1 (by decide) _)
      · exact ⟨h1 (by decide) _, sw_no rfl⟩
      · exact (h2 rfl _).pt
    · cases h
  | .not a, c, X, g, m, S, x, h => by
    rw [ck] at h
    unfold aNot at h
    split at h
    · have ha := ck_ok a g _ S _ h
      cases m
      · exact pe_DB (pe_FD (de_not ha))
      · exact ⟨de_not ha, sw_no rfl⟩
      · exact dt_not ha
    · cases h
  | .ite d a b, c, X, g, m, S, x, h => by
    rw [ck] at h
    unfold aIte at h
    split at h
    · simp only [Bool.and_eq_true, Bool.not_eq_true', decide_eq_false_iff_not] at h
      obtain ⟨⟨⟨h0, h1⟩, h2⟩, h3⟩ := h
      have hd := ck_ok d g .t S _ h1
      have ha := (ck_ok a g .v S _ h2).1
      have hb := (ck_ok b g .v S _ h3).1
      cases m
      · exact pe_DB (de_if hd (TM.toD ha) (TM.toD hb))
      · refine ⟨?_, sw_no rfl⟩
        simp only [md]
        cases ea : md c.fns a
        · exact de_if hd (TM.toD ha) (TM.toD hb)
        · cases eb : md c.fns b
          · exact de_if hd (TM.toD ha) (TM.toD hb)
          · rw [ea] at ha
            rw [eb] at hb
            exact de_ifF hd ha hb
      · exact absurd rfl h0
    · cases h
  | .tup l, c, X, g, m, S, x, h => by
    rw [ck] at h
    unfold aTup at h
    split at h
    · exact fin_F rfl rfl (de_tup (ckA_ok l g false S _ h))
    · cases h
  | .lst l, c, X, g, m, S, x, h => by
    rw [ck] at h
    unfold aLst at h
    split at h
    · exact fin_F rfl rfl (de_lst (ckA_ok l g false S _ h))
    · cases h
  | .idx a b, c, X, g, m, S, x, h => by
    rw [ck] at h
    unfold aIdx at h
    split at h
    · simp only [Bool.and_eq_true] at h
      exact fin_D rfl rfl (de_idx h.1.1 (ck_ok a g .b S _ h.1.2) (ck_ok b g .b S _ h.2))
    · cases h
  | .slc a lo hi, c, X, g, m, S, x, h => by
    rw [ck] at h
    unfold aSlc at h
    split at h
    · simp only [Bool.and_eq_true] at h
      exact fin_F rfl rfl (de_slc (ck_ok a g .b S _ h.1.1) (ckO_ok lo g S _ h.1.2) (ckO_ok hi g S _ h.2))
    · cases h
  | .rev a, c, X, g, m, S, x, h => by
    rw [ck] at h
    unfold aRev at h
    split at h
    · simp only [Bool.and_eq_true, decide_eq_true_eq] at h
      obtain ⟨rfl, h2⟩ := h
      exact fin_F rfl rfl (de_rev (ck_ok a g .b S _ h2))
    · cases h
  | .call n l, c, X, g, m, S, x, h => by
    rw [ck] at h
    unfold aCall at h
    split at h
    · rename_i f p xs pos
      simp only [Bool.and_eq_true, Bool.not_eq_true'] at h
      obtain ⟨⟨⟨⟨h1, h2⟩, h3⟩, h4⟩, h5⟩ := h
      obtain ⟨hg, hd⟩ := gl_ok g h1
      unfold fnB at h4
      split at h4
      · rename_i F hF
        simp only [Bool.and_eq_true, decide_eq_true_eq] at h4
        cases xs with
        | nil => cases h2
        | cons e es =>
          have z1 : ev c.fns c.cs c.ps (.call n l) = dCall F (evA c.fns c.cs c.ps l) := by simp only [ev, callD, hF]
          have z2 : md c.fns (.call n l) = F.fresh := by simp only [md, hF]
          rw [z1, z2]
          exact fin_M rfl rfl (call_okE g hF h4.1 h4.2 hg (dbg_ok hd).1 h3 (ckA_ok l g false S _ h5))
      · cases h4
    · cases h
  | .callp n l, c, X, g, m, S, x, h => by
    rw [ck] at h
    unfold aCallp at h
    split at h
    · rename_i f p y p2 xs pos
      simp only [Bool.and_eq_true] at h
      obtain ⟨⟨⟨⟨h1, h3⟩, h4⟩, h5⟩, h6⟩ := h
      obtain ⟨hg, hd⟩ := gl_ok g h1
      unfold fnB at h4
      split at h4
      · rename_i F hF
        simp only [Bool.and_eq_true, decide_eq_true_eq] at h4
        unfold potB at h5
        split at h5
        · rename_i i hi
          have z1 : ev c.fns c.cs c.ps (.callp n l) = dCall F (evA c.fns c.cs c.ps l) := by simp only [ev, callD, hF]
          have z2 : md c.fns (.callp n l) = F.fresh := by simp only [md, hF]
          rw [z1, z2]
          exact fin_M rfl rfl (callp_okE g hF h4.1 h4.2 hi hg (dbg_ok hd).1 h3 (nm_ok g h5) (ckA_ok l g false S _ h6))
        · cases h5
      · cases h4
    · cases h
  | .bi gb l, c, X, g, m, S, x, h => by
    rw [ck] at h
    unfold aBi at h
    split at h
    · rename_i f p xs pos
      simp only [Bool.and_eq_true, decide_eq_true_eq, Bool.not_eq_true'] at h
      obtain ⟨⟨⟨⟨h0, h1⟩, h2⟩, h3⟩, h5⟩ := h
      cases xs with
      | nil => cases h2
      | cons e es => exact fin_F rfl rfl (bi_okE g h0 (gl_ok g h1).1 h3 (ckA_ok l g true S _ h5))
    · cases h
  | .isi T a, c, X, g, m, S, x, h => by
    rw [ck] at h
    unfold aIsi at h
    split at h
    · simp only [Bool.and_eq_true, decide_eq_true_eq] at h
      obtain ⟨⟨⟨⟨⟨⟨rfl, h1⟩, rfl⟩, h3⟩, h4⟩, h5⟩, h6⟩ := h
      obtain ⟨hg, _⟩ := gl_ok g h1
      obtain ⟨hg2, hd2⟩ := gl_ok g h3
      obtain ⟨d1, _, d3⟩ := dbg_ok hd2
      have hk : T ∈ bltS ∧ bootBuiltins (Str.ofString T) = some (.type T) := by
        unfold kits at h4
        simp only [List.contains_cons, List.contains_nil, Bool.or_false, Bool.or_eq_true, beq_iff_eq] at h4
        rcases h4 with rfl | rfl | rfl | rfl | rfl | rfl <;> exact ⟨by decide, by decide +kernel⟩
      exact fin_F rfl rfl (de_isi h4 hg (g.bl "isinstance" (by decide)) hg2 (g.bl T hk.1) hk.2 d3 d1 h5 (ck_ok a g .b S _ h6))
    · cases h
  | .ssort a, c, X, g, m, S, x, h => by
    rw [ck] at h
    unfold aTwo at h
    split at h
    · simp only [Bool.and_eq_true, decide_eq_true_eq] at h
      obtain ⟨⟨⟨⟨⟨rfl, h1⟩, rfl⟩, h3⟩, h4⟩, h5⟩ := h
      have hu := g.un
      exact fin_F rfl rfl (de_sortSet g.calm (by omega) (gl_ok g h1).1 (g.bl "sorted" (by decide)) (gl_ok g h3).1 (g.bl "set" (by decide)) h4 (ck_ok a g .b S _ h5))
    · cases h
  | .slen a, c, X, g, m, S, x, h => by
    rw [ck] at h
    unfold aTwo at h
    split at h
    · simp only [Bool.and_eq_true, decide_eq_true_eq] at h
      obtain ⟨⟨⟨⟨⟨rfl, h1⟩, rfl⟩, h3⟩, h4⟩, h5⟩ := h
      exact fin_F rfl rfl (de_lenSet g.calm (gl_ok g h1).1 (g.bl "len" (by decide)) (gl_ok g h3).1 (g.bl "set" (by decide)) h4 (ck_ok a g .b S _ h5))
    · cases h
  | .lrg1 tp a, c, X, g, m, S, x, h => by
    rw [ck] at h
    unfold aTwo at h
    split at h
    · simp only [Bool.and_eq_true, decide_eq_true_eq] at h
      obtain ⟨⟨⟨⟨⟨rfl, h1⟩, rfl⟩, h3⟩, h4⟩, h5⟩ := h
      exact fin_F rfl rfl (lrg1_ok g (gl_ok g h1).1 (gl_ok g h3).1 h4 (ck_ok a g .b S _ h5))
    · cases h
  | .lrg2 tp a b, c, X, g, m, S, x, h => by
    rw [ck] at h
    unfold aTwo2 at h
    split at h
    · simp only [Bool.and_eq_true, decide_eq_true_eq] at h
      obtain ⟨⟨⟨⟨⟨⟨⟨rfl, h1⟩, rfl⟩, h3⟩, h4⟩, h4b⟩, h5⟩, h6⟩ := h
      exact fin_F rfl rfl (lrg2_ok g (gl_ok g h1).1 (gl_ok g h3).1 h4 h4b (ck_ok a g .b S _ h5) (ck_ok b g .b S _ h6))
    · cases h
  | .potr k, c, X, g, m, S, x, h => by
    rw [ck] at h
    unfold aPotr at h
    split at h
    · simp only [Bool.and_eq_true, decide_eq_true_eq] at h
      obtain ⟨rfl, h2⟩ := h
      unfold potB at h2
      split at h2
      · rename_i i hi
        have E : ev c.fns c.cs c.ps (.potr k) = dPotr k := by rw [ev]
        rw [E]
        refine fin_F rfl rfl ?_
        rw [hi]
        exact de_potr (nm_ok g h2)
      · cases h2
    · cases h
  | .lc src t vs cond elt, c, X, g, m, S, x, h => by
    rw [ck] at h
    unfold aLc at h
    split at h
    · rename_i e tg it ifs sc pos
      simp only [Bool.and_eq_true] at h
      obtain ⟨⟨⟨⟨⟨⟨⟨h1, h2⟩, h3⟩, h4⟩, h5⟩, h6⟩, h7⟩, h8⟩ := h
      have ok := blkOk_by h1
      have okX : BlkOk X.N X.env.scope sc (ownN c.N vs) := by rw [g.N, g.sc]; exact ok
      have nd : X.N.Nodup := by rw [g.N]; exact g.nd
      have om := ownN_map c.N vs
      have gb := fun s H C cl fp => g.blk' ok.kind s H C cl fp
      have hi : PI X tg it (TSr X.K c.ps S KC (evR c.fns c.cs c.ps src)) := ckR_ok src g false S tg it h5
      have hg : ∀ (s : Shared) (H : Hp) (C : Addr) (cl : List (Str × Addr)) (fp : List Addr), PG (X.blk s H sc (compEnvC sc cl C X.env) fp) tg (TGt X.K c.ps ((ownN c.N vs).map (·.2) ++ S) t) := fun s H C cl fp => tg_ok (gb s H C cl fp) t tg h6
      have ht : ∀ (s : Shared) (H : Hp) (C : Addr) (cl : List (Str × Addr)) (fp : List Addr), PTs (X.blk s H sc (compEnvC sc cl C X.env) fp) ifs (TT' X.K c.ps ((ownN c.N vs).map (·.2) ++ S) (ev c.fns c.cs c.ps cond)) := fun s H C cl fp => by
        rw [om]
        exact ifs_ok (c := c.in_ sc) (X := X.blk s H sc (compEnvC sc cl C X.env) fp) h7 fun q hq => ck_ok cond (gb s H C cl fp) .t (vs ++ S) q hq
      have he : ∀ (s : Shared) (H : Hp) (C : Addr) (cl : List (Str × Addr)) (fp : List Addr), PE (X.blk s H sc (compEnvC sc cl C X.env) fp) e (TD X.K c.ps ((ownN c.N vs).map (·.2) ++ S) (ev c.fns c.cs c.ps elt)) := fun s H C cl fp => by
        rw [om]
        exact TM.toD (ck_ok elt (gb s H C cl fp) .v (vs ++ S) _ h8).1
      have hp : ∀ i, c.ps = some i → i ∉ (ownN c.N vs).map (·.2) := by rw [om]; exact ps_free h3
      have hv : ∀ i ∈ t.slots, i ∈ (ownN c.N vs).map (·.2) := by rw [om]; exact sub_ok h4
      have V := de_lc g.calm nd hp hv hi okX hg ht he (noSet_ok h2 _) (pos := pos)
      have E : ev c.fns c.cs c.ps (.lc src t vs cond elt) = dLc c.ps (evR c.fns c.cs c.ps src) t ((ownN c.N vs).map (·.2)) (ev c.fns c.cs c.ps cond) (ev c.fns c.cs c.ps elt) := by rw [om]; rfl
      rw [E]
      cases m
      · exact pe_DB (pe_FD V)
      · refine ⟨V, fun elt' gs' sc' pos' ex i y py spos hy hyl hsw => ?_⟩
        exact ⟨_, ps_setLc g.calm nd hy hyl hsw hi okX hg ht he (noSet_ok h2 _), fun σ H Q => lc_ok hp hv⟩
      · exact dt_val rfl (pe_FD V)
    · cases h
  | .lc2 src t vs cond src1 t1 vs1 cond1 elt, c, X, g, m, S, x, h => by
    rw [ck] at h
    unfold aLc2 at h
    split at h
    · rename_i e tg it ifs tg1 it1 ifs1 sc pos
      simp only [Bool.and_eq_true] at h
      obtain ⟨⟨⟨⟨⟨⟨⟨⟨⟨⟨⟨⟨⟨h1, h2⟩, h2b⟩, h3⟩, h4⟩, h4b⟩, h4c⟩, h5⟩, h6⟩, h7⟩, h8⟩, h9⟩, h10⟩, h11⟩ := h
      have ok := blkOk_by h1
      have okX : BlkOk X.N X.env.scope sc (ownN c.N vs) := by rw [g.N, g.sc]; exact ok
      have nd : X.N.Nodup := by rw [g.N]; exact g.nd
      have om := ownN_map c.N vs
      have gb := fun s H C cl fp => g.blk' ok.kind s H C cl fp
      have hi : PI X tg it (TSr X.K c.ps S KC (evR c.fns c.cs c.ps src)) := ckR_ok src g false S tg it h5
      have hg : ∀ (s : Shared) (H : Hp) (C : Addr) (cl : List (Str × Addr)) (fp : List Addr), PG (X.blk s H sc (compEnvC sc cl C X.env) fp) tg (TGt X.K c.ps ((ownN c.N vs).map (·.2) ++ S) t) := fun s H C cl fp => tg_ok (gb s H C cl fp) t tg h6
      have ht : ∀ (s : Shared) (H : Hp) (C : Addr) (cl : List (Str × Addr)) (fp : List Addr), PTs (X.blk s H sc (compEnvC sc cl C X.env) fp) ifs (TT' X.K c.ps ((ownN c.N vs).map (·.2) ++ S) (ev c.fns c.cs c.ps cond)) := fun s H C cl fp => by
        rw [om]
        exact ifs_ok (c := c.in_ sc) (X := X.blk s H sc (compEnvC sc cl C X.env) fp) h7 fun q hq => ck_ok cond (gb s H C cl fp) .t (vs ++ S) q hq
      have hi1 : ∀ (s : Shared) (H : Hp) (C : Addr) (cl : List (Str × Addr)) (fp : List Addr), PI (X.blk s H sc (compEnvC sc cl C X.env) fp) tg1 it1 (TSr X.K c.ps ((ownN c.N vs).map (·.2) ++ S) KF (evR c.fns c.cs c.ps src1)) := fun s H C cl fp => by
        rw [om]
        exact ckR_ok src1 (gb s H C cl fp) true (vs ++ S) tg1 it1 h8
      have hg1 : ∀ (s : Shared) (H : Hp) (C : Addr) (cl : List (Str × Addr)) (fp : List Addr), PG (X.blk s H sc (compEnvC sc cl C X.env) fp) tg1 (TGt X.K c.ps (vs1 ++ ((ownN c.N vs).map (·.2) ++ S)) t1) := fun s H C cl fp => tg_ok (gb s H C cl fp) t1 tg1 h9
      have ht1 : ∀ (s : Shared) (H : Hp) (C : Addr) (cl : List (Str × Addr)) (fp : List Addr), PTs (X.blk s H sc (compEnvC sc cl C X.env) fp) ifs1 (TT' X.K c.ps (vs1 ++ ((ownN c.N vs).map (·.2) ++ S)) (ev c.fns c.cs c.ps cond1)) := fun s H C cl fp => by
        rw [om]
        exact ifs_ok (c := c.in_ sc) (X := X.blk s H sc (compEnvC sc cl C X.env) fp) h10 fun q hq => ck_ok cond1 (gb s H C cl fp) .t (vs1 ++ (vs ++ S)) q hq
      have he : ∀ (s : Shared) (H : Hp) (C : Addr) (cl : List (Str × Addr)) (fp : List Addr), PE (X.blk s H sc (compEnvC sc cl C X.env) fp) e (TD X.K c.ps (vs1 ++ ((ownN c.N vs).map (·.2) ++ S)) (ev c.fns c.cs c.ps elt)) := fun s H C cl fp => by
        rw [om]
        exact TM.toD (ck_ok elt (gb s H C cl fp) .v (vs1 ++ (vs ++ S)) _ h11).1
      have hp : ∀ i, c.ps = some i → i ∉ (ownN c.N vs).map (·.2) := by rw [om]; exact ps_free h3
      have hv : ∀ i ∈ t.slots, i ∈ (ownN c.N vs).map (·.2) := by rw [om]; exact sub_ok h4
      have hv1 : ∀ i ∈ t1.slots, i ∈ vs1 := sub_ok h4b
      have h1v : ∀ i ∈ vs1, i ∈ (ownN c.N vs).map (·.2) := by rw [om]; exact sub_ok h4c
      have V := de_lc2 g.calm nd hp hv hv1 h1v hi okX hg ht hi1 hg1 ht1 he (noSet_ok h2 _) (fun env => noSet_ok h2b env) (pos := pos)
      have E : ev c.fns c.cs c.ps (.lc2 src t vs cond src1 t1 vs1 cond1 elt) = dLc2 c.ps (evR c.fns c.cs c.ps src) t ((ownN c.N vs).map (·.2)) (ev c.fns c.cs c.ps cond) (evR c.fns c.cs c.ps src1) t1 vs1 (ev c.fns c.cs c.ps cond1) (ev c.fns c.cs c.ps elt) := by rw [om]; rfl
      rw [E]
      cases m
      · exact pe_DB (pe_FD V)
      · refine ⟨V, fun elt' gs' sc' pos' ex i y py spos hy hyl hsw => ?_⟩
        exact ⟨_, ps_setLc2 g.calm nd hy hyl hsw hi okX h1v hg ht hi1 hg1 ht1 he (noSet_ok h2 _) (fun env => noSet_ok h2b env), fun σ H Q => lc2_ok hp hv hv1 h1v⟩
      · exact dt_val rfl (pe_FD V)
    · cases h
theorem ckA_ok : ∀ (l : IA) {c : Cs} {X : Cx} (g : Good c X) (bo : Bool) (S : List Nat) (xs : List Expr), ckA l c bo S xs = true → JA X c bo S (evA c.fns c.cs c.ps l) xs
  | .nil, c, X, g, bo, S, xs, h => by
    rw [ckA] at h
    unfold aNil at h
    split at h
    · cases bo
      · exact da_nil
      · exact db_nil
    · cases h
  | .cons a l, c, X, g, bo, S, xs, h => by
    rw [ckA] at h
    unfold aCons at h
    split at h
    · simp only [Bool.and_eq_true] at h
      obtain ⟨⟨h1, h2⟩, h3⟩ := h
      have hl := ckA_ok l g bo S _ h3
      cases bo
      · exact da_cons h1 (TM.toD (ck_ok a g .v S _ h2).1) hl
      · exact db_cons h1 (ck_ok a g .b S _ h2) hl
    · cases h
  | .star a l, c, X, g, bo, S, xs, h => by
    rw [ckA] at h
    unfold aStar at h
    split at h
    · simp only [Bool.and_eq_true, Bool.not_eq_true'] at h
      obtain ⟨⟨rfl, h2⟩, h3⟩ := h
      exact da_star (ck_ok a g .b S _ h2) (ckA_ok l g false S _ h3)
    · cases h
theorem ckAnd_ok : ∀ (l : IA) {c : Cs} {X : Cx} (g : Good c X) (m : Md) (S : List Nat) (xs : List Expr), ckL l c m S xs = true →
    (m ≠ .t → ∀ pos, PE X (.BoolOp .And xs pos) (TD X.K c.ps S (evAnd c.fns c.cs c.ps l))) ∧ (m = .t → ∀ pos, PW X (.BoolOp .And xs pos) (TT' X.K c.ps S (evAnd c.fns c.cs c.ps l)))
  | .nil, c, X, g, m, S, xs, h => by
    rw [ckL] at h
    cases h
  | .cons a .nil, c, X, g, m, S, xs, h => by
    rw [ckL] at h
    unfold aOne at h
    split at h
    · refine ⟨fun hm pos => ?_, fun hm pos => ?_⟩
      · rw [if_neg hm] at h
        exact de_one (TM.toD (ck_ok a g .v S _ h).1)
      · rw [if_pos hm] at h
        exact pw_and1 (ck_ok a g .t S _ h)
    · cases h
  | .cons a (.cons b l), c, X, g, m, S, xs, h => by
    rw [ckL] at h
    unfold aMore at h
    split at h
    · simp only [Bool.and_eq_true] at h
      obtain ⟨h1, h2⟩ := ckAnd_ok (.cons b l) g m S _ h.2
      refine ⟨fun hm pos => ?_, fun hm pos => ?_⟩
      · have ha := h.1
        rw [if_neg hm] at ha
        exact de_and (ck_ok a g .b S _ ha) (h1 hm pos)
      · have ha := h.1
        rw [if_pos hm] at ha
        exact dw_and (ck_ok a g .t S _ ha) (h2 hm pos)
    · cases h
  | .cons a (.star b l), c, X, g, m, S, xs, h => by
    rw [ckL] at h
    cases h
  | .star _ _, c, X, g, m, S, xs, h => by
    rw [ckL] at h
    cases h
theorem ckOr_ok : ∀ (l : IA) {c : Cs} {X : Cx} (g : Good c X) (m : Md) (S : List Nat) (xs : List Expr), ckL l c m S xs = true →
    (m ≠ .t → ∀ pos, PE X (.BoolOp .Or xs pos) (TD X.K c.ps S (evOr c.fns c.cs c.ps l))) ∧ (m = .t → ∀ pos, PW X (.BoolOp .Or xs pos) (TT' X.K c.ps S (evOr c.fns c.cs c.ps l)))
  | .nil, c, X, g, m, S, xs, h => by
    rw [ckL] at h
    cases h
  | .cons a .nil, c, X, g, m, S, xs, h => by
    rw [ckL] at h
    unfold aOne at h
    split at h
    · refine ⟨fun hm pos => ?_, fun hm pos => ?_⟩
      · rw [if_neg hm] at h
        exact de_one (TM.toD (ck_ok a g .v S _ h).1)
      · rw [if_pos hm] at h
        exact pw_or1 (ck_ok a g .t S _ h)
    · cases h
  | .cons a (.cons b l), c, X, g, m, S, xs, h => by
    rw [ckL] at h
    unfold aMore at h
    split at h
    · simp only [Bool.and_eq_true] at h
      obtain ⟨h1, h2⟩ := ckOr_ok (.cons b l) g m S _ h.2
      refine ⟨fun hm pos => ?_, fun hm pos => ?_⟩
      · have ha := h.1
        rw [if_neg hm] at ha
        exact de_or (ck_ok a g .b S _ ha) (h1 hm pos)
      · have ha := h.1
        rw [if_pos hm] at ha
        exact dw_or (ck_ok a g .t S _ ha) (h2 hm pos)
    · cases h
  | .cons a (.star b l), c, X, g, m, S, xs, h => by
    rw [ckL] at h
    cases h
  | .star _ _, c, X, g, m, S, xs, h => by
    rw [ckL] at h
    cases h
theorem ckO_ok : ∀ (o : IO) {c : Cs} {X : Cx} (g : Good c X) (S : List Nat) (x : Option Expr), ckO o c S x = true → PO X x (TOs X.K c.ps S (evO c.fns c.cs c.ps o))
  | .no, c, X, g, S, x, h => by
    rw [ckO] at h
    cases x with
    | none => exact do_no
    | some => cases h
  | .yes a, c, X, g, S, x, h => by
    rw [ckO] at h
    cases x with
    | none => cases h
    | some x => exact do_some (ck_ok a g .b S x h)
theorem ckR_ok : ∀ (r : IR) {c : Cs} {X : Cx} (g : Good c X) (kf : Bool) (S : List Nat) (tg x : Expr), ckR r c kf S tg x = true → PI X tg x (TSr X.K c.ps S (if kf = true then KF else KC) (evR c.fns c.cs c.ps r))
  | .seq a, c, X, g, kf, S, tg, x, h => by
    rw [ckR] at h
    cases kf
    · exact ds_seq kc_ok kc_self (sn_C (ck_ok a g .b S _ h))
    · exact ds_seq kf_ok kf_self (sn_F (TM.toD (ck_ok a g .v S _ h).1))
  | .enum a, c, X, g, kf, S, tg, x, h => by
    rw [ckR] at h
    unfold rEnum at h
    split at h
    · simp only [Bool.and_eq_true, decide_eq_true_eq] at h
      obtain ⟨⟨⟨rfl, h1⟩, h2⟩, h3⟩ := h
      cases kf
      · exact ds_enum kc_ok kc_self (gl_ok g h1).1 (g.bl "enumerate" (by decide)) h2 (sn_C (ck_ok a g .b S _ h3))
      · exact ds_enum kf_ok kf_self (gl_ok g h1).1 (g.bl "enumerate" (by decide)) h2 (sn_F (TM.toD (ck_ok a g .v S _ h3).1))
    · cases h
  | .zip2 a b, c, X, g, kf, S, tg, x, h => by
    rw [ckR] at h
    unfold rZip at h
    split at h
    · simp only [Bool.and_eq_true, decide_eq_true_eq] at h
      obtain ⟨⟨⟨⟨⟨rfl, h1⟩, h2⟩, h2b⟩, h3⟩, h4⟩ := h
      cases kf
      · exact ds_zip2 kc_ok kc_self (gl_ok g h1).1 (g.bl "zip" (by decide)) h2 h2b (sn_C (ck_ok a g .b S _ h3)) (sn_C (ck_ok b g .b S _ h4))
      · exact ds_zip2 kf_ok kf_self (gl_ok g h1).1 (g.bl "zip" (by decide)) h2 h2b (sn_F (TM.toD (ck_ok a g .v S _ h3).1)) (sn_F (TM.toD (ck_ok b g .v S _ h4).1))
    · cases h
  | .rng1 a, c, X, g, kf, S, tg, x, h => by
    rw [ckR] at h
    unfold rR1 at h
    dsimp only at h
    split at h
    · simp only [Bool.and_eq_true, decide_eq_true_eq] at h
      obtain ⟨⟨⟨rfl, h1⟩, h2⟩, h3⟩ := h
      cases kf
      · exact ds_rng1 kc_ok (gl_ok g h1).1 (g.bl "range" (by decide)) h2 (ck_ok a g .b S _ h3)
      · exact ds_rng1 kf_ok (gl_ok g h1).1 (g.bl "range" (by decide)) h2 (ck_ok a g .b S _ h3)
    · cases h
  | .rng2 a b, c, X, g, kf, S, tg, x, h => by
    rw [ckR] at h
    unfold rR2 at h
    dsimp only at h
    split at h
    · simp only [Bool.and_eq_true, decide_eq_true_eq] at h
      obtain ⟨⟨⟨⟨⟨rfl, h1⟩, h2⟩, h2b⟩, h3⟩, h4⟩ := h
      cases kf
      · exact ds_rng2 kc_ok (gl_ok g h1).1 (g.bl "range" (by decide)) h2 h2b (ck_ok a g .b S _ h3) (ck_ok b g .b S _ h4)
      · exact ds_rng2 kf_ok (gl_ok g h1).1 (g.bl "range" (by decide)) h2 h2b (ck_ok a g .b S _ h3) (ck_ok b g .b S _ h4)
    · cases h
  | .rng3 a b d, c, X, g, kf, S, tg, x, h => by
    rw [ckR] at h
    unfold rR3 at h
    dsimp only at h
    split at h
    · simp only [Bool.and_eq_true, decide_eq_true_eq] at h
      obtain ⟨⟨⟨⟨⟨⟨⟨rfl, h1⟩, h2⟩, h2b⟩, h2c⟩, h3⟩, h4⟩, h5⟩ := h
      cases kf
      · exact ds_rng3 kc_ok (gl_ok g h1).1 (g.bl "range" (by decide)) h2 h2b h2c (ck_ok a g .b S _ h3) (ck_ok b g .b S _ h4) (ck_ok d g .b S _ h5)
      · exact ds_rng3 kf_ok (gl_ok g h1).1 (g.bl "range" (by decide)) h2 h2b h2c (ck_ok a g .b S _ h3) (ck_ok b g .b S _ h4) (ck_ok d g .b S _ h5)
    · cases h
end
end Ev

/-! Ev, part S: statements, held against the text. -/
namespace Ev
open PySem L2
def isComp : Expr → Bool
  | .ListComp .. | .SetComp .. | .DictComp .. => true
  | _ => false
theorem sw_none {x : Expr} {tg : Option Expr} {l : Nat} {env : Env} (h : isComp x = false) : swapsWith x tg l env = pure false := by
  cases x <;> first | rfl | cases h
def notNm : Expr → Bool
  | .Name .. => false
  | _ => true
theorem sw_tg {x tg : Expr} {l : Nat} {env : Env} (h : notNm tg = true) : swapsWith x (some tg) l env = pure false := by
  cases x <;> first | rfl | (cases tg <;> first | rfl | cases h)
theorem sw_sole {x tg : Expr} {l : Nat} {env : Env} (h : notNm tg = true) : swapsWithSole [tg] x l env = pure false := sw_tg h
def swB (sc : Scope) (n : Str) (py : Pos) : Expr → Bool
  | .ListComp _ _ s p => decide (sc.names.lookup n = some .local) && (py.line == p.line) && !(s.names.any fun (m, k) => m == n && (k == .local || k == .cell))
  | _ => false
theorem sw_name {x : Expr} {n : Str} {py : Pos} {l : Nat} {env : Env} (hk : env.scope.kind = .function) (h : isComp x = isLC x) : swapsWith x (some (.Name n py)) l env = pure (swB env.scope n py x) := by
  have hb : env.blockKind = .function := by unfold Env.blockKind; rw [hk]; rfl
  cases x with
  | ListComp elt gs s p =>
    unfold swapsWith
    simp only [hb, swB]
    show pure _ = pure _
    congr 1
    simp only [beq_self_eq_true, Bool.true_and]
    congr 1
    show (env.scope.names.lookup n == some .local && _) = _
    cases env.scope.names.lookup n with
    | none => rfl
    | some k => cases k <;> rfl
  | SetComp => cases h
  | DictComp => cases h
  | _ => rfl
def tgTup : Expr → Bool
  | .Tuple .. | .List .. => true
  | _ => false
theorem sws_val {tg x : Expr} {env : Env} (h : tgTup x = false) : swappedStores [tg] x env = pure none := by
  cases x <;> first | (cases tg <;> rfl) | cases h
theorem sws_tg {tg x : Expr} {env : Env} (h : tgTup tg = false) : swappedStores [tg] x env = pure none := by
  cases tg <;> first | (cases x <;> rfl) | cases h
def sw2B (sc : Scope) (x y : Str) (px py : Pos) (a b : Expr) : Bool := decide (sc.names.lookup x = some .local) && decide (sc.names.lookup y = some .local) && (py.line == px.line) && !(x == y) && !([a, b].all (foldedForSure 8))
theorem sws_two {x y : Str} {px py pt p2 : Pos} {kt k2 : Nat} {a b : Expr} {env : Env} (hk : env.scope.kind = .function) (ha : notStar a = true) (hb : notStar b = true) (h : sw2B env.scope x y px py a b = true) (hc : ([a, b].all (constantsAlone 8)) = false) :
    swappedStores [.Tuple [.Name x px, .Name y py] kt pt] (.Tuple [a, b] k2 p2) env = pure (some [x, y]) := by
  have hbk : env.blockKind = .function := by unfold Env.blockKind; rw [hk]; rfl
  unfold sw2B at h
  simp only [Bool.and_eq_true, decide_eq_true_eq, Bool.not_eq_true', beq_iff_eq] at h
  obtain ⟨⟨⟨⟨h1, h2⟩, h3⟩, h4⟩, h5⟩ := h
  have k1 : env.kindOf x = some .local := h1
  have k2' : env.kindOf y = some .local := h2
  unfold swappedStores
  simp only [hbk, k1, k2', List.length_cons, List.length_nil, List.head?_cons, Option.map_some, Option.getD_some, List.filterMap_cons, List.filterMap_nil, beq_self_eq_true, Bool.and_true, if_true, h3, Expr.pos, h5, hc]
  have h4' : (y == x) = false := by
    cases q : y == x with
    | false => rfl
    | true => rw [eq_of_beq q, beq_self_eq_true] at h4; cases h4
  have e2 : [x, y].eraseDups.length = 2 := by
    rw [List.eraseDups_cons, List.filter_cons, h4']
    rfl
  rw [if_neg (by decide), if_neg, if_neg, if_neg Bool.false_ne_true, if_neg Bool.false_ne_true]
  · rw [e2]; decide
  · cases a <;> cases b <;> first | exact absurd ha Bool.false_ne_true | exact absurd hb Bool.false_ne_true | exact Bool.false_ne_true
theorem sws_two_no {x y : Str} {px py pt p2 : Pos} {kt k2 : Nat} {a b : Expr} {env : Env} (hk : env.scope.kind = .function) (ha : notStar a = true) (hb : notStar b = true) (h : sw2B env.scope x y px py a b = false) :
    swappedStores [.Tuple [.Name x px, .Name y py] kt pt] (.Tuple [a, b] k2 p2) env = pure none := by
  have hbk : env.blockKind = .function := by unfold Env.blockKind; rw [hk]; rfl
  have h4' : (y == x) = (x == y) := by
    cases q : y == x with
    | true => rw [eq_of_beq q, beq_self_eq_true]
    | false =>
      cases q2 : x == y with
      | false => rfl
      | true => rw [eq_of_beq q2, beq_self_eq_true] at q; cases q
  have e2 : [x, y].eraseDups.length = if (x == y) = true then 1 else 2 := by
    rw [List.eraseDups_cons, List.filter_cons, h4']
    cases x == y <;> rfl
  have eS : ∀ (n : Str), (env.kindOf n == some NameKind.local) = decide (env.scope.names.lookup n = some .local) := fun n => by
    show (env.scope.names.lookup n == some .local) = _
    cases env.scope.names.lookup n with
    | none => rfl
    | some k => cases k <;> rfl
  unfold sw2B at h
  unfold swappedStores
  simp only [hbk, eS, List.length_cons, List.length_nil, List.head?_cons, Option.map_some, Option.getD_some, List.filterMap_cons, List.filterMap_nil, beq_self_eq_true, Bool.and_true, Expr.pos]
  rw [if_neg (by decide), if_neg]
  · cases d1 : decide (env.scope.names.lookup x = some .local) with
    | false => cases d2 : (decide (env.scope.names.lookup y = some .local) && py.line == px.line) <;> rfl
    | true =>
      cases d2 : (decide (env.scope.names.lookup y = some .local) && py.line == px.line) with
      | false => rfl
      | true =>
        simp only [if_true, List.length_cons, List.length_nil]
        rw [e2]
        cases d3 : x == y with
        | true => rfl
        | false =>
          rw [d1, Bool.true_and, d2, d3] at h
          have h5 : [a, b].all (foldedForSure 8) = true := by simpa using h
          simp only [h5]
          rfl
  · cases a <;> cases b <;> first | exact absurd ha Bool.false_ne_true | exact absurd hb Bool.false_ne_true | exact Bool.false_ne_true

theorem sws_sub2 {o k o2 k2 a b : Expr} {p p2 pt pp : Pos} {kt k0 : Nat} {env : Env} : swappedStores [.Tuple [.Subscript o k p, .Subscript o2 k2 p2] kt pt] (.Tuple [a, b] k0 pp) env = pure none := by
  unfold swappedStores
  simp only [List.filterMap_cons, List.filterMap_nil, List.length_cons, List.length_nil]
  split
  · rfl
  · split
    · rfl
    · rfl
/-! ### the shapes -/
abbrev Fs := Stmt → Bool
abbrev Fl := List Stmt → Bool
def nstB (c : Cs) (i : Nat) (n : Str) : Bool := decide (c.N[i]? = some n) && stB c n
def cPass : Fs | .Pass _ => true | _ => false
def cDoc : Fs | .Expr (.Constant (.str _) _ _) _ => true | _ => false
def cBrk : Fs | .Break _ => true | _ => false
def cCont : Fs | .Continue _ => true | _ => false
def cRetN : Fs | .Return none _ => true | _ => false
def cExpr (fa : Fe) : Fs
  | .Expr x _ => !isComp x && fa x
  | _ => false
def cRet (b : Bool) (fa : Fe) : Fs
  | .Return (some x) _ => b && fa x
  | _ => false
def cRetO (c : Cs) (b : Bool) (i : Nat) : Fs
  | .Return (some (.Name n _)) _ => b && nmB c i n
  | _ => false
def cAsg (c : Cs) (i : Nat) (b : Bool) (fa : Fe) : Fs
  | .Assign [.Name n _] x _ => nstB c i n && (isComp x == isLC x) && b && fa x
  | _ => false
def cPar (c : Cs) (i j : Nat) (b : Bool) (fa fb : Fe) : Fs
  | .Assign [.Tuple [.Name x px, .Name y py] _ _] (.Tuple [a, d] _ _) _ => nstB c i x && nstB c j y && !decide (i = j) && notStar a && notStar d && b && (!sw2B c.sc x y px py a d || !([a, d].all (constantsAlone 8))) && fa a && fb d
  | _ => false
def cBind (c : Cs) (t : Tg) (fa : Fe) : Fs
  | .Assign [tg] x _ => tgTup tg && !tgTup x && tgB c t tg && fa x
  | _ => false
def cAug (c : Cs) (o : Operator) (i : Nat) (fa : Fe) : Fs
  | .AugAssign (.Name n _) o' x _ => decide (o = o') && (match o with | .Add => true | .Sub => true | _ => false) && nstB c i n && fa x
  | _ => false
def cMeth (c : Cs) (i : Nat) (m : String) (fa : Fe) : Fs
  | .Expr (.Call (.Attribute (.Name n _) m' p) [x] [] q) _ => decide (m' = Str.ofString m) && nmB c i n && (p.endLine == q.line) && notStar x && fa x
  | _ => false
def cPop (c : Cs) (j i : Nat) : Fs
  | .Assign [.Name y _] (.Call (.Attribute (.Name n _) m' p) [] [] q) _ => decide (m' = Str.ofString "pop") && nstB c j y && nmB c i n && (p.endLine == q.line)
  | _ => false
def cPopX (c : Cs) (i : Nat) : Fs
  | .Expr (.Call (.Attribute (.Name n _) m' p) [] [] q) _ => decide (m' = Str.ofString "pop") && nmB c i n && (p.endLine == q.line)
  | _ => false
def cPopAt (c : Cs) (j i : Nat) (fa : Fe) : Fs
  | .Assign [.Name y _] (.Call (.Attribute (.Name n _) m' p) [x] [] q) _ => decide (m' = Str.ofString "pop") && nstB c j y && nmB c i n && (p.endLine == q.line) && notStar x && fa x
  | _ => false
def cSet (c : Cs) (i : Nat) (fk fa : Fe) : Fs
  | .Assign [.Subscript (.Name n _) k _] x _ => nmB c i n && plainIx k && fk k && fa x
  | _ => false
def cSwp (c : Cs) (i : Nat) (fk1 fk2 fa fb : Fe) : Fs
  | .Assign [.Tuple [.Subscript (.Name n _) k1 _, .Subscript (.Name m _) k2 _] _ _] (.Tuple [a, b] _ _) _ => nmB c i n && decide (m = n) && plainIx k1 && plainIx k2 && notStar a && notStar b && fk1 k1 && fk2 k2 && fa a && fb b
  | _ => false
def cIf (fc : Fe) (ff fg : Fl) : Fs
  | .If x a b _ => fc x && ff a && fg b
  | _ => false
def cFor (c : Cs) (t : Tg) (fr : Fr) (fb : Fl) : Fs
  | .For tg it b [] _ => noSet it && tgB c t tg && fr tg it && fb b
  | _ => false
def cWh (fc : Fe) (fb : Fl) : Fs
  | .While x b [] _ => fc x && fb b
  | _ => false
def cPotw (c : Cs) (k : Nat) (fa : Fe) : Fs
  | .Assign [.Subscript (.Name p _) (.Constant (.int j) _ _) _] x _ => decide (j = (k : Int)) && potB c p && fa x
  | _ => false
def psNo : Option Nat → Bool
  | none => true
  | some _ => false
def cForP (c : Cs) (t : Tg) (i : Nat) (bm : Bool) (fr : Fr) (fa : Fe) (fb : Fl) : Fs
  | .For tg it (.Assign [.Name n _] x _ :: r) [] _ => noSet it && tgB c t tg && psNo c.ps && nstB c i n && (isComp x == isLC x) && bm && fr tg it && fa x && fb r
  | _ => false
def cNil : Fl | [] => true | _ => false
def cCons (f : Fs) (g : Fl) : Fl
  | s :: r => f s && g r
  | [] => false
def Cs.pt (c : Cs) (i : Nat) : Cs := { c with ps := some i }
mutual
def cs' (c : Cs) (fr : Bool) : IS → Fs
  | .pass => cPass
  | .doc => cDoc
  | .brk => cBrk
  | .cont => cCont
  | .never => fun _ => true
  | .retN => cRetN
  | .expr S a => cExpr (ck a c .b S)
  | .ret S a => cRet (!fr || md c.fns a) (ck a c .v S)
  | .retO i => cRetO c fr i
  | .asg S i a => cAsg c i true (ck a c .v S)
  | .asgO S i a => cAsg c i (md c.fns a) (ck a c .v S)
  | .par S i j b1 b2 a b => cPar c i j ((!b1 || md c.fns a) && (!b2 || md c.fns b)) (ck a c .v S) (ck b c .v S)
  | .bind S t a => cBind c t (ck a c .v S)
  | .aug S o i a => cAug c o i (ck a c .b S)
  | .app S i a => cMeth c i "append" (ck a c .v S)
  | .ext S i a => cMeth c i "extend" (ck a c .b S)
  | .pop j i => cPop c j i
  | .popX i => cPopX c i
  | .popAt S j i a => cPopAt c j i (ck a c .b S)
  | .popAtX S i a => cMeth c i "pop" (ck a c .b S)
  | .set S i k a => cSet c i (ck k c .b S) (ck a c .v S)
  | .swp S i k1 k2 a b => cSwp c i (ck k1 c .b S) (ck k2 c .b S) (ck a c .v S) (ck b c .v S)
  | .sif S d f g => cIf (ck d c .t S) (cl c fr f) (cl c fr g)
  | .sfor S src t b => cFor c t (ckR src c true S) (cl c fr b)
  | .swh _ S d b => cWh (ck d c .t S) (cl c fr b)
  | .fz _ s => cs' c fr s
  | .potw k S a => cPotw c k (ck a c .v S)
  | .sforP S src t S1 i a b => cForP c t i (md c.fns a) (ckR src c true S) (ck a c .v S1) (cl (c.pt i) fr b)
def cl (c : Cs) (fr : Bool) : List IS → Fl
  | [] => cNil
  | s :: r => cCons (cs' c fr s) (cl c fr r)
end
theorem TM.toM {b b' : Bool} {K : PySem.W.Frag} {ps : Option Nat} {S : List Nat} {f : Dn} {X : Cx} {x : Expr} (h : PE X x (TM b K ps S f)) (q : (!b' || b) = true) : PE X x (TM b' K ps S f) := by
  cases b'
  · exact TM.toD h
  · cases b
    · cases q
    · exact h
section
variable {c : Cs} {X : Cx} {ps : Option Nat}
theorem Good.pt (g : Good c X) (i : Nat) : Good (c.pt i) X := ⟨g.N, g.nd, g.sc, g.kd, g.fn, g.calm, g.gd, g.un, g.fns, g.cs, g.bl⟩
theorem nst_ok (g : Good c X) {i : Nat} {n : Str} (h : nstB c i n = true) : X.N[i]? = some n ∧ Loc X.env.scope n ∧ (X.fn n = true ∨ X.env.scope.names.lookup n = some .local) := by
  unfold nstB at h
  simp only [Bool.and_eq_true, decide_eq_true_eq] at h
  obtain ⟨h1, h2⟩ := h
  refine ⟨by rw [g.N]; exact h1, ?_, ?_⟩
  · unfold stB at h2
    rw [g.sc]
    split at h2
    · exact .inl (by assumption)
    · exact .inr (by assumption)
    · cases h2
  · unfold stB at h2
    rw [g.sc]
    split at h2
    · exact .inr (by assumption)
    · refine .inl ?_
      rw [g.fn]
      split at h2
      · rename_i e; rw [e]
      · rename_i e; rw [e]; exact h2
    · cases h2
/-- a name stored: by the plain rule, or the comprehension's own -/
theorem asg_any (g : Good c X) {i : Nat} {n : Str} {py pos : Pos} {x : Expr} {S : List Nat} {f : Dn} {b b' : Bool} (h : nstB c i n = true) (hc : (isComp x == isLC x) = true) (he : PE X x (TM b X.K ps S f)) (hb : (!b' || b) = true) (sw : Sw X ps S x f) :
    ∃ te, PS X (.Assign [.Name n py] x pos) (tAsg te (gName i)) ∧ ∀ σ H Q, TM b' X.K ps S f σ H Q → te σ H Q := by
  obtain ⟨h1, h2, h3⟩ := nst_ok g h
  have nd : X.N.Nodup := by rw [g.N]; exact g.nd
  have e := sw_name (x := x) (n := n) (py := py) (l := pos.line) (env := X.env) g.kd (eq_of_beq hc)
  cases q : swB X.env.scope n py x with
  | false =>
    rw [q] at e
    exact ⟨_, ps_set nd h1 h2 (TM.toM he hb) e h3, fun σ H Q z => z⟩
  | true =>
    rw [q] at e
    cases x with
    | ListComp elt gs sc p =>
      have hl : X.env.scope.names.lookup n = some .local := by
        unfold swB at q
        simp only [Bool.and_eq_true, decide_eq_true_eq] at q
        exact q.1.1
      obtain ⟨te, t1, t2⟩ := sw elt gs sc p rfl i n py pos h1 hl e
      refine ⟨te, t1, fun σ H Q z => ?_⟩
      cases b'
      · exact t2 σ H Q (TF.d z)
      · exact t2 σ H Q z
    | _ => cases q
theorem asg_sub {o k : Expr} {p : Pos} {env : Env} {v : Value} (h : plainIx k = true) : assign (.Subscript o k p) env v = (do
    let ov ← holding [v] (eval o env)
    let iv ← holding [v, ov] (eval k env)
    standAt p
    holding [v, ov, iv] (setItem ov iv v)
    release [v, ov, iv] []) := by
  cases k with
  | Slice => cases h
  | _ => rfl
theorem base_nm {n m : Str} {p : Pos} {env : Env} {w : Sem Value} : attributeBase (.Name n p) m env w = w := rfl
mutual
theorem cs_ok {c : Cs} (g : Good c X) (hp : PassesOwn (model X.prog X.w) X.A X.env X.xe) (fr : Bool) : ∀ (s : IS) (st : Stmt), cs' c fr s st = true → PS X st (TSt X.K c.ps fr (evS' c.fns c.cs c.ps s))
  | .pass, st, h => by
    rw [cs'] at h
    unfold cPass at h
    split at h
    · exact st_pass
    · cases h
  | .doc, st, h => by
    rw [cs'] at h
    unfold cDoc at h
    split at h
    · exact st_doc
    · cases h
  | .brk, st, h => by
    rw [cs'] at h
    unfold cBrk at h
    split at h
    · exact st_break
    · cases h
  | .cont, st, h => by
    rw [cs'] at h
    unfold cCont at h
    split at h
    · exact st_continue
    · cases h
  | .never, st, h => st_never
  | .retN, st, h => by
    rw [cs'] at h
    unfold cRetN at h
    split at h
    · exact st_retN
    · cases h
  | .expr S a, st, h => by
    rw [cs'] at h
    unfold cExpr at h
    split at h
    · simp only [Bool.and_eq_true, Bool.not_eq_true'] at h
      exact st_expr (ck_ok a g .b S _ h.2) (sw_none h.1)
    · cases h
  | .ret S a, st, h => by
    rw [cs'] at h
    unfold cRet at h
    split at h
    · simp only [Bool.and_eq_true] at h
      have he := TM.toM (ck_ok a g .v S _ h.2).1 h.1
      cases fr
      · exact st_ret he
      · exact st_retF he
    · cases h
  | .retO i, st, h => by
    rw [cs'] at h
    unfold cRetO at h
    split at h
    · simp only [Bool.and_eq_true] at h
      obtain ⟨rfl, h2⟩ := h
      exact st_retO (nm_ok g h2)
    · cases h
  | .asg S i a, st, h => by
    rw [cs'] at h
    unfold cAsg at h
    split at h
    · simp only [Bool.and_eq_true] at h
      obtain ⟨he, sw⟩ := ck_ok a g .v S _ h.2
      obtain ⟨te, t1, t2⟩ := asg_any (b' := false) g h.1.1.1 h.1.1.2 he rfl sw
      exact st_asg t1 t2
    · cases h
  | .asgO S i a, st, h => by
    rw [cs'] at h
    unfold cAsg at h
    split at h
    · simp only [Bool.and_eq_true] at h
      obtain ⟨he, sw⟩ := ck_ok a g .v S _ h.2
      obtain ⟨te, t1, t2⟩ := asg_any (b' := true) g h.1.1.1 h.1.1.2 he (by rw [h.1.2]; rfl) sw
      exact st_asgO t1 t2
    · cases h
  | .par S i j b1 b2 a b, st, h => by
    rw [cs'] at h
    unfold cPar at h
    split at h
    · rename_i x px y py kt pt e1 e2 k2 p2 pos
      simp only [Bool.and_eq_true, Bool.not_eq_true', decide_eq_false_iff_not] at h
      obtain ⟨⟨⟨⟨⟨⟨⟨⟨h1, h2⟩, h3⟩, h4⟩, h5⟩, h6, h7⟩, h8⟩, h9⟩, h10⟩ := h
      obtain ⟨a1, a2, a3⟩ := nst_ok g h1
      obtain ⟨b1', b2', b3⟩ := nst_ok g h2
      have nd : X.N.Nodup := by rw [g.N]; exact g.nd
      have ha := TM.toM (ck_ok a g .v S _ h9).1 h6
      have hb := TM.toM (ck_ok b g .v S _ h10).1 h7
      have hA := da_two h4 h5 ha hb
      cases hs : sw2B X.env.scope x y px py e1 e2 with
      | true =>
        have hc : ([e1, e2].all (constantsAlone 8)) = false := by
          rw [← g.sc, hs] at h8
          cases hh : [e1, e2].all (constantsAlone 8) with
          | false => rfl
          | true => rw [hh] at h8; cases h8
        have q := hs
        unfold sw2B at q
        simp only [Bool.and_eq_true, decide_eq_true_eq] at q
        exact st_par (ps_par g.calm nd a1 b1' h3 q.1.1.1.1 q.1.1.1.2 hA (sws_two g.kd h4 h5 hs hc) (sw_sole rfl))
      | false =>
        exact st_parT (by rw [sizeLine_eq]; omega) hA (pg_tup g.calm (pgs_cons (pg_name nd a1 a2 a3) (pgs_cons (pg_name nd b1' b2' b3) pgs_nil))) (sw_sole rfl) (sws_two_no g.kd h4 h5 hs) rfl
    · cases h
  | .bind S t a, st, h => by
    rw [cs'] at h
    unfold cBind at h
    split at h
    · rename_i tg x pos
      simp only [Bool.and_eq_true, Bool.not_eq_true'] at h
      have h1 : notNm tg = true := by
        cases tg <;> first | rfl | (have := h.1.1.1; cases this)
      exact st_bind (TM.toD (ck_ok a g .v S _ h.2).1) (sg_ok g t _ h.1.2) (sw_sole h1) (sws_val h.1.1.2) (by cases tg <;> first | rfl | (have := h.1.1.1; cases this))
    · cases h
  | .aug S o i a, st, h => by
    rw [cs'] at h
    unfold cAug at h
    split at h
    · simp only [Bool.and_eq_true, decide_eq_true_eq] at h
      obtain ⟨⟨⟨rfl, h1⟩, h2⟩, h3⟩ := h
      obtain ⟨a1, a2, a3⟩ := nst_ok g h2
      have nd : X.N.Nodup := by rw [g.N]; exact g.nd
      have he := ck_ok a g .b S _ h3
      cases o with
      | Add => exact st_aug (f := fun i j => i + j) (ps_aug nd a1 a2 he ip_add a3) (fun x y z e => by cases e; rfl) fun σ H Q z => z
      | Sub => exact st_aug (f := fun i j => i - j) (ps_aug nd a1 a2 he ip_sub a3) (fun x y z e => by cases e; rfl) fun σ H Q z => z
      | _ => cases h1
    · cases h
  | .app S i a, st, h => by
    rw [cs'] at h
    unfold cMeth at h
    split at h
    · simp only [Bool.and_eq_true, decide_eq_true_eq] at h
      obtain ⟨⟨⟨⟨rfl, h1⟩, h2⟩, h3⟩, h4⟩ := h
      exact st_app (nm_ok g h1) h3 (TM.toD (ck_ok a g .v S _ h4).1) base_nm h2 (sw_none rfl)
    · cases h
  | .ext S i a, st, h => by
    rw [cs'] at h
    unfold cMeth at h
    split at h
    · simp only [Bool.and_eq_true, decide_eq_true_eq] at h
      obtain ⟨⟨⟨⟨rfl, h1⟩, h2⟩, h3⟩, h4⟩ := h
      exact st_ext (nm_ok g h1) h3 (ck_ok a g .b S _ h4) base_nm h2 (sw_none rfl)
    · cases h
  | .pop j i, st, h => by
    rw [cs'] at h
    unfold cPop at h
    split at h
    · simp only [Bool.and_eq_true, decide_eq_true_eq] at h
      obtain ⟨⟨⟨rfl, h1⟩, h2⟩, h3⟩ := h
      obtain ⟨a1, a2, a3⟩ := nst_ok g h1
      have nd : X.N.Nodup := by rw [g.N]; exact g.nd
      exact st_pop (nm_ok g h2) base_nm h3 fun te hte => ps_set nd a1 a2 hte (sw_none rfl) a3
    · cases h
  | .popX i, st, h => by
    rw [cs'] at h
    unfold cPopX at h
    split at h
    · simp only [Bool.and_eq_true, decide_eq_true_eq] at h
      obtain ⟨⟨rfl, h2⟩, h3⟩ := h
      exact st_popX (nm_ok g h2) base_nm h3 (sw_none rfl)
    · cases h
  | .popAt S j i a, st, h => by
    rw [cs'] at h
    unfold cPopAt at h
    split at h
    · simp only [Bool.and_eq_true, decide_eq_true_eq] at h
      obtain ⟨⟨⟨⟨⟨rfl, h1⟩, h2⟩, h3⟩, h4⟩, h5⟩ := h
      obtain ⟨a1, a2, a3⟩ := nst_ok g h1
      have nd : X.N.Nodup := by rw [g.N]; exact g.nd
      exact st_popAt (nm_ok g h2) h4 (ck_ok a g .b S _ h5) base_nm h3 fun te hte => ps_set nd a1 a2 hte (sw_none rfl) a3
    · cases h
  | .popAtX S i a, st, h => by
    rw [cs'] at h
    unfold cMeth at h
    split at h
    · simp only [Bool.and_eq_true, decide_eq_true_eq] at h
      obtain ⟨⟨⟨⟨rfl, h1⟩, h2⟩, h3⟩, h4⟩ := h
      exact st_popAtX (nm_ok g h1) h3 (ck_ok a g .b S _ h4) base_nm h2 (sw_none rfl)
    · cases h
  | .set S i k a, st, h => by
    rw [cs'] at h
    unfold cSet at h
    split at h
    · simp only [Bool.and_eq_true] at h
      exact st_set (nm_ok g h.1.1.1) (ck_ok k g .b S _ h.1.2) (TM.toD (ck_ok a g .v S _ h.2).1) (fun v => asg_sub h.1.1.2) (sw_sole rfl) (sws_tg rfl) rfl
    · cases h
  | .swp S i k1 k2 a b, st, h => by
    rw [cs'] at h
    unfold cSwp at h
    split at h
    · simp only [Bool.and_eq_true, decide_eq_true_eq] at h
      obtain ⟨⟨⟨⟨⟨⟨⟨⟨⟨h1, rfl⟩, h2⟩, h3⟩, h4⟩, h5⟩, h6⟩, h7⟩, h8⟩, h9⟩ := h
      have ha : PE X _ (TM false X.K c.ps S (ev c.fns c.cs c.ps a)) := TM.toM (ck_ok a g .v S _ h8).1 rfl
      have hb : PE X _ (TM false X.K c.ps S (ev c.fns c.cs c.ps b)) := TM.toM (ck_ok b g .v S _ h9).1 rfl
      exact st_swp (by rw [sizeLine_eq]; omega) g.calm (nm_ok g h1) (nm_ok g h1) (ck_ok k1 g .b S _ h6) (ck_ok k2 g .b S _ h7) (da_two h4 h5 ha hb) (fun v => asg_sub h2) (fun v => asg_sub h3) (sw_sole rfl) sws_sub2
    · cases h
  | .sif S d f e, st, h => by
    rw [cs'] at h
    unfold cIf at h
    split at h
    · simp only [Bool.and_eq_true] at h
      exact st_if (ck_ok d g .t S _ h.1.1) (cl_ok g hp fr f _ h.1.2) (cl_ok g hp fr e _ h.2)
    · cases h
  | .sfor S src t b, st, h => by
    rw [cs'] at h
    unfold cFor at h
    split at h
    · simp only [Bool.and_eq_true] at h
      exact st_for hp g.calm (ckR_ok src g true S _ _ h.1.2) (sg_ok g t _ h.1.1.2) (cl_ok g hp fr b _ h.2) (noSet_ok h.1.1.1 _)
    · cases h
  | .swh n S d b, st, h => by
    rw [cs'] at h
    unfold cWh at h
    split at h
    · simp only [Bool.and_eq_true] at h
      exact st_while hp (ck_ok d g .t S _ h.1) (cl_ok g hp fr b _ h.2)
    · cases h
  | .fz l s, st, h => by
    rw [cs'] at h
    exact st_frz (cs_ok g hp fr s st h)
  | .potw k S a, st, h => by
    rw [cs'] at h
    unfold cPotw at h
    split at h
    · simp only [Bool.and_eq_true, decide_eq_true_eq] at h
      obtain ⟨⟨rfl, h2⟩, h3⟩ := h
      have he := TM.toD (ck_ok a g .v S _ h3).1
      unfold potB at h2
      split at h2
      · rename_i i hi
        rw [evS']
        rw [hi] at he ⊢
        exact st_potw (nm_ok g h2) he
      · cases h2
    · cases h
  | .sforP S src t S1 i a b, st, h => by
    rw [cs'] at h
    unfold cForP at h
    split at h
    · simp only [Bool.and_eq_true] at h
      obtain ⟨⟨⟨⟨⟨⟨⟨⟨h1, h2⟩, h3⟩, h4⟩, h5⟩, h6⟩, h7⟩, h8⟩, h9⟩ := h
      have hps : c.ps = none := by
        cases e : c.ps with
        | none => rfl
        | some _ => rw [e] at h3; cases h3
      obtain ⟨he, sw⟩ := ck_ok a g .v S1 _ h8
      obtain ⟨te, t1, t2⟩ := asg_any (b' := true) g h4 h5 he (by rw [h6]; rfl) sw
      have hr := cl_ok (g.pt i) hp fr b _ h9
      have hi := ckR_ok src g true S _ _ h7
      have hg := sg_ok g t _ h2
      rw [evS']
      rw [hps] at t2 hi hg ⊢
      exact st_for hp g.calm hi hg (st_potIn t1 t2 hr) (noSet_ok h1 _)
    · cases h
theorem cl_ok {c : Cs} (g : Good c X) (hp : PassesOwn (model X.prog X.w) X.A X.env X.xe) (fr : Bool) : ∀ (l : List IS) (sts : List Stmt), cl c fr l sts = true → PSs X sts (TSt X.K c.ps fr (evSs c.fns c.cs c.ps l))
  | [], sts, h => by
    rw [cl] at h
    unfold cNil at h
    split at h
    · exact st_nil
    · cases h
  | [s], sts, h => by
    rw [cl, cl] at h
    unfold cCons at h
    split at h
    · rename_i st r
      simp only [Bool.and_eq_true] at h
      obtain ⟨h1, h2⟩ := h
      unfold cNil at h2
      split at h2
      · exact st_one (cs_ok g hp fr s st h1)
      · cases h2
    · cases h
  | s :: t :: l, sts, h => by
    rw [cl] at h
    unfold cCons at h
    split at h
    · simp only [Bool.and_eq_true] at h
      exact st_cons (cs_ok g hp fr s _ h.1) (cl_ok g hp fr (t :: l) _ h.2)
    · cases h
end
end
end Ev

/-! Ev, part T: a def of the text, by its term. -/
namespace Ev
open PySem L2 PySem.Spec PyProof.Rows

structure Df where
  name : Str
  n : Nat
  N : List Str
  pot : Bool
  fresh : Bool
  body : List IS
def psOf (b : Bool) : Option Nat := if b = true then some 0 else none
def initE (pot : Bool) (nN : Nat) (ds : List Dt) : SEn := (if pot = true then [Sl.no] else []) ++ ds.map Sl.sh ++ List.replicate (nN - (ds.length + if pot = true then 1 else 0)) Sl.no
def runD (f : Sn) (pot : Bool) (n nN : Nat) (ds : List Dt) : Mo Dt := if ds.length + (if pot = true then 1 else 0) = n then sEnd f (initE pot nN ds) else Mo.fail
def Df.fn (d : Df) (fs : List FnI) (cs : List (Str × Dt)) : FnI := ⟨d.name, d.pot, d.fresh, runD (evSs fs cs (psOf d.pot) d.body) d.pot d.n d.N.length⟩
def scB (N : List Str) (n : Nat) (sc : Scope) : Bool := decide (sc.kind = .function) && !sc.isCoroutine && !sc.isGenerator && decide N.Nodup && decide (n ≤ N.length) && (N.take n).all (fun x => decide (sc.names.lookup x = some .local) || decide (sc.names.lookup x = some .cell)) && sc.names.all fun y => !decide (y.2 = .free)
def Df.ok (d : Df) (fs : List FnI) (cs : List (Str × Dt)) (st : Stmt) : Bool := scB d.N d.n (defScope st) && cl ⟨d.N, defScope st, none, psOf d.pot, fs, cs⟩ d.fresh d.body (defBody st)
theorem sc_ok {N : List Str} {n : Nat} {sc : Scope} (h : scB N n sc = true) : FnScope N (N.take n) sc ∧ n ≤ N.length := by
  unfold scB at h
  simp only [Bool.and_eq_true, decide_eq_true_eq, Bool.not_eq_true', List.all_eq_true, Bool.or_eq_true, decide_eq_false_iff_not] at h
  obtain ⟨⟨⟨⟨⟨⟨h1, h2⟩, h3⟩, h4⟩, h5⟩, h6⟩, h7⟩ := h
  refine ⟨⟨h1, h2, h3, h4, ?_, h6, h7⟩, h5⟩
  rw [List.length_take, Nat.min_eq_left h5]
section
variable {P : Program} {w : World} {K : PySem.W.Frag} {mg : Str → Option Value} {base : Heap}
/-- what is known of the whole text -/
structure Know (P : Program) (w : World) (K : PySem.W.Frag) (mg : Str → Option Value) (base : Heap) (k : Nat) (fs : List FnI) (cs : List (Str × Dt)) : Prop where
  fns : ∀ F ∈ fs, ∃ f fd qs, FnG P w K mg base k f fd qs (spN K F) ∧ mg F.name = some (.ref f) ∧ PySem.W.keepIn K (.ref f) = true ∧ Binds K fd qs []
  cs : ∀ p ∈ cs, ∃ u v, mg p.1 = some u ∧ RelV v u ∧ Still p.2 = true ∧ ∀ R, Rp K R v p.2
  bl : ∀ n ∈ bltS, mg (Str.ofString n) = none
theorem init_len {pot : Bool} {n nN : Nat} {ds : List Dt} (h : ds.length + (if pot = true then 1 else 0) = n) (hn : n ≤ nN) : (initE pot nN ds).length = nN := by
  unfold initE
  cases pot
  · simp at h ⊢; omega
  · simp at h ⊢; omega
theorem fit_len {F : FnI} {po : Option Addr} {R : Hp} {vs : List V} {ds : List Dt} (f : Fit K F po R vs ds) : vs.length = ds.length + (if F.pot = true then 1 else 0) := by
  unfold Fit at f
  cases e : F.pot
  · rw [e] at f
    simpa using RpL.len f
  · rw [e] at f
    obtain ⟨p, ws, _, rfl, r⟩ := f
    simpa using r.len
theorem init_ws {F : FnI} {po : Option Addr} {R H : Hp} {pt : Pt} {vs : List V} {ds : List Dt} {N : List Str} {n : Nat} (hpn : F.pot = false → po = none) (sb : Sub R H) (q : PotAt po H pt) (pf : ∀ p, po = some p → R p = none) (f : Fit K F po R vs ds) (h : ds.length + (if F.pot = true then 1 else 0) = n) (hn : n ≤ N.length) :
    Ws K (psOf F.pot) po R H (L2.start N vs) (initE F.pot N.length ds) pt R H := by
  have lv := fit_len f
  have atE : ∀ (i : Nat) (s : Sl), (initE F.pot N.length ds)[i]? = some s → s = .no ∨ ∃ d v, s = .sh d ∧ (L2.start N vs)[i]? = some (some v) ∧ Rp K R v d := fun i s e => by
    unfold initE at e
    unfold Fit at f
    cases ep : F.pot
    · rw [ep] at e f
      simp only [Bool.false_eq_true, if_false, List.nil_append, Nat.add_zero] at e
      by_cases hi : i < ds.length
      · rw [List.getElem?_append_left (by simpa using hi), List.getElem?_map, List.getElem?_eq_getElem hi] at e
        cases e
        obtain ⟨v, hv, rv⟩ := RpL.get f (List.getElem?_eq_getElem hi)
        refine .inr ⟨_, v, rfl, ?_, rv⟩
        unfold L2.start
        rw [List.getElem?_append_left (by rw [List.length_map, RpL.len f]; exact hi), List.getElem?_map, hv]
        rfl
      · rw [List.getElem?_append_right (by simpa using hi), List.getElem?_replicate] at e
        split at e
        · cases e; exact .inl rfl
        · cases e
    · rw [ep] at e f
      obtain ⟨p, ws, _, rfl, r⟩ := f
      simp only [if_true] at e
      cases i with
      | zero =>
        cases e
        exact .inl rfl
      | succ i =>
        by_cases hi : i < ds.length
        · have e' : (ds.map Sl.sh ++ List.replicate (N.length - (ds.length + 1)) Sl.no)[i]? = some s := by simpa using e
          rw [List.getElem?_append_left (by simpa using hi), List.getElem?_map, List.getElem?_eq_getElem hi] at e'
          cases e'
          obtain ⟨v, hv, rv⟩ := r.get (List.getElem?_eq_getElem hi)
          refine .inr ⟨_, v, rfl, ?_, rv⟩
          unfold L2.start
          rw [List.getElem?_append_left (by rw [List.length_map, List.length_cons, r.len]; omega), List.getElem?_map, List.getElem?_cons_succ, hv]
          rfl
        · have e' : (ds.map Sl.sh ++ List.replicate (N.length - (ds.length + 1)) Sl.no)[i]? = some s := by simpa using e
          rw [List.getElem?_append_right (by simpa using hi), List.getElem?_replicate] at e'
          split at e'
          · cases e'; exact .inl rfl
          · cases e'
  refine ⟨.refl sb, q, pf, fun i e => ?_, ?_, fun i d e => ?_, fun i d e => ?_, fun i j d d' a n e => ?_, fun e => ?_⟩
  · unfold psOf at e
    split at e
    · rename_i ep
      cases e
      unfold Fit at f
      rw [ep] at f
      obtain ⟨p, ws, e1, rfl, r⟩ := f
      exact ⟨p, e1, rfl⟩
    · cases e
  · rw [init_len h hn]
    unfold L2.start
    rw [List.length_append, List.length_map, List.length_replicate]
    omega
  · rcases atE i _ e with z | ⟨d', v, z, h1, h2⟩
    · cases z
    · cases z; exact ⟨v, h1, h2⟩
  · rcases atE i _ e with z | ⟨d', v, z, h1, h2⟩
    · cases z
    · cases z
  · rcases atE i _ e with z | ⟨d', v, z, h1, h2⟩
    · cases z
    · cases z
  · refine hpn ?_
    unfold psOf at e
    split at e
    · cases e
    · rename_i z
      exact Bool.not_eq_true _ ▸ z
/-- a def, by its term -/
theorem fnG_of {k : Nat} {st : Stmt} {f : Addr} {fd : FuncData} {d : Df} {fs : List FnI} {cs : List (Str × Dt)} (kn : Know P w K mg base k fs cs) (F : Fun K d.name d.name st f fd) (h : d.ok fs cs st = true) :
    FnG P w K mg base (k + 1) f fd (d.N.take d.n) (spN K (d.fn fs cs)) := by
  unfold Df.ok at h
  simp only [Bool.and_eq_true] at h
  obtain ⟨hs, hb⟩ := h
  obtain ⟨S, hn⟩ := sc_ok hs
  have len : ∀ vs H Q, spN K (d.fn fs cs) vs H Q → vs.length = (d.N.take d.n).length := fun vs H Q ⟨po, ds, pt, R, r, pt', _, _, _, _, ft, e, _⟩ => by
    rw [fit_len ft, List.length_take, Nat.min_eq_left hn]
    have e' : runD (evSs fs cs (psOf d.pot) d.body) d.pot d.n d.N.length ds pt = some (r, pt') := e
    unfold runD at e'
    by_cases ha : ds.length + (if d.pot = true then 1 else 0) = d.n
    · exact ha
    · rw [if_neg ha] at e'
      cases e'
  refine ⟨len, fun A outer s H args us vs Q hr hgd e0 bt r hsp => ?_⟩
  obtain ⟨oc, od, kV, doc, pm, an, cdv, ct, osl, rfl, lk, hcd⟩ := F.ex
  have hl := len _ _ _ hsp
  have KX : K.In s.heap := e0.mod.kin.keeps fun b o e => (e0.bs b o e).1
  have lim : s.heap.NoLimit := e0.mod.nolimit.keeps fun b o e => (e0.bs b o e).1
  refine codeAny_call_function hr.depth (KX _ _ lk) rfl S.co S.gen rfl (PySem.W.codeRec_of KX hcd) (bt _ _ _ _ (wpAny_newFunctionEnv_cells S.kind (fun ⟨m, v⟩ hy => (S.par m (List.of_mem_zip hy).1).elim .inl fun q => .inr ⟨q, PySem.W.cellsFrom_some _ _ _ (.inl q)⟩) fun env he s1 x => ?_))
  subst he
  refine ⟨lim.keeps x.toInCall.keep, codeAny_func ?_⟩
  have I : Inv (cxOf CX0 P w K mg base d.N d.name (defScope st) f cdv A outer s H E0) [] (L2.start d.N vs) H s1 := inv_start S hr.hd e0 hl r x
  have hrd := hr.deeper (envOfC d.name (defScope st) s.heap.objs.size f cdv)
  have g : Good ⟨d.N, defScope st, none, psOf d.pot, fs, cs⟩ (cxOf CX0 P w K mg base d.N d.name (defScope st) f cdv A outer s H E0).nox :=
    { N := rfl, nd := S.nd, sc := rfl, kd := S.kind, fn := rfl, calm := rfl, gd := hgd, un := by have := hrd.un; show (A.deeper _).units + 100 < cLine; omega,
      fns := fun G hG => let ⟨f', fd', qs, a1, a2, a3, a4⟩ := kn.fns G hG; ⟨k, f', fd', qs, a1, hrd, a2, a3, a4⟩, cs := kn.cs, bl := kn.bl }
  have hbody := (cl_ok g PassesOwn.never d.fresh d.body (defBody st) hb).nox
  obtain ⟨po, ds, pt, R, rv, pt', sb, pq, pf, hpn, ft, e, kk⟩ := hsp
  have e' : runD (evSs fs cs (psOf d.pot) d.body) d.pot d.n d.N.length ds pt = some (rv, pt') := e
  unfold runD at e'
  by_cases ha : ds.length + (if d.pot = true then 1 else 0) = d.n
  · rw [if_pos ha] at e'
    obtain ⟨r1, p1, e1, e2⟩ := Mo.bnd_some e'
    have W := init_ws (F := d.fn fs cs) (N := d.N) hpn sb pq pf ft ha hn
    have due : Due K (psOf d.pot) d.fresh po R H R { nx := fun _ H' => Q .non H', rt := Q } r1 p1 := by
      cases r1 with
      | nx E =>
        cases e2
        exact fun σ R' H' w _ => kk .non R' H' w.ext w.pot (by
          show Out K d.fresh H R' H' .non .none
          cases d.fresh
          · exact .non
          · exact .inr ⟨rfl, .non⟩)
      | br E => cases e2
      | ct E => cases e2
      | rt dd =>
        cases e2
        exact fun v R' H' x q o => kk v R' H' x q o
    refine wpAny_mono (hbody.run [] s1 (L2.start d.N vs) H _ I ⟨po, _, pt, r1, p1, R, R, H, W, e1, due⟩) (fun fl s' hs => ?_) fun e s' hs => hs
    have fin : ∀ {σ' : L2.St} {H' : Hp} {v : V} {u : Value}, Inv (cxOf CX0 P w K mg base d.N d.name (defScope st) f cdv A outer s H E0) [] σ' H' s' → RelV v u → Q v H' → CE outer P w H s Q u s' :=
      fun {σ' H' v u} J rv q => ⟨v, H', J.os, J.bare, J.base, J.hok, rv, q⟩
    cases fl with
    | ret u =>
      obtain ⟨v, σ', H', J, rv, q⟩ := hs
      exact fin J rv q
    | next =>
      obtain ⟨σ', H', J, q⟩ := hs
      exact fin (v := V.non) (u := Value.none) J rfl q
    | brk =>
      obtain ⟨_, _, _, q⟩ := hs
      exact False.elim q
    | cont =>
      obtain ⟨_, _, _, q⟩ := hs
      exact False.elim q
  · rw [if_neg ha] at e'
    cases e'
end
end Ev

/-! Ev, part U: the law's call. -/
namespace Ev
open PySem PySem.Spec PyProof.Rows L2

theorem rpl_ints {K : PySem.W.Frag} {R : Hp} : ∀ ns : List Int, RpL K R (ns.map V.int) (ns.map PyData.int)
  | [] => .nil
  | n :: ns => .cons (.int n) (rpl_ints ns)
theorem out_true {K : PySem.W.Frag} {b : Bool} {H R' H' : Hp} {v : V} (o : Out K b H R' H' v (.bool true)) : v = .bl true := by
  cases b with
  | false => cases (show Rp K R' v (.bool true) from o); rfl
  | true =>
    rcases (show Nw K H R' H' v (.bool true) from o) with ⟨_, _, _, _, h⟩ | h
    · rcases h with ⟨_, _, e, _⟩ | ⟨_, _, e, _⟩ | ⟨_, _, e, _⟩ <;> cases e
    · cases h.2; rfl

theorem law_callG {P : Program} {w : World} {K : PySem.W.Frag} {mg mb : Str → Option Value} {k : Nat} {fa a : Addr} {fd : FuncData} {x : Str} {G : FnI} {s₁ : Shared} {vs : List Value} {ns : List Int}
    (KX : K.In s₁.heap) (hns : s₁.heap.Ns mainGlobals mg) (hb : s₁.heap.Ns builtinsNs mb) (hbb : ∀ x : Str, x ≠ "__name__" → mb x = bootBuiltins x) (hlim : s₁.heap.NoLimit) (hg : s₁.gens = #[])
    (ha : s₁.heap.get? a = some { cls := .type "list", data := .seq vs.toArray }) (hi : IntsAre vs ns) (hl : ns.length ≤ sizeLine) (hr : Room k callerA)
    (F : ∀ base : Heap, K.In base → base.Ns mainGlobals mg → FnG P w K mg base k fa fd [x] (spN K G)) (hbind : ∀ (s : Shared) (u : Value), BindsTo s fd ⟨[u], []⟩ [(x, u)])
    (hpot : G.pot = false) (hden : ∃ pt', G.den [.list (ns.map PyData.int)] (0, 0, 0) = some (.bool true, pt')) :
    codeAny (model P w) callerA (.call (.ref fa) ⟨[.ref a], []⟩) (fun r s' => r = .ok (.ret (.bool true)) ∧ OldK s₁.heap s'.heap ∧ s'.os = s₁.os ∧ AllBare s'.gens) s₁ := by
  have rv := vals_ints hi
  have lenV := hi.length
  obtain ⟨pt', hden⟩ := hden
  have core : ∀ H : Hp, Only H → SqE K H a (ns.map V.int) → HOk P w H s₁.heap → (∀ b, H b ≠ none → b = a) → (H a ≠ none → K.lookup a = none) →
      codeAny (model P w) callerA (.call (.ref fa) ⟨[.ref a], []⟩) (fun r s' => r = .ok (.ret (.bool true)) ∧ OldK s₁.heap s'.heap ∧ s'.os = s₁.os ∧ AllBare s'.gens) s₁ := by
    intro H hO hS hok hA hK
    have base_of : ∀ {b : Addr} {o : Obj}, s₁.heap.get? b = some o → H b = none → (hidT s₁.heap H).get? b = some o := fun e n => hidT_get e n
    have noA : ∀ {b : Addr} {o : Obj} {es : Array DictEntry} {ep : Nat}, s₁.heap.get? b = some o → o.data = .dict es ep → H b = none := fun {b o es ep} e d => by
      cases q : H b with
      | none => rfl
      | some u =>
        have e' : b = a := hA b (by rw [q]; simp)
        subst e'
        rw [ha] at e; cases e
        have d' : Data.seq vs.toArray _ = Data.dict es ep := d
        cases d'
    have nsK : ∀ {b : Addr} {m : Str → Option Value}, s₁.heap.Ns b m → (hidT s₁.heap H).Ns b m := fun {b m} ⟨o, es, ep, e, d, r⟩ => ⟨o, es, ep, base_of e (noA e d), d, r⟩
    have hKb : K.In (hidT s₁.heap H) := fun b o e => base_of (KX b o e) (by
      cases q : H b with
      | none => rfl
      | some u =>
        have e' : b = a := hA b (by rw [q]; simp)
        subst e'
        rw [hK (by rw [q]; simp)] at e; cases e)
    have hM : Mod K mg (hidT s₁.heap H) := ⟨hKb, nsK hns, ⟨mb, nsK hb, hbb⟩, let ⟨mc, h1, h2⟩ := hlim; ⟨mc, nsK h1, h2⟩⟩
    have e0 : Env0 P w K mg (hidT s₁.heap H) callerA [] s₁ H := ⟨rfl, hM, fun b o e => of_hidT e, Nat.le_of_eq (hidT_size _ _), trivial, fun b hb => absurd (show b ∈ ([] : List Addr) from hb) (by simp), hok, .of_eq hg⟩
    have hsp : spN K G [.ref a] H fun v _ => v = .bl true := by
      refine ⟨none, [.list (ns.map PyData.int)], (0, 0, 0), H, .bool true, pt', .refl H, fun p z => (by cases z), fun p z => (by cases z), fun _ => rfl, ?_, hden, fun v R' H' _ _ o => out_true o⟩
      unfold Fit
      rw [hpot]
      exact .cons (.lst hS (rpl_ints ns) (by rw [List.length_map]; exact hl)) .nil
    refine codeAny_mono ((F _ hKb (nsK hns)).run callerA [] s₁ H ⟨[.ref a], []⟩ [.ref a] [.ref a] _ hr rfl e0 (hbind s₁ (.ref a)) (.cons rfl .nil) hsp) fun r s' h => ?_
    cases r with
    | error e => exact False.elim h
    | ok fl =>
      cases fl with
      | next => exact False.elim h
      | brk => exact False.elim h
      | cont => exact False.elim h
      | ret u =>
        obtain ⟨v, H', os, bare, un, hok', r', q⟩ := h
        have q' : v = .bl true := q
        subst q'
        obtain rfl : u = Value.bool true := r'
        refine ⟨rfl, OldK.of_keep fun b o e => ?_, os, bare⟩
        cases q : H b with
        | none => exact un.keep b o e q (by intro z; exact absurd (show b ∈ ([] : List Addr) from z) (by simp)) (by simp)
        | some u =>
          rcases hO b with z | ⟨ob, xs, z⟩
          · rw [q] at z; cases z
          · have z2 := un.frzs b ob _ z
            obtain ⟨e1, _⟩ := hok b _ z
            obtain ⟨e2, _⟩ := hok' b _ z2
            rw [e] at e1; cases e1
            exact e2
  cases hk : K.lookup a with
  | some o =>
    have e := KX a o hk
    rw [ha] at e
    cases e
    refine core (fun _ => none) (fun _ => .inl rfl) (.inr ⟨vs.toArray, _, hk, by rw [List.size_toArray, lenV]; exact hl, by simpa using rv⟩) (fun b u z => by have z' : (none : Option HO) = some u := z; cases z') (fun b z => absurd rfl z) fun z => absurd rfl z
  | none =>
    refine core (fun b => if b = a then some (.frz { cls := .type "list", data := .seq vs.toArray } (.lst (ns.map V.int))) else none) (fun b => ?_) (.inl (.inr ⟨{ cls := .type "list", data := .seq vs.toArray }, if_pos rfl⟩)) (fun b u z => ?_) (fun b z => ?_) fun _ => hk
    · by_cases hb : b = a
      · exact .inr ⟨_, _, if_pos hb⟩
      · exact .inl (if_neg hb)
    · by_cases hb : b = a
      · have z' := (if_pos hb).symm.trans z
        cases z'
        subst hb
        exact ⟨ha, by rw [List.length_map]; exact hl, vs, _, rv, ha⟩
      · have z' := (if_neg hb).symm.trans z
        cases z'
    · by_cases hb : b = a
      · exact hb
      · exact absurd (if_neg hb) z

theorem walk_ofG {l : PySem.W.OpenLaw} {n k : Nat} {q : Program} {loose : List Str} {XP : (Str → Option Value) → Heap → Prop} {YP : World → Heap → Prop} {d : DefRec} {K : Params → PySem.W.Frag} {G : FnI} {x : Str}
    (hn : l.most = some n) (hn2 : n ≤ sizeLine) (hdf : d.params.defaults = []) (hr : Room k callerA)
    (hY : ∀ (w : World) (h : Heap), YP w h → (K w.params).In h)
    (F : ∀ (w : World) (mg : Str → Option Value) (fa : Addr) (h : Heap), (K w.params).In h → h.Ns mainGlobals mg → mg d.name = some (.ref fa) →
      ∃ fd : FuncData, (∀ (s : Shared) (u : Value), BindsTo s fd ⟨[u], []⟩ [(x, u)]) ∧
        ∀ base : Heap, (K w.params).In base → base.Ns mainGlobals mg → FnG l.prog w (K w.params) mg base k fa fd [x] (spN (K w.params) G))
    (hpot : G.pot = false) (hden : ∀ ns : List Int, ns.length ≤ n → ∃ pt', G.den [.list (ns.map PyData.int)] (0, 0, 0) = some (.bool true, pt')) :
    PySem.W.WalkO q loose XP YP l.row.toRowW d [] (fun f vs => PySem.call f vs) := by
  refine Att.attach_call hn hdf fun w s₀ s₁ mg mb fa o pm cd doc a vs ns G0 Y ho hd hcd hmg hobj hints hlen hg => ?_
  have KX := hY w _ Y
  obtain ⟨fd, hb, hF⟩ := F w mg fa _ KX G0.T.g hmg
  exact law_callG KX G0.T.g G0.T.b G0.T.builtins G0.T.nolimit hg hobj hints (Nat.le_trans hlen hn2) hr hF hb hpot (hden ns hlen)
end Ev

/-! Ev, part V: the defs of a text, one after the other. -/
namespace Ev
open PySem PySem.Spec PyProof.Rows L2

/-- where a def of the text lies -/
structure FunAt (K : PySem.W.Frag) (x : Str) (st : Stmt) (f : Addr) (fd : FuncData) : Prop where
  ns : PySem.W.nsIn K mainGlobals x = some (some (.ref f))
  fn : Fun K x x st f fd
theorem funAt_mk {K : PySem.W.Frag} {x : Str} {st : Stmt} {f : Addr} {oc : Value} {od an : Option Addr} {osl : Array (Option Value)} {kV doc pm cdv ct : Value} (a : PySem.W.nsIn K mainGlobals x = some (some (.ref f)))
    (l : K.lookup f = some ⟨oc, od, .func (PySem.W.fnOf x x (defArgs st) (defBody st) (defScope st) .none kV doc pm an cdv ct), osl⟩)
    (c : PySem.W.codeIn K cdv x = true) (k : PySem.W.keepIn K (.ref f) = true) : ∃ f fd, FunAt K x st f fd := ⟨_, _, a, fun_mk l c k⟩
/-- how a def binds -/
def BindA (x : Str) (st : Stmt) (ps : List Str) : Prop := ∀ (kV doc pm : Value) (an : Option Addr) (cdv ct : Value) (us : List Value), us.length = ps.length → bindArgs (PySem.W.fnOf x x (defArgs st) (defBody st) (defScope st) .none kV doc pm an cdv ct) ⟨us, []⟩ = pure (ps.zip us)
def Kn (P : Program) (w : World) (K : PySem.W.Frag) (mg : Str → Option Value) (base : Heap) (k : Nat) (F : FnI) : Prop :=
  ∃ f fd qs, FnG P w K mg base k f fd qs (spN K F) ∧ mg F.name = some (.ref f) ∧ PySem.W.keepIn K (.ref f) = true ∧ Binds K fd qs []
/-- a constant of the text -/
def CsAt (K : PySem.W.Frag) (p : Str × Dt) : Prop := ∃ u v, PySem.W.nsIn K mainGlobals p.1 = some (some u) ∧ RelV v u ∧ Still p.2 = true ∧ ∀ R, Rp K R v p.2
theorem csAt_int {K : PySem.W.Frag} {x : Str} {i : Int} {t : Tok} (h : PySem.W.nsIn K mainGlobals x = some (some (.int i t))) : CsAt K (x, .int i) := ⟨_, .int i, h, ⟨_, rfl⟩, rfl, fun _ => .int i⟩
theorem csAt_str {K : PySem.W.Frag} {x : Str} {i : Str} {t : Tok} (h : PySem.W.nsIn K mainGlobals x = some (some (.str i t))) : CsAt K (x, .str i) := ⟨_, .str i, h, ⟨_, rfl⟩, rfl, fun _ => .str i⟩
theorem csAt_non {K : PySem.W.Frag} {x : Str} (h : PySem.W.nsIn K mainGlobals x = some (some .none)) : CsAt K (x, .none) := ⟨_, .non, h, rfl, rfl, fun _ => .non⟩
theorem csAt_bool {K : PySem.W.Frag} {x : Str} {b : Bool} (h : PySem.W.nsIn K mainGlobals x = some (some (.bool b))) : CsAt K (x, .bool b) := ⟨_, .bl b, h, rfl, rfl, fun _ => .bl b⟩
/-- the built-in names are not written over -/
def blAll (K : PySem.W.Frag) : List String → Prop
  | [] => True
  | n :: ns => PySem.W.nsIn K mainGlobals (Str.ofString n) = some none ∧ blAll K ns
theorem blAll_mem {K : PySem.W.Frag} : ∀ {l : List String}, blAll K l → ∀ n ∈ l, PySem.W.nsIn K mainGlobals (Str.ofString n) = some none
  | m :: l, ⟨a, b⟩, n, h => by
    rcases List.mem_cons.mp h with rfl | h
    · exact a
    · exact blAll_mem b n h
theorem cs_cons {K : PySem.W.Frag} {p : Str × Dt} {l : List (Str × Dt)} (a : CsAt K p) (b : ∀ q ∈ l, CsAt K q) : ∀ q ∈ p :: l, CsAt K q := fun q h => by
  rcases List.mem_cons.mp h with rfl | h
  · exact a
  · exact b q h
section
variable {P : Program} {w : World} {K : PySem.W.Frag} {mg : Str → Option Value} {base : Heap}
/-- what the top has written besides the defs -/
structure Top (K : PySem.W.Frag) (mg : Str → Option Value) (base : Heap) (cs : List (Str × Dt)) : Prop where
  kx : K.In base
  ns : base.Ns mainGlobals mg
  cs : ∀ p ∈ cs, CsAt K p
  bl : ∀ n ∈ bltS, PySem.W.nsIn K mainGlobals (Str.ofString n) = some none
theorem kn_nil {k : Nat} : ∀ F ∈ ([] : List FnI), Kn P w K mg base k F := fun F h => nomatch h
theorem kn_cons {j k : Nat} {F : FnI} {fs : List FnI} (h : Kn P w K mg base j F) (hj : j ≤ k) (r : ∀ F ∈ fs, Kn P w K mg base k F) : ∀ G ∈ F :: fs, Kn P w K mg base k G := fun G hG => by
  rcases List.mem_cons.mp hG with rfl | hG
  · obtain ⟨f, fd, qs, a, b⟩ := h
    exact ⟨f, fd, qs, a.mono hj, b⟩
  · exact r G hG
theorem know_of {k : Nat} {fs : List FnI} {cs : List (Str × Dt)} (T : Top K mg base cs) (h : ∀ F ∈ fs, Kn P w K mg base k F) : Know P w K mg base k fs cs :=
  ⟨h, fun p hp => let ⟨u, v, a, b⟩ := T.cs p hp; ⟨u, v, PySem.W.mg_of T.kx T.ns a, b⟩, fun n hn => PySem.W.mg_none_of T.kx T.ns (T.bl n hn)⟩
theorem kn_step {k : Nat} {fs : List FnI} {cs : List (Str × Dt)} {d : Df} {st : Stmt} (T : Top K mg base cs) (a : ∃ f fd, FunAt K d.name st f fd) (ok : d.ok fs cs st = true) (hb : BindA d.name st (d.N.take d.n)) (h : ∀ F ∈ fs, Kn P w K mg base k F) :
    Kn P w K mg base (k + 1) (d.fn fs cs) := by
  obtain ⟨f, fd, a⟩ := a
  exact ⟨f, fd, _, fnG_of (know_of T h) a.fn ok, PySem.W.mg_of T.kx T.ns a.ns, a.fn.kp, a.fn.binds hb⟩
theorem law_step {k : Nat} {fs : List FnI} {cs : List (Str × Dt)} {d : Df} {st : Stmt} {fa f : Addr} {fd : FuncData} {x : Str} (T : Top K mg base cs) (a : FunAt K d.name st f fd) (e : mg d.name = some (.ref fa)) (ok : d.ok fs cs st = true) (hx : d.N.take d.n = [x]) (h : ∀ F ∈ fs, Kn P w K mg base k F) :
    FnG P w K mg base (k + 1) fa fd [x] (spN K (d.fn fs cs)) := by
  cases e.symm.trans (PySem.W.mg_of T.kx T.ns a.ns)
  rw [← hx]
  exact fnG_of (know_of T h) a.fn ok
theorem bind_law {x y : Str} {st : Stmt} {f : Addr} {fd : FuncData} (a : FunAt K x st f fd) (hb : BindA x st [y]) (s : Shared) (u : Value) : BindsTo s fd ⟨[u], []⟩ [(y, u)] := by
  obtain ⟨oc, od, kV, doc, pm, an, cdv, ct, osl, rfl, lk, hcd⟩ := a.fn.ex
  exact .of_eq (hb kV doc pm an cdv ct [u] rfl)
end
end Ev

/-! Ev, part W: reading what terms do to data. -/
namespace Ev
open PySem L2
theorem bnd_at {α β : Type} {m : Mo α} {f : α → Mo β} {p q : Pt} {a : α} (h : m p = some (a, q)) : Mo.bnd m f p = f a q := by unfold Mo.bnd; rw [h]
theorem ret_at {α : Type} {a : α} {p : Pt} : Mo.ret a p = some (a, p) := (rfl)
theorem ofO_at {α : Type} {a : α} {p : Pt} : Mo.ofO (some a) p = some (a, p) := (rfl)
theorem tell_of {F : FnI} {ds : List Dt} {d : Dt} (h : ∀ pt, F.den ds pt = some (d, pt)) : F.tell ds = some d := by unfold FnI.tell; rw [h]; rfl
theorem dCall_pure {F : FnI} {l : Ln} {env : En} {p q : Pt} {ds : List Dt} {d : Dt} (hp : F.pot = false) (h : l env p = some (ds, q)) (ht : F.tell ds = some d) : dCall F l env p = some (d, q) := by
  unfold dCall
  rw [bnd_at h, hp]
  show Mo.ofO (F.tell ds) q = _
  rw [ht]; rfl
theorem dCall_pot {F : FnI} {l : Ln} {env : En} {p q : Pt} {ds : List Dt} {r : Option (Dt × Pt)} (hp : F.pot = true) (h : l env p = some (ds, q)) (ht : F.den ds q = r) : dCall F l env p = r := by
  unfold dCall
  rw [bnd_at h, hp]
  exact ht
/-- a comprehension that draws nothing -/
theorem lcF_pure {α : Type} {ps : Option Nat} {tg : Tg} {vs : List Nat} {cond elt : Dn} {env : En} (enc : α → Dt) (c : α → Bool) (g : α → Dt) (xs : List α)
    (h : ∀ x ∈ xs, ∃ env', bindD ps tg (enc x) (wipeD env vs) = some env' ∧ ∀ p, cond env' p = some (.bool (c x), p) ∧ (c x = true → elt env' p = some (g x, p))) (p : Pt) :
    lcF ps tg vs cond elt env (xs.map enc) p = some ((xs.filter c).map g, p) := by
  induction xs with
  | nil => rfl
  | cons x xs ih =>
    obtain ⟨env', e1, e2⟩ := h x (.head _)
    have ih := ih fun y hy => h y (.tail _ hy)
    show lcF ps tg vs cond elt env (enc x :: xs.map enc) p = _
    unfold lcF
    rw [bnd_at (by rw [e1]; rfl), bnd_at (e2 p).1]
    cases e : c x with
    | true =>
      show Mo.bnd _ _ p = _
      rw [bnd_at ((e2 p).2 e), bnd_at ih, List.filter_cons_of_pos e]
      rfl
    | false =>
      rw [List.filter_cons_of_neg (by rw [e]; decide)]
      exact ih
theorem dLc_pure {α : Type} {ps : Option Nat} {src : Sr} {tg : Tg} {vs : List Nat} {cond elt : Dn} {env : En} {p q : Pt} (enc : α → Dt) (c : α → Bool) (g : α → Dt) (xs : List α) (hs : src env p = some (xs.map enc, q)) (hl : xs.length ≤ sizeLine)
    (h : ∀ x ∈ xs, ∃ env', bindD ps tg (enc x) (wipeD env vs) = some env' ∧ ∀ p, cond env' p = some (.bool (c x), p) ∧ (c x = true → elt env' p = some (g x, p))) :
    dLc ps src tg vs cond elt env p = some (.list ((xs.filter c).map g), q) := by
  unfold dLc
  rw [bnd_at hs]
  show (if (xs.map enc).length ≤ sizeLine then _ else _ : Mo Dt) q = _
  rw [if_pos (by rw [List.length_map]; exact hl), bnd_at (lcF_pure enc c g xs h q)]
  rfl
/-- every element, no condition -/
theorem dLc_all {α : Type} {ps : Option Nat} {src : Sr} {tg : Tg} {vs : List Nat} {elt : Dn} {env : En} {p q : Pt} (enc : α → Dt) (g : α → Dt) (xs : List α) (hs : src env p = some (xs.map enc, q)) (hl : xs.length ≤ sizeLine)
    (h : ∀ x ∈ xs, ∃ env', bindD ps tg (enc x) (wipeD env vs) = some env' ∧ ∀ p, elt env' p = some (g x, p)) :
    dLc ps src tg vs (dLit (.bool true)) elt env p = some (.list (xs.map g), q) := by
  have := dLc_pure enc (fun _ => true) g xs hs hl fun x hx => let ⟨env', e1, e2⟩ := h x hx; ⟨env', e1, fun p => ⟨rfl, fun _ => e2 p⟩⟩
  rwa [List.filter_eq_self.mpr (by simp)] at this
end Ev
namespace Ev
open PySem L2
/-! ### call by value -/
def ob {α β : Type} (m : Option α) (k : α → Option β) : Option β := match m with | some a => k a | none => none
theorem ob_congr {α β : Type} {m m' : Option α} {k : α → Option β} (h : m = m') : ob m k = ob m' k := by rw [h]
@[simp] theorem ob_some {α β : Type} {a : α} {k : α → Option β} : ob (some a) k = k a := (rfl)
theorem bnd_ob {α β : Type} {m : Mo α} {f : α → Mo β} {p : Pt} : Mo.bnd m f p = ob (m p) fun r => f r.1 r.2 := by
  unfold Mo.bnd ob
  cases m p <;> rfl
theorem ofO_ob {α : Type} {o : Option α} {p : Pt} : Mo.ofO o p = ob o fun a => some (a, p) := by cases o <;> rfl
def iteF {α : Type} (f g : Mo α) : Dt × Pt → Option (α × Pt)
  | (.bool true, p) => f p
  | (.bool false, p) => g p
  | _ => none
@[simp] theorem iteF_b {α : Type} {f g : Mo α} {b : Bool} {p : Pt} : iteF f g (.bool b, p) = if b = true then f p else g p := by cases b <;> rfl
def kB (b : Bool) : Mo Dt := fun p => some (.bool b, p)
@[simp] theorem kB_at {b : Bool} {p : Pt} : kB b p = some (.bool b, p) := (rfl)
def chF (fs : List FnI) (cs : List (Str × Dt)) (ps : Option Nat) (o : CmpOp) (y : Dt) (c : IE) (env : En) : Mo Dt := fun p => ob (ev fs cs ps c env p) fun t => ob (cmpD o y t.1) fun d => some (d, t.2)
section
variable {fs : List FnI} {cs : List (Str × Dt)} {ps : Option Nat} {env : En} {p : Pt} {a b c : IE} {l : IA}
@[simp] theorem ev_var {i : Nat} : ev fs cs ps (.var i) env p = ob (env[i]?.join) fun d => some (d, p) := by rw [ev]; exact ofO_ob
@[simp] theorem ev_lit {d : Dt} : ev fs cs ps (.lit d) env p = some (d, p) := by rw [ev]; rfl
@[simp] theorem ev_con {k : Nat} : ev fs cs ps (.con k) env p = ob cs[k]? fun q => some (q.2, p) := by rw [ev]; cases cs[k]? <;> rfl
@[simp] theorem ev_bin {o : Operator} : ev fs cs ps (.bin o a b) env p = ob (ev fs cs ps a env p) fun r => ob (ev fs cs ps b env r.2) fun s => ob (binD o r.1 s.1) fun d => some (d, s.2) := by
  rw [ev]; unfold d2; simp only [bnd_ob, ofO_ob]
@[simp] theorem ev_neg : ev fs cs ps (.neg a) env p = ob (ev fs cs ps a env p) fun r => ob (negD r.1) fun d => some (d, r.2) := by rw [ev]; unfold d1; simp only [bnd_ob, ofO_ob]
@[simp] theorem ev_cmp {o : CmpOp} : ev fs cs ps (.cmp o a b) env p = ob (ev fs cs ps a env p) fun r => ob (ev fs cs ps b env r.2) fun s => ob (cmpD o r.1 s.1) fun d => some (d, s.2) := by
  rw [ev]; unfold d2; simp only [bnd_ob, ofO_ob]
@[simp] theorem ev_chn {o o' : CmpOp} : ev fs cs ps (.chn o o' a b c) env p = ob (ev fs cs ps a env p) fun r => ob (ev fs cs ps b env r.2) fun s => ob (cmpD o r.1 s.1) fun z => iteF (chF fs cs ps o' s.1 c env) (kB false) (z, s.2) := by
  rw [ev]; unfold dChn; simp only [bnd_ob, ofO_ob]
  congr 1; funext r; congr 1; funext s; cases cmpD o r.1 s.1 with
  | none => rfl
  | some z => cases z with
    | bool b =>
      cases b
      · rfl
      · show Mo.bnd _ _ s.2 = chF fs cs ps o' s.1 c env s.2
        unfold chF
        simp only [bnd_ob, ofO_ob]
    | _ => rfl
@[simp] theorem ev_not : ev fs cs ps (.not a) env p = ob (ev fs cs ps a env p) fun r => ob (notD r.1) fun d => some (d, r.2) := by rw [ev]; unfold dNot d1; simp only [bnd_ob, ofO_ob]
@[simp] theorem ev_ite : ev fs cs ps (.ite c a b) env p = ob (ev fs cs ps c env p) (iteF (ev fs cs ps a env) (ev fs cs ps b env)) := by
  rw [ev]; unfold dIf; simp only [bnd_ob]; congr 1; funext r; obtain ⟨d, q⟩ := r
  cases d with
  | bool b => cases b <;> rfl
  | _ => rfl
@[simp] theorem ev_and0 : ev fs cs ps (.band l) env p = evAnd fs cs ps l env p := by rw [ev]
@[simp] theorem ev_or0 : ev fs cs ps (.bor l) env p = evOr fs cs ps l env p := by rw [ev]
@[simp] theorem evAnd1 : evAnd fs cs ps (.cons a .nil) env p = ev fs cs ps a env p := by rw [evAnd]
@[simp] theorem evAnd2 : evAnd fs cs ps (.cons a (.cons b l)) env p = ob (ev fs cs ps a env p) (iteF (evAnd fs cs ps (.cons b l) env) (kB false)) := by
  rw [evAnd]
  · unfold dAnd; simp only [bnd_ob]; congr 1; funext r; obtain ⟨d, q⟩ := r
    cases d with
    | bool b => cases b <;> rfl
    | _ => rfl
  · intro h; cases h
@[simp] theorem evOr1 : evOr fs cs ps (.cons a .nil) env p = ev fs cs ps a env p := by rw [evOr]
@[simp] theorem evOr2 : evOr fs cs ps (.cons a (.cons b l)) env p = ob (ev fs cs ps a env p) (iteF (kB true) (evOr fs cs ps (.cons b l) env)) := by
  rw [evOr]
  · unfold dOr; simp only [bnd_ob]; congr 1; funext r; obtain ⟨d, q⟩ := r
    cases d with
    | bool b => cases b <;> rfl
    | _ => rfl
  · intro h; cases h
@[simp] theorem evA_nil : evA fs cs ps .nil env p = some ([], p) := by rw [evA]; rfl
@[simp] theorem evA_cons : evA fs cs ps (.cons a l) env p = ob (ev fs cs ps a env p) fun r => ob (evA fs cs ps l env r.2) fun s => some (r.1 :: s.1, s.2) := by rw [evA]; unfold lCons; simp only [bnd_ob]; rfl
@[simp] theorem evA_star : evA fs cs ps (.star a l) env p = ob (ev fs cs ps a env p) fun r => ob (itemsD r.1) fun ys => ob (evA fs cs ps l env r.2) fun s => some (ys ++ s.1, s.2) := by
  rw [evA]; unfold lStar; simp only [bnd_ob, ofO_ob]
  congr 1; funext r; cases itemsD r.1 <;> rfl
@[simp] theorem ev_tup : ev fs cs ps (.tup l) env p = ob (evA fs cs ps l env p) fun r => if okLen r.1.length = true then some (.tuple r.1, r.2) else none := by
  rw [ev]; unfold dTup; simp only [bnd_ob]; congr 1; funext r; split <;> rfl
@[simp] theorem ev_lst : ev fs cs ps (.lst l) env p = ob (evA fs cs ps l env p) fun r => if okLen r.1.length = true then some (.list r.1, r.2) else none := by
  rw [ev]; unfold dLst; simp only [bnd_ob]; congr 1; funext r; split <;> rfl
@[simp] theorem ev_idx : ev fs cs ps (.idx a b) env p = ob (ev fs cs ps a env p) fun r => ob (ev fs cs ps b env r.2) fun s => ob (idxD r.1 s.1) fun d => some (d, s.2) := by
  rw [ev]; unfold d2; simp only [bnd_ob, ofO_ob]
@[simp] theorem evO_no : evO fs cs ps .no env p = some (none, p) := by rw [evO]; rfl
@[simp] theorem evO_yes : evO fs cs ps (.yes a) env p = ob (ev fs cs ps a env p) fun r => ob (intD r.1) fun i => some (some i, r.2) := by
  rw [evO]; unfold oSome; simp only [bnd_ob, ofO_ob]; congr 1; funext r; cases intD r.1 <;> rfl
@[simp] theorem ev_slc {lo hi : IO} : ev fs cs ps (.slc a lo hi) env p = ob (ev fs cs ps a env p) fun r => ob (evO fs cs ps lo env r.2) fun s => ob (evO fs cs ps hi env s.2) fun t => ob (slcD r.1 s.1 t.1) fun d => some (d, t.2) := by
  rw [ev]; unfold dSlc; simp only [bnd_ob, ofO_ob]
@[simp] theorem ev_rev : ev fs cs ps (.rev a) env p = ob (ev fs cs ps a env p) fun r => ob (revD r.1) fun d => some (d, r.2) := by rw [ev]; unfold d1; simp only [bnd_ob, ofO_ob]
@[simp] theorem ev_bi {g : Bi} : ev fs cs ps (.bi g l) env p = ob (evA fs cs ps l env p) fun r => ob (g.fn r.1) fun d => some (d, r.2) := by rw [ev]; unfold dBi; simp only [bnd_ob, ofO_ob]
@[simp] theorem ev_isi {T : String} : ev fs cs ps (.isi T a) env p = ob (ev fs cs ps a env p) fun r => some (.bool (isG T r.1), r.2) := by rw [ev]; unfold d1; simp only [bnd_ob, ofO_ob]; rfl
@[simp] theorem ev_ssort : ev fs cs ps (.ssort a) env p = ob (ev fs cs ps a env p) fun r => ob (sortSetD r.1) fun d => some (d, r.2) := by rw [ev]; unfold d1; simp only [bnd_ob, ofO_ob]
@[simp] theorem ev_slen : ev fs cs ps (.slen a) env p = ob (ev fs cs ps a env p) fun r => ob (lenSetD r.1) fun d => some (d, r.2) := by rw [ev]; unfold d1; simp only [bnd_ob, ofO_ob]
@[simp] theorem ev_potr {k : Nat} : ev fs cs ps (.potr k) env p = ob (ptAt p k) fun i => some (.int i, p) := by rw [ev]; unfold dPotr; cases ptAt p k <;> rfl
def lrgX (tp : Bool) : Dt → Dt → Option Dt
  | .int i, .int j => lrgD tp i j
  | _, _ => none
@[simp] theorem ev_lrg1 {tp : Bool} : ev fs cs ps (.lrg1 tp a) env p = ob (ev fs cs ps a env p) fun r => ob (lrgX tp (.int 0) r.1) fun d => some (d, r.2) := by
  rw [ev]; unfold dLrg1; simp only [bnd_ob]; congr 1; funext r; obtain ⟨d, q⟩ := r
  cases d <;> first | rfl | exact ofO_ob
@[simp] theorem ev_lrg2 {tp : Bool} : ev fs cs ps (.lrg2 tp a b) env p = ob (ev fs cs ps a env p) fun r => ob (ev fs cs ps b env r.2) fun s => ob (lrgX tp r.1 s.1) fun d => some (d, s.2) := by
  rw [ev]; unfold dLrg2; simp only [bnd_ob]; congr 1; funext r; congr 1; funext s; obtain ⟨d, q⟩ := r; obtain ⟨d', q'⟩ := s
  cases d <;> cases d' <;> first | rfl | exact ofO_ob
/-- a call of a def that draws nothing, of one that draws -/
def appD (F : FnI) (ds : List Dt) (p : Pt) : Option (Dt × Pt) := if F.pot = true then F.den ds p else ob (F.tell ds) fun d => some (d, p)
@[simp] theorem ev_call {n : Nat} : ev fs cs ps (.call n l) env p = ob fs[n]? fun F => ob (evA fs cs ps l env p) fun r => appD F r.1 r.2 := by
  rw [ev]; unfold callD; cases fs[n]? with
  | none => rfl
  | some F =>
    show dCall F _ env p = ob _ _
    unfold dCall; rw [bnd_ob]; congr 1; funext r; unfold appD
    cases F.pot
    · exact ofO_ob
    · rfl
@[simp] theorem ev_callp {n : Nat} : ev fs cs ps (.callp n l) env p = ob fs[n]? fun F => ob (evA fs cs ps l env p) fun r => appD F r.1 r.2 :=
  (show ev fs cs ps (.callp n l) env p = ev fs cs ps (.call n l) env p by rw [ev.eq_def, ev.eq_def fs cs ps (.call n l)]).trans ev_call
end
theorem app_pure {F : FnI} {ds : List Dt} {d : Dt} {p : Pt} (hp : F.pot = false) (h : ∀ pt, F.den ds pt = some (d, pt)) : appD F ds p = some (d, p) := by
  unfold appD; rw [hp, tell_of h]; rfl
theorem app_pot {F : FnI} {ds : List Dt} {p : Pt} (hp : F.pot = true) : appD F ds p = F.den ds p := by unfold appD; rw [hp]; rfl
section
variable {fs : List FnI} {cs : List (Str × Dt)} {ps : Option Nat} {E : SEn} {p : Pt} {a b c : IE} {S : List Nat} {s t : IS} {r : List IS}
theorem evS_ob {h : Dn} : evS S h E p = if ckS S E = true then h (vw E) p else none := by unfold evS; split <;> rfl
def sqX (f : Sn) : Sg × Pt → Option (Sg × Pt)
  | (.nx E, p) => f E p
  | r => some r
@[simp] theorem sqX_nx {f : Sn} : sqX f (.nx E, p) = f E p := (rfl)
@[simp] theorem sqX_rt {f : Sn} {d : Dt} : sqX f (.rt d, p) = some (.rt d, p) := (rfl)
@[simp] theorem sqX_br {f : Sn} : sqX f (.br E, p) = some (.br E, p) := (rfl)
@[simp] theorem sqX_ct {f : Sn} : sqX f (.ct E, p) = some (.ct E, p) := (rfl)
@[simp] theorem evSs0 : evSs fs cs ps [] E p = some (.nx E, p) := by rw [evSs]; rfl
@[simp] theorem evSs1 : evSs fs cs ps [s] E p = evS' fs cs ps s E p := by rw [evSs]
@[simp] theorem evSs2 : evSs fs cs ps (s :: t :: r) E p = ob (evS' fs cs ps s E p) (sqX (evSs fs cs ps (t :: r))) := by
  rw [evSs]; unfold sSq; simp only [bnd_ob]; congr 1; funext q; obtain ⟨g, q⟩ := q; cases g <;> rfl
@[simp] theorem st_pass' : evS' fs cs ps .pass E p = some (.nx E, p) := by rw [evS']; rfl
@[simp] theorem st_doc' : evS' fs cs ps .doc E p = some (.nx E, p) := by rw [evS']; rfl
@[simp] theorem st_brk' : evS' fs cs ps .brk E p = some (.br E, p) := by rw [evS']; rfl
@[simp] theorem st_cont' : evS' fs cs ps .cont E p = some (.ct E, p) := by rw [evS']; rfl
@[simp] theorem st_retN' : evS' fs cs ps .retN E p = some (.rt .none, p) := by rw [evS']; rfl
def gate {α : Type} (b : Bool) (x : Option α) : Option α := if b = true then x else none
theorem gate_congr {α : Type} {b b' : Bool} {x : Option α} (h : b = b') : gate b x = gate b' x := by rw [h]
@[simp] theorem gate_t {α : Type} {x : Option α} : gate true x = x := (rfl)
@[simp] theorem st_expr' : evS' fs cs ps (.expr S a) E p = gate (ckS S E) (ob (ev fs cs ps a (vw E) p) fun r => some (.nx E, r.2)) := by
  rw [evS']; unfold sExpr gate; simp only [bnd_ob, evS_ob]; split <;> rfl
@[simp] theorem st_ret' : evS' fs cs ps (.ret S a) E p = gate (ckS S E) (ob (ev fs cs ps a (vw E) p) fun r => some (.rt r.1, r.2)) := by
  rw [evS']; unfold sRet gate; simp only [bnd_ob, evS_ob]; split <;> rfl
@[simp] theorem st_asg' {i : Nat} : evS' fs cs ps (.asg S i a) E p = gate (ckS S E) (ob (ev fs cs ps a (vw E) p) fun r => setS ps i (.sh r.1) E r.2) := by
  rw [evS']; unfold sAsg gate; simp only [bnd_ob, evS_ob]; split <;> rfl
@[simp] theorem st_asgO' {i : Nat} : evS' fs cs ps (.asgO S i a) E p = gate (ckS S E) (ob (ev fs cs ps a (vw E) p) fun r => setS ps i (slN r.1) E r.2) := by
  rw [evS']; unfold sAsgO gate; simp only [bnd_ob, evS_ob]; split <;> rfl
@[simp] theorem setS_ob {i : Nat} {x : Sl} : setS ps i x E p = gate (decide (i < E.length ∧ ps ≠ some i)) (some (.nx (E.set i x), p)) := by
  unfold setS gate; by_cases h : i < E.length ∧ ps ≠ some i
  · rw [if_pos h, if_pos (by simpa using h)]; rfl
  · rw [if_neg h, if_neg (by simpa using h)]; rfl
@[simp] theorem st_if' {f g : List IS} : evS' fs cs ps (.sif S c f g) E p = gate (ckS S E) (ob (ev fs cs ps c (vw E) p) (iteF (evSs fs cs ps f E) (evSs fs cs ps g E))) := by
  rw [evS']; unfold sIf gate; simp only [bnd_ob, evS_ob]; split
  · congr 1; funext r; obtain ⟨d, q⟩ := r
    cases d with
    | bool b => cases b <;> rfl
    | _ => rfl
  · rfl
@[simp] theorem st_fz' {l : List Nat} : evS' fs cs ps (.fz l s) E p = evS' fs cs ps s (frzL l E) p := by rw [evS']; rfl
@[simp] theorem st_potw' {k : Nat} : evS' fs cs ps (.potw k S a) E p = gate (ckS S E) (ob (ev fs cs ps a (vw E) p) fun r => ob (intD r.1) fun v => ob (ptSet r.2 k v) fun q => some (.nx E, q)) := by
  rw [evS']; unfold sPotw gate; simp only [bnd_ob, evS_ob, ofO_ob]; split
  · congr 1; funext r; cases intD r.1 with
    | none => rfl
    | some v => show (ptSet r.2 k v).map _ = ob (ptSet r.2 k v) _; cases ptSet r.2 k v <;> rfl
  · rfl
end
def endX : Sg × Pt → Option (Dt × Pt)
  | (.nx _, p) => some (.none, p)
  | (.rt d, p) => some (d, p)
  | _ => none
theorem den_ob {d : Df} {fs : List FnI} {cs : List (Str × Dt)} {ds : List Dt} {p : Pt} : (d.fn fs cs).den ds p = gate (decide (ds.length + (if d.pot = true then 1 else 0) = d.n)) (ob (evSs fs cs (psOf d.pot) d.body (initE d.pot d.N.length ds) p) endX) := by
  show runD _ _ _ _ _ _ = _
  unfold runD gate
  by_cases h : ds.length + (if d.pot = true then 1 else 0) = d.n
  · rw [if_pos h, if_pos (by simpa using h)]
    unfold sEnd; rw [bnd_ob]; congr 1; funext r; obtain ⟨g, q⟩ := r; cases g <;> rfl
  · rw [if_neg h, if_neg (by simpa using h)]; rfl
def mulOk (i j : Int) : Bool := decide (i.natAbs.log2 + j.natAbs.log2 < 1000000)
def divOk (j : Int) : Bool := decide (0 < j ∧ j.natAbs.log2 < 9000)
def powOk (i j : Int) : Bool := decide (0 ≤ j ∧ ((i.natAbs.log2 + 1 : Nat) : Int) * j ≤ 2 ^ 27)
theorem lg_le {n k : Nat} (h : n < 2 ^ k) : n.log2 ≤ k := by
  by_cases z : n = 0
  · subst z; simp
  · exact Nat.le_of_lt ((Nat.log2_lt z).mpr h)
theorem ilg {i : Int} (k : Nat) (h1 : -(2 ^ k) < i) (h2 : i < 2 ^ k) : i.natAbs.log2 ≤ k := by
  apply lg_le
  have e : ((2 ^ k : Nat) : Int) = 2 ^ k := by simp
  omega
theorem mul_ok {i j : Int} (a b : Nat) (h1 : -(2 ^ a) < i) (h2 : i < 2 ^ a) (h3 : -(2 ^ b) < j) (h4 : j < 2 ^ b) (h : a + b < 1000000) : mulOk i j = true := by
  have := ilg a h1 h2
  have := ilg b h3 h4
  exact decide_eq_true (by omega)
theorem div_ok {j : Int} (b : Nat) (h0 : 0 < j) (h4 : j < 2 ^ b) (h : b < 9000) : divOk j = true := by
  have := ilg b (by have : (0 : Int) < 2 ^ b := Int.pow_pos (by decide); omega) h4
  exact decide_eq_true ⟨h0, by omega⟩
section
variable {i j : Int} {b : Bool} {x y : Dt} {xs ys : List Dt} {p : Pt} {d : Dt} {E : SEn} {fs : List FnI} {cs : List (Str × Dt)} {ps : Option Nat} {o : CmpOp} {c : IE} {env : En}
@[simp] theorem chF_at : chF fs cs ps o y c env p = ob (ev fs cs ps c env p) fun t => ob (cmpD o y t.1) fun d => some (d, t.2) := (rfl)
@[simp] theorem endX_nx : endX (.nx E, p) = some (.none, p) := (rfl)
@[simp] theorem endX_rt : endX (.rt d, p) = some (d, p) := (rfl)
@[simp] theorem add_ii : binD .Add (.int i) (.int j) = some (.int (i + j)) := (rfl)
@[simp] theorem sub_ii : binD .Sub (.int i) (.int j) = some (.int (i - j)) := (rfl)
@[simp] theorem mul_ii : binD .Mult (.int i) (.int j) = if mulOk i j = true then some (.int (i * j)) else none := by unfold mulOk; simp only [decide_eq_true_eq]; rfl
@[simp] theorem div_ii : binD .FloorDiv (.int i) (.int j) = if divOk j = true then some (.int (i / j)) else none := by unfold divOk; simp only [decide_eq_true_eq]; rfl
@[simp] theorem mod_ii : binD .Mod (.int i) (.int j) = if 0 < j then some (.int (i % j)) else none := (rfl)
@[simp] theorem pow_ii : binD .Pow (.int i) (.int j) = if powOk i j = true then some (.int (i ^ j.toNat)) else none := by unfold powOk; simp only [decide_eq_true_eq]; rfl
@[simp] theorem lt_ii : cmpD .Lt (.int i) (.int j) = some (.bool (decide (i < j))) := (rfl)
@[simp] theorem le_ii : cmpD .LtE (.int i) (.int j) = some (.bool (decide (i ≤ j))) := (rfl)
@[simp] theorem gt_ii : cmpD .Gt (.int i) (.int j) = some (.bool (decide (j < i))) := (rfl)
@[simp] theorem ge_ii : cmpD .GtE (.int i) (.int j) = some (.bool (decide (j ≤ i))) := (rfl)
@[simp] theorem not_b : notD (.bool b) = some (.bool (!b)) := (rfl)
@[simp] theorem neg_i : negD (.int i) = some (.int (-i)) := (rfl)
@[simp] theorem intD_i : intD (.int i) = some i := (rfl)
@[simp] theorem int_i : Bi.fn .int [.int i] = some (.int i) := (rfl)
@[simp] theorem int_b : Bi.fn .int [.bool b] = some (.int (if b then 1 else 0)) := (rfl)
@[simp] theorem abs_i : Bi.fn .abs [.int i] = some (.int (if i < 0 then -i else i)) := (rfl)
@[simp] theorem len_l : Bi.fn .len [.list xs] = some (.int xs.length) := (rfl)
@[simp] theorem len_t : Bi.fn .len [.tuple xs] = some (.int xs.length) := (rfl)
@[simp] theorem list_l : Bi.fn .list [.list xs] = some (.list xs) := (rfl)
@[simp] theorem list_t : Bi.fn .list [.tuple xs] = some (.list xs) := (rfl)
@[simp] theorem tuple_l : Bi.fn .tuple [.list xs] = some (.tuple xs) := (rfl)
@[simp] theorem tuple_t : Bi.fn .tuple [.tuple xs] = some (.tuple xs) := (rfl)
@[simp] theorem idx_l : idxD (.list xs) (.int i) = atI xs i := (rfl)
@[simp] theorem idx_t : idxD (.tuple xs) (.int i) = atI xs i := (rfl)
@[simp] theorem items_l : itemsD (.list xs) = some xs := (rfl)
@[simp] theorem items_t : itemsD (.tuple xs) = some xs := (rfl)
@[simp] theorem all_bs {bs : List Bool} : Bi.fn .all [.list (bs.map .bool)] = some (.bool (bs.all id)) := by show (boolsOf _).map _ = _; rw [boolsOf_map]; rfl
@[simp] theorem any_bs {bs : List Bool} : Bi.fn .any [.list (bs.map .bool)] = some (.bool (bs.any id)) := by show (boolsOf _).map _ = _; rw [boolsOf_map]; rfl
@[simp] theorem sum_l {ns : List Int} : Bi.fn .sum [.list (ns.map .int)] = some (.int ns.sum) := by show (intsOf _).map _ = _; rw [intsOf_map]; rfl
@[simp] theorem sum_t {ns : List Int} : Bi.fn .sum [.tuple (ns.map .int)] = some (.int ns.sum) := by show (intsOf _).map _ = _; rw [intsOf_map]; rfl
end
@[simp] theorem sz_0 : (0 : Nat) ≤ sizeLine := by decide
@[simp] theorem sz_1 : (1 : Nat) ≤ sizeLine := by decide
@[simp] theorem sz_2 : (2 : Nat) ≤ sizeLine := by decide
@[simp] theorem sz_3 : (3 : Nat) ≤ sizeLine := by decide
@[simp] theorem sz_4 : (4 : Nat) ≤ sizeLine := by decide
@[simp] theorem sz_5 : (5 : Nat) ≤ sizeLine := by decide
@[simp] theorem sz_6 : (6 : Nat) ≤ sizeLine := by decide
@[simp] theorem sz_7 : (7 : Nat) ≤ sizeLine := by decide
@[simp] theorem sz_8 : (8 : Nat) ≤ sizeLine := by decide
@[simp] theorem sz_9 : (9 : Nat) ≤ sizeLine := by decide
@[simp] theorem sz_10 : (10 : Nat) ≤ sizeLine := by decide
@[simp] theorem sz_11 : (11 : Nat) ≤ sizeLine := by decide
@[simp] theorem sz_12 : (12 : Nat) ≤ sizeLine := by decide
end Ev

/-! Ev, part X: the drawing of numbers. -/
namespace Ev
open PySem L2
def takeD : Df := ⟨Str.ofString "_law_take", 2, [Str.ofString "pot", Str.ofString "upto", Str.ofString "prime", Str.ofString "mixture", Str.ofString "digit"], true, false,
  [(.sif [] (.cmp .Gt (.potr 0) (.lit (.int 0)))
   [(.asg [] 4 (.bin .Mod (.bi .int (.cons (.potr 0) .nil)) (.var 1))),
    (.potw 0 [] (.bin .FloorDiv (.potr 0) (.var 1))),
    (.ret [4] (.var 4))]
   []),
    (.potw 2 [] (.bin .Add (.potr 2) (.lit (.int 1)))),
    (.asg [] 2 (.idx (.lst (.cons (.lit (.int 2147483647)) (.cons (.lit (.int 2147483629)) (.cons (.lit (.int 2147483587)) (.cons (.lit (.int 2147483579)) (.cons (.lit (.int 2147483563)) .nil)))))) (.bin .Mod (.bi .int (.cons (.potr 2) .nil)) (.lit (.int 5))))),
    (.asg [] 3 (.bin .Mod (.bi .int (.cons (.bin .Pow (.bi .int (.cons (.bin .Add (.bin .Add (.potr 1) (.bin .Mult (.bin .Mult (.lit (.int 95257)) (.potr 2)) (.potr 2))) (.lit (.int 3163))) .nil)) (.lit (.int 3))) .nil)) (.var 2))),
    (.asg [] 3 (.bin .Mod (.bi .int (.cons (.bin .Mult (.var 3) (.bin .Add (.bin .Mod (.bi .int (.cons (.var 3) .nil)) (.lit (.int 13441))) (.bin .Mult (.lit (.int 419)) (.potr 2)))) .nil)) (.lit (.int 2305843009213693907)))),
    (.ret [] (.bin .Mod (.bi .int (.cons (.bin .FloorDiv (.var 3) (.lit (.int 229))) .nil)) (.var 1)))]⟩
def primes : List Dt := [.int 2147483647, .int 2147483629, .int 2147483587, .int 2147483579, .int 2147483563]
theorem prime_at (m : Int) : ∃ q : Int, atI primes (m % 5) = some (.int q) ∧ 0 < q ∧ q < 2 ^ 31 := by
  have : m % 5 = 0 ∨ m % 5 = 1 ∨ m % 5 = 2 ∨ m % 5 = 3 ∨ m % 5 = 4 := by omega
  rcases this with h | h | h | h | h <;> rw [h]
  · exact ⟨2147483647, rfl, by decide, by decide⟩
  · exact ⟨2147483629, rfl, by decide, by decide⟩
  · exact ⟨2147483587, rfl, by decide, by decide⟩
  · exact ⟨2147483579, rfl, by decide, by decide⟩
  · exact ⟨2147483563, rfl, by decide, by decide⟩
theorem take_pos {cs : List (Str × Dt)} {n : Int} {p : Pt} (hn : 0 < n) (hl : divOk n = true) (h0 : 0 < p.1) : (takeD.fn [] cs).den [.int n] p = some (.int (p.1 % n), (p.1 / n, p.2.1, p.2.2)) := by
  rw [den_ob]
  simp [takeD, h0, hn, hl, gate, ckS, initE, psOf, vw, Sl.view, isG, ptAt, ptSet, okLen]
theorem take_neg {cs : List (Str × Dt)} {n : Int} {p : Pt} (hn : 0 < n) (h0 : ¬ 0 < p.1) (h1 : 0 ≤ p.2.1) (h2 : p.2.1 < 2 ^ 62) (h3 : 0 ≤ p.2.2) (h4 : p.2.2 < 2 ^ 40) :
    ∃ r, (takeD.fn [] cs).den [.int n] p = some (.int r, (p.1, p.2.1, p.2.2 + 1)) ∧ 0 ≤ r ∧ r < n := by
  obtain ⟨q, e, q1, q2⟩ := prime_at (p.2.2 + 1)
  unfold primes at e
  generalize hm : p.2.2 + 1 = m at e
  have m1 : 1 ≤ m := by omega
  have m2 : m ≤ 2 ^ 40 := by omega
  have l1 : m.natAbs.log2 ≤ 41 := ilg 41 (by omega) (by omega)
  have b1 : 0 ≤ 95257 * m := by omega
  have b2 : 95257 * m ≤ 2 ^ 57 := by omega
  have l2 : (95257 * m).natAbs.log2 ≤ 58 := ilg 58 (by omega) (by omega)
  have b3 : 0 ≤ 95257 * m * m := Int.mul_nonneg b1 (by omega)
  have b4 : 95257 * m * m ≤ 2 ^ 57 * 2 ^ 40 := Int.mul_le_mul b2 m2 (by omega) (by decide)
  have l3 : (p.2.1 + 95257 * m * m + 3163).natAbs.log2 ≤ 98 := ilg 98 (by omega) (by omega)
  generalize hA : (p.2.1 + 95257 * m * m + 3163) = A at l3
  have c3 : ((A.natAbs.log2 + 1 : Nat) : Int) * 3 ≤ 2 ^ 27 := by omega
  generalize hB : A ^ 3 % q = B
  have n1 : 0 ≤ B := by subst hB; exact Int.emod_nonneg _ (by omega)
  have n2 : B < 2 ^ 31 := by subst hB; exact Int.lt_trans (Int.emod_lt_of_pos _ q1) q2
  have l5 : B.natAbs.log2 ≤ 32 := ilg 32 (by omega) (by omega)
  have d1 : 0 ≤ 419 * m := by omega
  have d2 : 419 * m ≤ 2 ^ 50 := by omega
  have d3 : 0 ≤ B % 13441 := Int.emod_nonneg _ (by decide)
  have d4 : B % 13441 < 13441 := Int.emod_lt_of_pos _ (by decide)
  have l6 : (B % 13441 + 419 * m).natAbs.log2 ≤ 52 := ilg 52 (by omega) (by omega)
  refine ⟨B * (B % 13441 + 419 * m) % 2305843009213693907 / 229 % n, ?_, Int.emod_nonneg _ (by omega), Int.emod_lt_of_pos _ hn⟩
  rw [den_ob]
  have w1 : mulOk 95257 m = true := mul_ok 17 41 (by decide) (by decide) (by omega) (by omega) (by decide)
  have w2 : mulOk (95257 * m) m = true := mul_ok 58 41 (by omega) (by omega) (by omega) (by omega) (by decide)
  have w3 : mulOk 419 m = true := mul_ok 9 41 (by decide) (by decide) (by omega) (by omega) (by decide)
  have w4 : mulOk B (B % 13441 + 419 * m) = true := mul_ok 31 52 (by omega) (by omega) (by omega) (by omega) (by decide)
  have w5 : divOk 229 = true := div_ok 8 (by decide) (by decide) (by decide)
  have w6 : powOk A 3 = true := decide_eq_true ⟨by decide, c3⟩
  have hC : (0 : Int) < 2305843009213693907 := by decide
  unfold takeD
  generalize (2305843009213693907 : Int) = C at hC ⊢
  simp [gate, ckS, initE, psOf, h0, vw, Sl.view, ptAt, ptSet, okLen, hm, e, w1, w2, w3, w4, w5, w6, hA, q1, hB, hn, hC]
/-- the pot is as it should be, and k draws are left -/
def Gp (k : Nat) (p : Pt) : Prop := 0 ≤ p.1 ∧ 0 ≤ p.2.1 ∧ p.2.1 < 2 ^ 62 ∧ 0 ≤ p.2.2 ∧ p.2.2 + k ≤ 2 ^ 40
theorem Gp.less {j k : Nat} {p : Pt} (g : Gp k p) (h : j ≤ k) : Gp j p := ⟨g.1, g.2.1, g.2.2.1, g.2.2.2.1, by have := g.2.2.2.2; omega⟩
theorem take_ok {cs : List (Str × Dt)} {n : Int} {p : Pt} {k : Nat} (hn : 0 < n) (hl : divOk n = true) (g : Gp (k + 1) p) :
    ∃ r q, (takeD.fn [] cs).den [.int n] p = some (.int r, q) ∧ 0 ≤ r ∧ r < n ∧ Gp k q := by
  obtain ⟨g1, g2, g3, g4, g5⟩ := g
  by_cases h0 : 0 < p.1
  · exact ⟨_, _, take_pos hn hl h0, Int.emod_nonneg _ (by omega), Int.emod_lt_of_pos _ hn, Int.ediv_nonneg g1 (by omega), g2, g3, g4, by show p.2.2 + (k : Int) ≤ _; omega⟩
  · obtain ⟨r, e, h1, h2⟩ := take_neg (cs := cs) hn h0 g2 g3 g4 (by omega)
    exact ⟨r, _, e, h1, h2, g1, g2, g3, by show 0 ≤ p.2.2 + 1; omega, by show p.2.2 + 1 + (k : Int) ≤ _; omega⟩
end Ev
namespace Ev
open PySem L2
section
variable {fs : List FnI} {cs : List (Str × Dt)} {ps : Option Nat} {env : En} {p q : Pt}
@[simp] theorem evR_seq {a : IE} : evR fs cs ps (.seq a) env p = ob (ev fs cs ps a env p) fun r => ob (itemsD r.1) fun ds => some (ds, r.2) := by
  rw [evR]; unfold sSeq; simp only [bnd_ob, ofO_ob]
@[simp] theorem evR_enum {a : IE} : evR fs cs ps (.enum a) env p = ob (ev fs cs ps a env p) fun r => ob (itemsD r.1) fun ds => some (enumD ds, r.2) := by
  rw [evR]; unfold sEnum; simp only [bnd_ob, ofO_ob]
  congr 1; funext r; cases itemsD r.1 <;> rfl
@[simp] theorem evR_zip {a b : IE} : evR fs cs ps (.zip2 a b) env p = ob (ev fs cs ps a env p) fun r => ob (ev fs cs ps b env r.2) fun s => ob (itemsD r.1) fun ds => ob (itemsD s.1) fun es => some (zip2D ds es, s.2) := by
  rw [evR]; unfold sZip2; simp only [bnd_ob, ofO_ob]
  congr 1; funext r; congr 1; funext s; cases itemsD r.1 <;> cases itemsD s.1 <;> rfl
/-- a comprehension without a condition, drawing nothing -/
theorem lc_map {α : Type} {src : IR} {t : Tg} {vs : List Nat} {elt : IE} (enc g : α → Dt) (xs : List α) (hs : evR fs cs ps src env p = some (xs.map enc, q)) (hl : xs.length ≤ sizeLine)
    (h : ∀ x ∈ xs, ∃ env', bindD ps t (enc x) (wipeD env vs) = some env' ∧ ∀ p, ev fs cs ps elt env' p = some (g x, p)) :
    ev fs cs ps (.lc src t vs (.lit (.bool true)) elt) env p = some (.list (xs.map g), q) := by
  rw [ev, ev]
  exact dLc_all enc g xs hs hl h
theorem lc_filter {α : Type} {src : IR} {t : Tg} {vs : List Nat} {cond elt : IE} (enc : α → Dt) (c : α → Bool) (g : α → Dt) (xs : List α) (hs : evR fs cs ps src env p = some (xs.map enc, q)) (hl : xs.length ≤ sizeLine)
    (h : ∀ x ∈ xs, ∃ env', bindD ps t (enc x) (wipeD env vs) = some env' ∧ ∀ p, ev fs cs ps cond env' p = some (.bool (c x), p) ∧ (c x = true → ev fs cs ps elt env' p = some (g x, p))) :
    ev fs cs ps (.lc src t vs cond elt) env p = some (.list ((xs.filter c).map g), q) := by
  rw [ev]
  exact dLc_pure enc c g xs hs hl h
/-- a loop -/
@[simp] theorem st_for' {S : List Nat} {src : IR} {t : Tg} {b : List IS} {E : SEn} : evS' fs cs ps (.sfor S src t b) E p = gate (ckS S E) (ob (evR fs cs ps src (vw E) p) fun r => forF ps t (evSs fs cs ps b) r.1 E r.2) := by
  rw [evS']; unfold sFor gate; rw [bnd_ob]; split <;> rfl
end
end Ev
namespace Ev
open PySem L2
theorem flatL_ints : ∀ xs : List Int, flatL (xs.map .int) = true
  | [] => by rw [List.map_nil, flatL]
  | x :: xs => by rw [List.map_cons, flatL, flatL_ints xs, flat]; rfl
theorem sortOk_ints (xs : List Int) : sortOk (xs.map .int) = true := by
  unfold sortOk alikeB
  simp [flatL_ints, othB, PySem.W.alike, PyData.depth]
/-- ascending -/
def isort (xs : List Int) : List Int := xs.mergeSort fun a b => decide (a ≤ b)
@[simp] theorem sorted_t {xs : List Int} : Bi.fn .sorted [.tuple (xs.map .int)] = some (.list ((isort xs).map .int)) := by
  show (sortD _).map _ = _
  unfold sortD isort
  rw [if_pos (sortOk_ints xs), map_sort_int]; rfl
@[simp] theorem sorted_l {xs : List Int} : Bi.fn .sorted [.list (xs.map .int)] = some (.list ((isort xs).map .int)) := by
  show (sortD _).map _ = _
  unfold sortD isort
  rw [if_pos (sortOk_ints xs), map_sort_int]; rfl
theorem isort_len {xs : List Int} : (isort xs).length = xs.length := List.length_mergeSort _
theorem isort_perm (xs : List Int) : (isort xs).Perm xs := List.mergeSort_perm _ _
theorem isort_sorted (xs : List Int) : (isort xs).Pairwise (· ≤ ·) := by
  have := List.pairwise_mergeSort (le := fun a b : Int => decide (a ≤ b)) (by intro a b c; simp; omega) (by intro a b; simp; omega) xs
  exact this.imp fun h => by simpa using h
/-- a place in a row of ints -/
theorem atI_map {xs : List Int} {i : Int} {x : Int} (h0 : 0 ≤ i) (h : xs[i.toNat]? = some x) : atI (xs.map PyData.int) i = some (.int x) := by
  obtain ⟨j, rfl⟩ : ∃ j : Nat, i = j := ⟨i.toNat, by omega⟩
  exact atI_nat (by rw [List.getElem?_map]; simpa using h)
end Ev
namespace Ev
open PySem L2
theorem cut_to {α : Type} (xs : List α) (k : Nat) : cutD xs none (some (k : Int)) = xs.take k := by
  unfold cutD
  rw [HT.sIx_none, HT.sIx_nat, List.drop_zero, Nat.sub_zero]
  by_cases h : k ≤ xs.length
  · rw [Nat.min_eq_left h]
  · rw [Nat.min_eq_right (by omega), List.take_of_length_le (Nat.le_refl _), List.take_of_length_le (by omega)]
theorem cut_from {α : Type} (xs : List α) (k : Nat) : cutD xs (some (k : Int)) none = xs.drop k := by
  unfold cutD
  rw [HT.sIx_none, HT.sIx_nat]
  by_cases h : k ≤ xs.length
  · rw [Nat.min_eq_left h, List.take_of_length_le (by rw [List.length_drop]; omega)]
  · rw [Nat.min_eq_right (by omega), Nat.sub_self, List.take_zero, List.drop_of_length_le (by omega)]
@[simp] theorem slc_t {ds : List Dt} {a b : Option Int} : slcD (.tuple ds) a b = some (.tuple (cutD ds a b)) := (rfl)
@[simp] theorem slc_l {ds : List Dt} {a b : Option Int} : slcD (.list ds) a b = some (.list (cutD ds a b)) := (rfl)
theorem cut_to_i {α : Type} (xs : List α) (k : Int) (h : 0 ≤ k) : cutD xs none (some k) = xs.take k.toNat := by
  have := cut_to xs k.toNat
  rwa [Int.toNat_of_nonneg h] at this
theorem cut_from_i {α : Type} (xs : List α) (k : Int) (h : 0 ≤ k) : cutD xs (some k) none = xs.drop k.toNat := by
  have := cut_from xs k.toNat
  rwa [Int.toNat_of_nonneg h] at this
end Ev
namespace Ev
open PySem L2
/-- a loop that looks for the first element that makes it return -/
theorem forF_search {α : Type} {ps : Option Nat} {t : Tg} {body : Sn} (enc : α → Dt) (I : SEn → Prop) (f : α → Option Dt) : ∀ xs : List α,
    (∀ x ∈ xs, ∀ E p, I E → ∃ E1, bindS ps t (enc x) E = some E1 ∧ ((f x = none ∧ ∃ E2, body E1 p = some (.nx E2, p) ∧ I E2) ∨ ∃ d, f x = some d ∧ body E1 p = some (.rt d, p))) →
    ∀ E p, I E → (xs.findSome? f = none ∧ ∃ E2, forF ps t body (xs.map enc) E p = some (.nx E2, p) ∧ I E2) ∨ ∃ d, xs.findSome? f = some d ∧ forF ps t body (xs.map enc) E p = some (.rt d, p)
  | [], _, E, p, i => .inl ⟨rfl, E, rfl, i⟩
  | x :: xs, h, E, p, i => by
    obtain ⟨E1, e1, h1⟩ := h x (.head _) E p i
    rw [List.map_cons, forF, bnd_at (show Mo.ofO (bindS ps t (enc x) E) p = some (E1, p) by rw [e1]; rfl)]
    rcases h1 with ⟨h1, E2, e2, i2⟩ | ⟨d, h1, e2⟩
    · rw [bnd_at e2, List.findSome?_cons, h1]
      exact forF_search enc I f xs (fun y hy => h y (.tail _ hy)) E2 p i2
    · rw [bnd_at e2, List.findSome?_cons, h1]
      exact .inr ⟨d, rfl, rfl⟩
theorem enumD_map {xs : List Int} : enumD (xs.map .int) = xs.zipIdx.map fun q => .tuple [.int (q.2 : Nat), .int q.1] := by
  unfold enumD
  rw [List.zipIdx_map, List.map_map]
  rfl
end Ev
namespace Ev
open PySem L2
theorem eqv_ii (i j : Int) : PyData.eqv (.int i) (.int j) = decide (i = j) := by
  by_cases h : i = j <;> simp [PyData.eqv, h]
@[simp] theorem ne_ii {i j : Int} : cmpD .NotEq (.int i) (.int j) = some (.bool (!decide (i = j))) := by
  show neD (.int i) (.int j) = _
  unfold neD
  rw [if_pos ⟨rfl, rfl⟩, eqv_ii]
@[simp] theorem eq_ii {i j : Int} : cmpD .Eq (.int i) (.int j) = some (.bool (decide (i = j))) := by
  show eqD (.int i) (.int j) = _
  unfold eqD
  rw [if_pos ⟨rfl, rfl⟩, eqv_ii]
@[simp] theorem max_ii {i j : Int} : Bi.fn .max [.int i, .int j] = some (.int (max i j)) := by
  show some (PyData.int (if j > i then j else i)) = _
  congr 2; omega
@[simp] theorem min_ii {i j : Int} : Bi.fn .min [.int i, .int j] = some (.int (min i j)) := by
  show some (PyData.int (if j < i then j else i)) = _
  congr 2; omega
end Ev
namespace Ev
open PySem L2
theorem ob_assoc {α β γ : Type} {m : Option α} {k : α → Option β} {k' : β → Option γ} : ob (ob m k) k' = ob m fun a => ob (k a) k' := by cases m <;> rfl
theorem search_then {α β : Type} {ps : Option Nat} {t : Tg} {body : Sn} {E : SEn} {p : Pt} {k : Sg × Pt → Option β} {R : Option β} (enc : α → Dt) (I : SEn → Prop) (f : α → Option Dt) (xs : List α) (i : I E)
    (h : ∀ x ∈ xs, ∀ E p, I E → ∃ E1, bindS ps t (enc x) E = some E1 ∧ ((f x = none ∧ ∃ E2, body E1 p = some (.nx E2, p) ∧ I E2) ∨ ∃ d, f x = some d ∧ body E1 p = some (.rt d, p)))
    (hn : xs.findSome? f = none → ∀ E2, I E2 → k (.nx E2, p) = R) (hs : ∀ d, xs.findSome? f = some d → k (.rt d, p) = R) : ob (forF ps t body (xs.map enc) E p) k = R := by
  rcases forF_search enc I f xs h E p i with ⟨e, E2, e2, i2⟩ | ⟨d, e, e2⟩
  · rw [e2]; exact hn e E2 i2
  · rw [e2]; exact hs d e
end Ev

/-! Ev, part Y: what is shown of data; draws, one after the other. -/
namespace Ev
open PySem L2
/-! ### repr -/
structure Sm (h b : Nat) (d : Dt) : Prop where
  lay : d.canLay0 = true
  sho : d.showable = true
  dep : d.depth ≤ h
  lv : d.leavesShort 13 = true
  bk : d.bulk ≤ b
theorem Sm.int {i : Int} (h1 : -999999999999 ≤ i) (h2 : i ≤ 999999999999) : Sm 0 0 (.int i) := by
  refine ⟨rfl, ?_, Nat.le_refl _, ?_, Nat.le_refl _⟩
  · have := ilg (i := i) 40 (by omega) (by omega)
    simp only [PyData.showable, decide_eq_true_eq]; omega
  · simp only [PyData.leavesShort, decide_eq_true_eq]
    exact PyData.shown_int_le2 h1 h2
theorem Sm.bool {b : Bool} : Sm 0 0 (.bool b) := ⟨rfl, by simp [PyData.showable], Nat.le_refl _, by simp [PyData.leavesShort], Nat.le_refl _⟩
theorem Sm.none : Sm 0 0 .none := ⟨rfl, by simp [PyData.showable], Nat.le_refl _, by simp [PyData.leavesShort], Nat.le_refl _⟩
theorem Sm.mono {h b h' b' : Nat} {d : Dt} (s : Sm h b d) (x : h ≤ h') (y : b ≤ b') : Sm h' b' d := ⟨s.lay, s.sho, Nat.le_trans s.dep x, s.lv, Nat.le_trans s.bk y⟩
theorem sm_all {h b : Nat} : ∀ {ds : List Dt}, (∀ d ∈ ds, Sm h b d) → PyData.canLayAll0 ds = true ∧ PyData.showableAll ds = true ∧ PyData.depthAll ds ≤ h ∧ PyData.leavesShortAll 13 ds = true ∧ PyData.bulkAll ds ≤ ds.length * (b + 1)
  | [], _ => ⟨by simp [PyData.canLayAll0], by simp [PyData.showableAll], by simp [PyData.depthAll], by simp [PyData.leavesShortAll], by simp [PyData.bulkAll]⟩
  | d :: ds, hs => by
    obtain ⟨a1, a2, a3, a4, a5⟩ := hs d (.head _)
    obtain ⟨b1, b2, b3, b4, b5⟩ := sm_all fun x hx => hs x (.tail _ hx)
    refine ⟨by simp [PyData.canLayAll0, a1, b1], by simp [PyData.showableAll, a2, b2], ?_, by simp [PyData.leavesShortAll, a4, b4], ?_⟩
    · simp only [PyData.depthAll]; omega
    · simp only [PyData.bulkAll, List.length_cons, Nat.add_mul]; omega
theorem Sm.tuple {h b : Nat} {ds : List Dt} (hs : ∀ d ∈ ds, Sm h b d) : Sm (h + 1) (ds.length * (b + 1)) (.tuple ds) := by
  obtain ⟨b1, b2, b3, b4, b5⟩ := sm_all hs
  exact ⟨by simp [PyData.canLay0, b1], by simp [PyData.showable, b2], by simp only [PyData.depth]; omega, by simp [PyData.leavesShort, b4], by simp only [PyData.bulk]; exact b5⟩
theorem Sm.list {h b : Nat} {ds : List Dt} (hs : ∀ d ∈ ds, Sm h b d) : Sm (h + 1) (ds.length * (b + 1)) (.list ds) := by
  obtain ⟨b1, b2, b3, b4, b5⟩ := sm_all hs
  exact ⟨by simp [PyData.canLay0, b1], by simp [PyData.showable, b2], by simp only [PyData.depth]; omega, by simp [PyData.leavesShort, b4], by simp only [PyData.bulk]; exact b5⟩
theorem Sm.pair {h b h' b' : Nat} {x y : Dt} (s : Sm h b x) (t : Sm h' b' y) : Sm (max h h' + 1) (2 * (max b b' + 1)) (.tuple [x, y]) :=
  Sm.tuple (ds := [x, y]) fun d hd => by
    simp only [List.mem_cons, List.not_mem_nil, or_false] at hd
    rcases hd with rfl | rfl
    · exact s.mono (Nat.le_max_left ..) (Nat.le_max_left ..)
    · exact t.mono (Nat.le_max_right ..) (Nat.le_max_right ..)
theorem Sm.ints {xs : List Int} (h : ∀ x ∈ xs, -999999999999 ≤ x ∧ x ≤ 999999999999) : Sm 1 xs.length (.tuple (xs.map .int)) := by
  have := Sm.tuple (h := 0) (b := 0) (ds := xs.map PyData.int) fun d hd => by
    obtain ⟨x, hx, rfl⟩ := List.mem_map.mp hd
    exact Sm.int (h x hx).1 (h x hx).2
  simpa using this
theorem Sm.repr {h b : Nat} {d : Dt} (s : Sm h b d) (x : h ≤ 64) (y : b ≤ 2 ^ 20) : Bi.fn .repr [d] = some (.str d.shown) := by
  show reprG [d] = _
  unfold reprG
  exact if_pos ⟨s.lay, s.sho, Nat.le_trans s.dep x, PyData.shown_fits_bulk (by decide) (by decide) s.lv (Nat.le_trans s.bk y)⟩
theorem eqv_ss (x y : Str) : PyData.eqv (.str x) (.str y) = decide (x = y) := by
  by_cases h : x = y <;> simp [PyData.eqv, h]
@[simp] theorem ne_ss {x y : Str} : cmpD .NotEq (.str x) (.str y) = some (.bool (!decide (x = y))) := by
  show neD _ _ = _
  unfold neD
  split
  · rw [eqv_ss]
  · rfl
@[simp] theorem eq_ss {x y : Str} : cmpD .Eq (.str x) (.str y) = some (.bool (decide (x = y))) := by
  show eqD _ _ = _
  unfold eqD
  split
  · rw [eqv_ss]
  · rfl
end Ev
namespace Ev
open PySem L2
section
variable {fs : List FnI} {cs : List (Str × Dt)} {ps : Option Nat} {E : SEn} {env : En} {p : Pt} {a b c : IE} {S : List Nat} {s t : IS} {r : List IS}
/-! ### statements, call by value -/
@[simp] theorem st_retO' {i : Nat} : evS' fs cs ps (.retO i) E p = ob E[i]? fun x => match x with
    | .ow d => some (.rt d, p)
    | .sh d => if Still d = true then some (.rt d, p) else none
    | .no => none := by
  rw [evS']; unfold sRetO
  cases E[i]? with
  | none => rfl
  | some x => cases x with
    | no => rfl
    | ow d => rfl
    | sh d => show (if Still d = true then Mo.ret (Sg.rt d) else Mo.fail : Mo Sg) p = if Still d = true then _ else _; split <;> rfl
@[simp] theorem st_par' {i j : Nat} {b1 b2 : Bool} : evS' fs cs ps (.par S i j b1 b2 a b) E p = gate (ckS S E) (ob (ev fs cs ps a (vw E) p) fun r => ob (ev fs cs ps b (vw E) r.2) fun s => gate (decide (i < E.length ∧ ps ≠ some i ∧ j < E.length ∧ ps ≠ some j)) (some (.nx ((E.set i (slM b1 r.1)).set j (slM b2 s.1)), s.2))) := by
  rw [evS']; unfold sPar gate; simp only [bnd_ob, evS_ob]
  by_cases h : ckS S E = true
  · simp only [if_pos h, decide_eq_true_eq]
    congr 1; funext r; congr 1; funext s; split <;> rfl
  · simp only [if_neg h]; rfl
@[simp] theorem st_bind' {t : Tg} : evS' fs cs ps (.bind S t a) E p = gate (ckS S E) (ob (ev fs cs ps a (vw E) p) fun r => ob (bindS ps t r.1 E) fun E1 => some (.nx E1, r.2)) := by
  rw [evS']; unfold sBind gate; simp only [bnd_ob, evS_ob, ofO_ob]
  split
  · congr 1; funext r; cases bindS ps t r.1 E <;> rfl
  · rfl
def intAt (i : Nat) (E : SEn) : Option Int := match E[i]? with
  | some (.sh (.int x)) => some x
  | _ => none
@[simp] theorem st_aug' {o : Operator} {i : Nat} : evS' fs cs ps (.aug S o i a) E p = ob (intAt i E) fun x => gate (ckS S E) (ob (ev fs cs ps a (vw E) p) fun r => ob (intD r.1) fun y => ob (augD o x y) fun z => setS ps i (.sh (.int z)) E r.2) := by
  rw [evS']; unfold sAug intAt gate
  cases E[i]? with
  | none => rfl
  | some x => cases x with
    | no => rfl
    | ow d => rfl
    | sh d => cases d with
      | int x =>
        show Mo.bnd _ _ p = _
        simp only [bnd_ob, evS_ob, ob_some]
        split
        · congr 1; funext r; obtain ⟨d, q⟩ := r
          cases d with
          | int y =>
            show Mo.bnd _ _ q = _
            simp only [bnd_ob, ofO_ob]
            show _ = ob (augD o x y) _
            cases augD o x y <;> rfl
          | _ => rfl
        · rfl
      | _ => rfl
@[simp] theorem st_app' {i : Nat} : evS' fs cs ps (.app S i a) E p = ob (ownL i E) fun xs => gate (ckS S E) (ob (ev fs cs ps a (vw E) p) fun r => gate (decide (xs.length < sizeLine)) (some (.nx (E.set i (.ow (.list (xs ++ [r.1])))), r.2))) := by
  rw [evS']; unfold sApp gate; simp only [bnd_ob, evS_ob, ofO_ob]
  cases ownL i E with
  | none => rfl
  | some xs =>
    simp only [ob_some, decide_eq_true_eq]
    split
    · congr 1; funext r; split <;> rfl
    · rfl
def listD : Dt → Option (List Dt)
  | .list xs => some xs
  | _ => none
@[simp] theorem listD_l {xs : List Dt} : listD (.list xs) = some xs := (rfl)
@[simp] theorem st_ext' {i : Nat} : evS' fs cs ps (.ext S i a) E p = ob (ownL i E) fun xs => gate (ckS S E) (ob (ev fs cs ps a (vw E) p) fun r => ob (listD r.1) fun ys => gate (decide (xs.length + ys.length ≤ sizeLine)) (some (.nx (E.set i (.ow (.list (xs ++ ys)))), r.2))) := by
  rw [evS']; unfold sExt gate; simp only [bnd_ob, evS_ob, ofO_ob]
  cases ownL i E with
  | none => rfl
  | some xs =>
    simp only [ob_some, decide_eq_true_eq]
    split
    · congr 1; funext r; obtain ⟨d, q⟩ := r
      cases d with
      | list ys => show (if _ then _ else _ : Mo Sg) q = if _ then _ else _; split <;> rfl
      | _ => rfl
    · rfl
@[simp] theorem st_pop' {i j : Nat} : evS' fs cs ps (.pop j i) E p = ob (popD i E) fun r => setS ps j (.sh r.1) r.2 p := by
  rw [evS']; unfold sPop; simp only [bnd_ob, ofO_ob]; cases popD i E <;> rfl
@[simp] theorem st_popX' {i : Nat} : evS' fs cs ps (.popX i) E p = ob (popD i E) fun r => some (.nx r.2, p) := by
  rw [evS']; unfold sPopX; simp only [bnd_ob, ofO_ob]; cases popD i E <;> rfl
@[simp] theorem st_popAt' {i j : Nat} : evS' fs cs ps (.popAt S j i a) E p = gate (ckS S E) (ob (ev fs cs ps a (vw E) p) fun r => ob (intD r.1) fun k => ob (popAtD i k E) fun s => setS ps j (.sh s.1) s.2 r.2) := by
  rw [evS']; unfold sPopAt gate; simp only [bnd_ob, evS_ob]
  split
  · congr 1; funext r; obtain ⟨d, q⟩ := r
    cases d with
    | int k => show Mo.bnd _ _ q = _; simp only [bnd_ob, ofO_ob]; show _ = ob (popAtD i k E) _; cases popAtD i k E <;> rfl
    | _ => rfl
  · rfl
@[simp] theorem st_popAtX' {i : Nat} : evS' fs cs ps (.popAtX S i a) E p = gate (ckS S E) (ob (ev fs cs ps a (vw E) p) fun r => ob (intD r.1) fun k => ob (popAtD i k E) fun s => some (.nx s.2, r.2)) := by
  rw [evS']; unfold sPopAtX gate; simp only [bnd_ob, evS_ob]
  split
  · congr 1; funext r; obtain ⟨d, q⟩ := r
    cases d with
    | int k => show Mo.bnd _ _ q = _; simp only [bnd_ob, ofO_ob]; show _ = ob (popAtD i k E) _; cases popAtD i k E <;> rfl
    | _ => rfl
  · rfl
@[simp] theorem st_set' {i : Nat} : evS' fs cs ps (.set S i b a) E p = gate (ckS S E) (ob (ev fs cs ps a (vw E) p) fun r => ob (ev fs cs ps b (vw E) r.2) fun k => ob (ownAt i E) fun o => ob (setD o k.1 r.1) fun o' => some (.nx (E.set i (.ow o')), k.2)) := by
  rw [evS']; unfold sSet gate; simp only [bnd_ob, evS_ob, ofO_ob]
  split
  · congr 1; funext r; congr 1; funext k
    cases ownAt i E with
    | none => rfl
    | some o => show ob (ob (setD o k.1 r.1) _) _ = ob (setD o k.1 r.1) _; cases setD o k.1 r.1 <;> rfl
  · rfl
@[simp] theorem st_swp' {i : Nat} {k1 k2 : IE} : evS' fs cs ps (.swp S i k1 k2 a b) E p = gate (ckS S E) (ob (ev fs cs ps a (vw E) p) fun r => ob (ev fs cs ps b (vw E) r.2) fun s => ob (ev fs cs ps k1 (vw E) s.2) fun k => ob (ownAt i E) fun o => ob (setD o k.1 r.1) fun o1 =>
    gate (ckS S (E.set i (.ow o1))) (ob (ev fs cs ps k2 (vw (E.set i (.ow o1))) k.2) fun k' => ob (setD o1 k'.1 s.1) fun o2 => some (.nx ((E.set i (.ow o1)).set i (.ow o2)), k'.2))) := by
  rw [evS']; unfold sSwp gate; simp only [bnd_ob, evS_ob, ofO_ob]
  split
  · congr 1; funext r; congr 1; funext s; congr 1; funext k
    cases ownAt i E with
    | none => rfl
    | some o =>
      show ob (ob (setD o k.1 r.1) _) _ = ob (setD o k.1 r.1) _
      cases setD o k.1 r.1 with
      | none => rfl
      | some o1 =>
        simp only [ob_some]
        split
        · congr 1; funext k'
          cases setD o1 k'.1 s.1 <;> rfl
        · rfl
  · rfl
@[simp] theorem st_wh' {n : Nat} {b : List IS} : evS' fs cs ps (.swh n S c b) E p = whF S (ev fs cs ps c) (evSs fs cs ps b) n E p := by rw [evS']; rfl
def whX (f : Sn) : Sg × Pt → Option (Sg × Pt)
  | (.nx E, p) => f E p
  | (.ct E, p) => f E p
  | (.br E, p) => some (.nx E, p)
  | (.rt d, p) => some (.rt d, p)
@[simp] theorem whX_nx {f : Sn} : whX f (.nx E, p) = f E p := (rfl)
@[simp] theorem whX_ct {f : Sn} : whX f (.ct E, p) = f E p := (rfl)
@[simp] theorem whX_br {f : Sn} : whX f (.br E, p) = some (.nx E, p) := (rfl)
@[simp] theorem whX_rt {f : Sn} {d : Dt} : whX f (.rt d, p) = some (.rt d, p) := (rfl)
theorem whF_ob {n : Nat} {h : Dn} {body : Sn} : whF S h body (n + 1) E p = gate (ckS S E) (ob (h (vw E) p) (iteF (fun q => ob (body E q) (whX (whF S h body n))) (fun q => some (.nx E, q)))) := by
  unfold whF gate; simp only [bnd_ob, evS_ob]
  split
  · congr 1; funext r; obtain ⟨d, q⟩ := r
    cases d with
    | bool b =>
      cases b with
      | false => rfl
      | true =>
        show Mo.bnd _ _ q = ob (body E q) _
        rw [bnd_ob]; congr 1; funext r; obtain ⟨g, q⟩ := r; cases g <;> rfl
    | _ => rfl
  · rfl
theorem forF_ob {t : Tg} {body : Sn} {d : Dt} {ds : List Dt} : forF ps t body (d :: ds) E p = ob (bindS ps t d E) fun E1 => ob (body E1 p) (whX (forF ps t body ds)) := by
  rw [forF]; simp only [bnd_ob, ofO_ob]
  cases bindS ps t d E with
  | none => rfl
  | some E1 =>
    simp only [ob_some]
    congr 1; funext r; obtain ⟨g, q⟩ := r; cases g <;> rfl
theorem forF_nil {t : Tg} {body : Sn} : forF ps t body [] E p = some (.nx E, p) := rfl
/-! ### ranges -/
def rg1D : Dt → Option (List Dt)
  | .int j => if inRg j = true then some (rngD 0 j.toNat) else none
  | _ => none
def rg2D : Dt → Dt → Option (List Dt)
  | .int i, .int j => if inRg i = true ∧ inRg j = true then some (rngD i (j - i).toNat) else none
  | _, _ => none
def rg3D : Dt → Dt → Dt → Option (List Dt)
  | .int i, .int j, .int c => rg3 i j c
  | _, _, _ => none
@[simp] theorem evR_r1 : evR fs cs ps (.rng1 a) env p = ob (ev fs cs ps a env p) fun r => ob (rg1D r.1) fun ds => some (ds, r.2) := by
  rw [evR]; unfold sRng1; simp only [bnd_ob]; congr 1; funext r; obtain ⟨d, q⟩ := r
  cases d with
  | int j => show (if inRg j = true then _ else _ : Mo (List Dt)) q = ob (if inRg j = true then _ else _) _; split <;> rfl
  | _ => rfl
@[simp] theorem evR_r2 : evR fs cs ps (.rng2 a b) env p = ob (ev fs cs ps a env p) fun r => ob (ev fs cs ps b env r.2) fun s => ob (rg2D r.1 s.1) fun ds => some (ds, s.2) := by
  rw [evR]; unfold sRng2; simp only [bnd_ob]; congr 1; funext r; congr 1; funext s; obtain ⟨d, q⟩ := r; obtain ⟨d', q'⟩ := s
  cases d with
  | int i => cases d' with
    | int j => show (if inRg i = true ∧ inRg j = true then _ else _ : Mo (List Dt)) q' = ob (if inRg i = true ∧ inRg j = true then _ else _) _; split <;> rfl
    | _ => rfl
  | _ => cases d' <;> rfl
@[simp] theorem evR_r3 : evR fs cs ps (.rng3 a b c) env p = ob (ev fs cs ps a env p) fun r => ob (ev fs cs ps b env r.2) fun s => ob (ev fs cs ps c env s.2) fun t => ob (rg3D r.1 s.1 t.1) fun ds => some (ds, t.2) := by
  rw [evR]; unfold sRng3; simp only [bnd_ob]; congr 1; funext r; congr 1; funext s; congr 1; funext t; obtain ⟨d, q⟩ := r; obtain ⟨d', q'⟩ := s; obtain ⟨d'', q''⟩ := t
  cases d <;> cases d' <;> cases d'' <;> first | rfl | exact ofO_ob
theorem rg1_i {j : Int} (h : -(2 ^ 62) ≤ j ∧ j < 2 ^ 62) : rg1D (.int j) = some (rngD 0 j.toNat) := if_pos (decide_eq_true h)
theorem rg2_i {i j : Int} (h1 : -(2 ^ 62) ≤ i ∧ i < 2 ^ 62) (h : -(2 ^ 62) ≤ j ∧ j < 2 ^ 62) : rg2D (.int i) (.int j) = some (rngD i (j - i).toNat) := if_pos ⟨decide_eq_true h1, decide_eq_true h⟩
@[simp] theorem sforP' {S S1 : List Nat} {src : IR} {t : Tg} {i : Nat} {l : List IS} : evS' fs cs ps (.sforP S src t S1 i a l) E p = gate (ckS S E) (ob (evR fs cs ps src (vw E) p) fun r => forF ps t (sPotIn i S1 (ev fs cs none a) (evSs fs cs (some i) l)) r.1 E r.2) := by
  rw [evS']; unfold sFor gate; simp only [bnd_ob]; split <;> rfl
theorem potIn_ob {i : Nat} {h : Dn} {f : Sn} : sPotIn i S h f E p = gate (ckS S E) (ob (h (vw E) p) fun r => ob (pot3 r.1) fun q => gate (decide (i < E.length)) (ob (f (E.set i .no) q) fun s => some (s.1, r.2))) := by
  unfold sPotIn gate; simp only [bnd_ob, evS_ob, ofO_ob]
  split
  · congr 1; funext r
    cases pot3 r.1 with
    | none => rfl
    | some q =>
      simp only [ob_some, decide_eq_true_eq]
      split
      · show (f _ _).map _ = ob (f _ _) _; cases f (E.set i .no) q <;> rfl
      · rfl
  · rfl
end
end Ev

/-! Ev, part Z: draws, one after the other. -/
namespace Ev
open PySem L2
/-- it ends, with a result of which φ holds, and j draws are left -/
def Ends {α : Type} (o : Option (α × Pt)) (j : Nat) (φ : α → Prop) : Prop := ∃ a q, o = some (a, q) ∧ φ a ∧ Gp j q
theorem Ends.ret {α : Type} {a : α} {p : Pt} {j : Nat} {φ : α → Prop} (g : Gp j p) (h : φ a) : Ends (some (a, p)) j φ := ⟨a, p, rfl, h, g⟩
theorem Ends.of_eq {α : Type} {o : Option (α × Pt)} {a : α} {p : Pt} {j : Nat} {φ : α → Prop} (e : o = some (a, p)) (g : Gp j p) (h : φ a) : Ends o j φ := ⟨a, p, e, h, g⟩
theorem Ends.mono {α : Type} {o : Option (α × Pt)} {i j : Nat} {φ ψ : α → Prop} (e : Ends o i φ) (hj : j ≤ i) (h : ∀ a, φ a → ψ a) : Ends o j ψ := by
  obtain ⟨a, q, e, x, g⟩ := e
  exact ⟨a, q, e, h a x, g.less hj⟩
theorem Ends.ob {α β : Type} {o : Option (α × Pt)} {K : α × Pt → Option (β × Pt)} {i j : Nat} {φ : α → Prop} {ψ : β → Prop} (e : Ends o i φ) (k : ∀ a q, φ a → Gp i q → Ends (K (a, q)) j ψ) : Ends (ob o K) j ψ := by
  obtain ⟨a, q, rfl, x, g⟩ := e
  exact k a q x g
/-- a def that draws at most k -/
def Draws (F : FnI) (args : List Dt) (k : Nat) (φ : Dt → Prop) : Prop := ∀ j p, Gp (j + k) p → Ends (appD F args p) j φ
theorem Draws.ob {β : Type} {F : FnI} {args : List Dt} {k : Nat} {φ : Dt → Prop} {J j : Nat} {p : Pt} {K : Dt × Pt → Option (β × Pt)} {ψ : β → Prop} (d : Draws F args k φ) (g : Gp J p) (i : Nat) (hJ : i + k = J)
    (h : ∀ a q, φ a → Gp i q → Ends (K (a, q)) j ψ) : Ends (Ev.ob (appD F args p) K) j ψ := by
  subst hJ
  exact (d i p g).ob h
theorem take_draws {cs : List (Str × Dt)} {n : Int} (hn : 0 < n) (hl : n < 2 ^ 2000) : Draws (takeD.fn [] cs) [.int n] 1 (fun d => ∃ r, d = .int r ∧ 0 ≤ r ∧ r < n) := fun j p g => by
  obtain ⟨r, q, e, h1, h2, g'⟩ := take_ok (cs := cs) (n := n) (p := p) (k := j) hn (div_ok 2000 hn hl (by decide)) g
  exact ⟨.int r, q, by rw [app_pot rfl]; exact e, ⟨r, rfl, h1, h2⟩, g'⟩
def ofDf : Df := ⟨Str.ofString "_law_of", 2, [Str.ofString "pot", Str.ofString "some"], true, false,
  [(.ret [] (.idx (.var 1) (.callp 0 (.cons (.bi .len (.cons (.var 1) .nil)) .nil))))]⟩
theorem of_lt {n : Nat} (h : n ≤ sizeLine) : (n : Int) < 2 ^ 2000 := by
  have e : sizeLine = 2 ^ 24 := rfl
  have : (n : Int) ≤ 2 ^ 24 := by rw [e] at h; omega
  exact Int.lt_of_le_of_lt this (by decide +kernel)
theorem of_draws {cs : List (Str × Dt)} {ds : List Dt} (h0 : ds ≠ []) (hl : ds.length ≤ sizeLine) : Draws (ofDf.fn [takeD.fn [] cs] cs) [.list ds] 1 (· ∈ ds) := fun j p g => by
  have h1 : 1 ≤ ds.length := List.length_pos_iff.mpr h0
  obtain ⟨d, q, e, ⟨r, rfl, h1, h2⟩, g'⟩ := take_draws (cs := cs) (n := (ds.length : Int)) (by omega) (of_lt hl) j p g
  obtain ⟨k, rfl⟩ : ∃ k : Nat, r = k := ⟨r.toNat, by omega⟩
  have hk : k < ds.length := by omega
  have e2 : atI ds (k : Int) = some ds[k] := atI_nat (List.getElem?_eq_getElem hk)
  refine ⟨ds[k], q, ?_, List.getElem_mem hk, g'⟩
  rw [app_pot rfl, den_ob]
  simp [ofDf, gate, ckS, initE, psOf, vw, Sl.view, e, e2]
theorem of_draws_t {cs : List (Str × Dt)} {ds : List Dt} (h0 : ds ≠ []) (hl : ds.length ≤ sizeLine) : Draws (ofDf.fn [takeD.fn [] cs] cs) [.tuple ds] 1 (· ∈ ds) := fun j p g => by
  have h1 : 1 ≤ ds.length := List.length_pos_iff.mpr h0
  obtain ⟨d, q, e, ⟨r, rfl, h1, h2⟩, g'⟩ := take_draws (cs := cs) (n := (ds.length : Int)) (by omega) (of_lt hl) j p g
  obtain ⟨k, rfl⟩ : ∃ k : Nat, r = k := ⟨r.toNat, by omega⟩
  have hk : k < ds.length := by omega
  have e2 : atI ds (k : Int) = some ds[k] := atI_nat (List.getElem?_eq_getElem hk)
  refine ⟨ds[k], q, ?_, List.getElem_mem hk, g'⟩
  rw [app_pot rfl, den_ob]
  simp [ofDf, gate, ckS, initE, psOf, vw, Sl.view, e, e2]
/-- a loop that draws -/
theorem for_dr {ps : Option Nat} {t : Tg} {body : Sn} (I : Nat → SEn → Prop) (c : Nat) : ∀ (ds : List Dt) (n : Nat),
    (∀ i d E p j, ds[i]? = some d → I (n + i) E → Gp (j + c) p → ∃ E1, bindS ps t d E = some E1 ∧ Ends (body E1 p) j (fun r => ∃ E2, (r = .nx E2 ∨ r = .ct E2) ∧ I (n + i + 1) E2)) →
    ∀ E p j, I n E → Gp (j + ds.length * c) p → Ends (forF ps t body ds E p) j (fun r => ∃ E2, r = .nx E2 ∧ I (n + ds.length) E2)
  | [], n, _, E, p, j, i, g => by rw [forF_nil]; exact .ret (by simpa using g) ⟨E, rfl, i⟩
  | d :: ds, n, h, E, p, j, i, g => by
    obtain ⟨E1, e1, x⟩ := h 0 d E p (j + ds.length * c) rfl i (by rw [List.length_cons, Nat.add_mul, Nat.one_mul, ← Nat.add_assoc] at g; exact g)
    rw [forF_ob, e1]
    refine x.ob fun r q ⟨E2, hr, i2⟩ g2 => ?_
    have hh := for_dr I c ds (n + 1) (fun i d E p j hd => by
      have := h (i + 1) d E p j (by simpa using hd)
      have e : n + (i + 1) = n + 1 + i := by omega
      rw [e] at this
      exact this) E2 q j i2 g2
    have e : n + (d :: ds).length = n + 1 + ds.length := by rw [List.length_cons]; omega
    rw [e]
    rcases hr with rfl | rfl
    · exact hh
    · exact hh
/-- on with the loop -/
def Nx (I : SEn → Prop) (r : Sg) : Prop := ∃ E2, (r = .nx E2 ∨ r = .ct E2) ∧ I E2
theorem Nx.nx {I : SEn → Prop} {E : SEn} (h : I E) : Nx I (.nx E) := ⟨E, .inl rfl, h⟩
theorem Nx.ct {I : SEn → Prop} {E : SEn} (h : I E) : Nx I (.ct E) := ⟨E, .inr rfl, h⟩
theorem for_dr0 {ps : Option Nat} {t : Tg} {body : Sn} (I : Nat → SEn → Prop) (c : Nat) (ds : List Dt)
    (h : ∀ i d E p j, ds[i]? = some d → I i E → Gp (j + c) p → ∃ E1, bindS ps t d E = some E1 ∧ Ends (body E1 p) j (Nx (I (i + 1)))) {E : SEn} {p : Pt} {j : Nat} (hI : I 0 E) (g : Gp (j + ds.length * c) p) :
    Ends (forF ps t body ds E p) j (fun r => ∃ E2, r = .nx E2 ∧ I ds.length E2) := by
  have := for_dr (ps := ps) (t := t) (body := body) I c ds 0 (fun i d E p j hd hi g => by
    rw [Nat.zero_add] at hi ⊢
    exact h i d E p j hd hi g) E p j hI g
  rwa [Nat.zero_add] at this
/-- a loop that draws, ahead of the rest -/
theorem for_then {β : Type} {ps : Option Nat} {t : Tg} {body : Sn} {K : Sg × Pt → Option (β × Pt)} {ψ : β → Prop} {E : SEn} {p : Pt} {J j : Nat} (I : Nat → SEn → Prop) (c : Nat) (ds : List Dt) (g : Gp J p) (i : Nat) (hJ : i + ds.length * c ≤ J) (hI : I 0 E)
    (h : ∀ i d E p j, ds[i]? = some d → I i E → Gp (j + c) p → ∃ E1, bindS ps t d E = some E1 ∧ Ends (body E1 p) j (Nx (I (i + 1))))
    (hk : ∀ E q, I ds.length E → Gp i q → Ends (K (.nx E, q)) j ψ) : Ends (Ev.ob (forF ps t body ds E p) K) j ψ :=
  (for_dr0 I c ds h hI (g.less hJ)).ob fun r q ⟨E2, hr, hI⟩ g => by subst hr; exact hk E2 q hI g
/-- a comprehension that draws -/
theorem lc_dr {ps : Option Nat} {fs : List FnI} {cs : List (Str × Dt)} {src : IR} {t : Tg} {vs : List Nat} {elt : IE} {env : En} {p q : Pt} {ds : List Dt} {j : Nat} (φ : Dt → Dt → Prop) (c : Nat) (hs : evR fs cs ps src env p = some (ds, q)) (hl : ds.length ≤ sizeLine) (g : Gp (j + ds.length * c) q)
    (h : ∀ d ∈ ds, ∃ env', bindD ps t d (wipeD env vs) = some env' ∧ ∀ p j, Gp (j + c) p → Ends (ev fs cs ps elt env' p) j (φ d)) :
    Ends (ev fs cs ps (.lc src t vs (.lit (.bool true)) elt) env p) j (fun d => ∃ es, d = .list es ∧ es.length = ds.length ∧ ∀ e ∈ es, ∃ d ∈ ds, φ d e) := by
  rw [ev, ev]
  unfold dLc
  rw [bnd_at hs]
  show Ends ((if ds.length ≤ sizeLine then _ else _ : Mo Dt) q) j _
  rw [if_pos hl, bnd_ob]
  suffices H : ∀ ds : List Dt, (∀ d ∈ ds, ∃ env', bindD ps t d (wipeD env vs) = some env' ∧ ∀ p j, Gp (j + c) p → Ends (ev fs cs ps elt env' p) j (φ d)) → ∀ q, Gp (j + ds.length * c) q →
      Ends (lcF ps t vs (dLit (.bool true)) (ev fs cs ps elt) env ds q) j (fun es => es.length = ds.length ∧ ∀ e ∈ es, ∃ d ∈ ds, φ d e) from
    (H ds h q g).ob fun es q hh g => .ret g ⟨es, rfl, hh⟩
  intro ds
  induction ds with
  | nil => exact fun _ q g => .ret (by simpa using g) ⟨rfl, fun e h => nomatch h⟩
  | cons d ds ih =>
    intro h q g
    obtain ⟨env', e1, x⟩ := h d (.head _)
    unfold lcF
    rw [bnd_at (show Mo.ofO (bindD ps t d (wipeD env vs)) q = some (env', q) by rw [e1]; rfl), bnd_at (show dLit (.bool true) env' q = some (.bool true, q) from rfl)]
    show Ends (Mo.bnd (ev fs cs ps elt env') _ q) j _
    rw [bnd_ob]
    refine (x q (j + ds.length * c) (by rw [List.length_cons, Nat.add_mul, Nat.one_mul, ← Nat.add_assoc] at g; exact g)).ob fun e q he g => ?_
    rw [bnd_ob]
    refine (ih (fun d hd => h d (.tail _ hd)) q g).ob fun es q ⟨h1, h2⟩ g => .ret g ⟨by rw [List.length_cons, List.length_cons, h1], fun e' he' => ?_⟩
    rcases List.mem_cons.mp he' with rfl | he'
    · exact ⟨d, .head _, he⟩
    · obtain ⟨d', hd, hp⟩ := h2 e' he'
      exact ⟨d', .tail _ hd, hp⟩
end Ev

/-! Ev, part Za: the cells of a script, the pot of a cell, the loop over the cells. -/
namespace Ev
open PySem L2
def cellsDf : Df := ⟨Str.ofString "_law_cells", 2, [Str.ofString "script", Str.ofString "most"], false, true,
  [(.ret [] (.lrg1 false (.bi .max (.cons (.lit (.int 1)) (.cons (.bi .min (.cons (.var 1) (.cons (.bi .len (.cons (.var 0) .nil)) .nil))) .nil)))))]⟩
def potDf : Df := ⟨Str.ofString "_law_pot", 2, [Str.ofString "script", Str.ofString "place", Str.ofString "cell", Str.ofString "own", Str.ofString "small"], false, true,
  [(.asg [] 2 (.ite (.cmp .Lt (.var 1) (.bi .len (.cons (.var 0) .nil))) (.idx (.var 0) (.var 1)) (.bin .Add (.bin .Add (.bin .Mod (.bi .int (.cons (.bi .sum (.cons (.slc (.var 0) .no (.yes (.lit (.int 1)))) .nil)) .nil)) (.lit (.int 1000211))) (.bin .Mult (.lit (.int 4639)) (.var 1))) (.lit (.int 3163))))),
    (.asg [] 3 (.bin .Mult (.bin .Mod (.bi .int (.cons (.bi .abs (.cons (.var 2) .nil)) .nil)) (.bin .Pow (.bin .Pow (.lit (.int 10)) (.lit (.int 60))) (.lit (.int 5)))) (.bi .int (.cons (.cmp .GtE (.bi .abs (.cons (.var 2) .nil)) (.bin .Pow (.lit (.int 10)) (.lit (.int 18)))) .nil)))),
    (.asg [] 4 (.bin .Mod (.bi .int (.cons (.var 2) .nil)) (.lit (.int 2305843009213693951)))),
    (.ret [3] (.lst (.cons (.var 3) (.cons (.bin .Mod (.bi .int (.cons (.bin .Add (.bin .Add (.bin .Mult (.var 4) (.lit (.int 72161))) (.bin .Mult (.bin .Mult (.lit (.int 10853)) (.var 1)) (.var 1))) (.lit (.int 2843))) .nil)) (.lit (.int 2305843009213693921))) (.cons (.lit (.int 0)) .nil)))))]⟩
theorem cells_ok {cs : List (Str × Dt)} {ns : List Int} {k : Nat} (hn : ns.length ≤ 63) (h1 : 1 ≤ k) (h2 : k ≤ 63) : ∃ m : Nat, m ≤ 63 ∧ ∀ pt, (cellsDf.fn [] cs).den [.list (ns.map .int), .int k] pt = some (.list ((List.range m).map fun i => .int (i : Nat)), pt) := by
  refine ⟨(max 1 (min k ns.length)), by omega, fun pt => ?_⟩
  rw [den_ob]
  have e : lrgX false (.int 0) (.int (max 1 (min (k : Int) ns.length))) = some (.list ((List.range (max 1 (min k ns.length))).map fun i => .int (i : Nat))) := by
    show lrgD false 0 _ = _
    unfold lrgD
    have e2 : (max 1 (min (k : Int) ns.length) - 0).toNat = max 1 (min k ns.length) := by omega
    rw [if_pos (by rw [e2]; omega), e2]
    simp [rngD]
  simp [cellsDf, gate, ckS, initE, psOf, vw, Sl.view, e]
theorem pot_ok {cs : List (Str × Dt)} {ns : List Int} {k : Nat} (hn : ns.length ≤ 63) (h2 : k ≤ 63) : ∃ q : Pt, (∀ pt, (potDf.fn [] cs).den [.list (ns.map .int), .int k] pt = some (.list [.int q.1, .int q.2.1, .int q.2.2], pt)) ∧ Gp (2 ^ 39) q := by
  obtain ⟨cell, hc⟩ : ∃ cell : Int, ∀ p, ev [] cs none (.ite (.cmp .Lt (.var 1) (.bi .len (.cons (.var 0) .nil))) (.idx (.var 0) (.var 1)) (.bin .Add (.bin .Add (.bin .Mod (.bi .int (.cons (.bi .sum (.cons (.slc (.var 0) .no (.yes (.lit (.int 1)))) .nil)) .nil)) (.lit (.int 1000211))) (.bin .Mult (.lit (.int 4639)) (.var 1))) (.lit (.int 3163)))) [some (.list (ns.map .int)), some (.int k), none, none, none] p = some (.int cell, p) := by
    by_cases h : k < ns.length
    · refine ⟨ns[k], fun p => ?_⟩
      have e : atI (ns.map PyData.int) (k : Int) = some (.int ns[k]) := atI_nat (by simp [h])
      simp [h, e]
    · have e : cutD (ns.map PyData.int) none (some 1) = (ns.take 1).map .int := by
        have := cut_to (ns.map PyData.int) 1
        rw [List.map_take]; exact this
      have m1 : mulOk 4639 k = true := mul_ok 13 7 (by decide) (by decide) (by omega) (by omega) (by decide)
      exact ⟨_, fun p => by simp [h, e, m1, -List.map_take]; rfl⟩
  have hs1 : 0 ≤ cell % 2305843009213693951 := Int.emod_nonneg _ (by decide)
  have hs2 : cell % 2305843009213693951 < 2305843009213693951 := Int.emod_lt_of_pos _ (by decide)
  have ha : (0 : Int) < 10 ^ 300 := Int.pow_pos (by decide)
  obtain ⟨ab, hab⟩ : ∃ ab : Int, ab = if cell < 0 then -cell else cell := ⟨_, rfl⟩
  have hb1 : 0 ≤ ab % 10 ^ 300 := Int.emod_nonneg _ (by omega)
  have hb2 : ab % 10 ^ 300 < 10 ^ 300 := Int.emod_lt_of_pos _ ha
  obtain ⟨bb, hbb⟩ : ∃ bb : Int, bb = if 1000000000000000000 ≤ ab then 1 else 0 := ⟨_, rfl⟩
  have hb3 : bb = 0 ∨ bb = 1 := by rw [hbb]; split <;> simp
  have m0 : mulOk (ab % 10 ^ 300) bb = true := mul_ok 1000 2 (by omega) (Int.lt_trans hb2 (by decide +kernel)) (by omega) (by omega) (by decide)
  have m2 : mulOk (cell % 2305843009213693951) 72161 = true := mul_ok 62 17 (by omega) (by omega) (by decide) (by decide) (by decide)
  have m3 : mulOk 10853 k = true := mul_ok 14 7 (by decide) (by decide) (by omega) (by omega) (by decide)
  have m4 : mulOk (10853 * k) k = true := mul_ok 21 7 (by omega) (by omega) (by omega) (by omega) (by decide)
  have w1 : powOk 10 60 = true := by decide +kernel
  have w2 : powOk (10 ^ 60) 5 = true := by decide +kernel
  have w3 : powOk 10 18 = true := by decide +kernel
  have e3 : ((10 : Int) ^ 60) ^ 5 = 10 ^ 300 := by decide +kernel
  have e4 : (10 : Int) ^ 18 = 1000000000000000000 := by decide +kernel
  have e5 : Int.toNat 60 = 60 := rfl
  have e6 : Int.toNat 5 = 5 := rfl
  have e7 : Int.toNat 18 = 18 := rfl
  refine ⟨(ab % 10 ^ 300 * bb, (cell % 2305843009213693951 * 72161 + 10853 * k * k + 2843) % 2305843009213693921, 0), fun pt => ?_, ?_, ?_, ?_, Int.le_refl 0, by show (0 : Int) + _ ≤ _; decide⟩
  · rw [den_ob]
    generalize hT : (10 : Int) ^ 300 = T at e3 ha m0
    generalize hU : (10 : Int) ^ 60 = U at w2 e3
    subst hbb; subst hab
    simp [potDf, hc, gate, ckS, psOf, initE, vw, Sl.view, hU, hT, e3, e4, e5, e6, e7, w1, w2, w3, ha, m0, m2, m3, m4, okLen]
  · show 0 ≤ ab % 10 ^ 300 * bb
    rcases hb3 with e | e <;> rw [e] <;> omega
  · exact Int.emod_nonneg _ (by decide)
  · exact Int.lt_trans (Int.emod_lt_of_pos _ (by decide)) (by decide)
end Ev

/-! Ev, part Zb: loops that draw nothing; small rules. -/
namespace Ev
open PySem L2
theorem for_pure' {ps : Option Nat} {t : Tg} {body : Sn} (I : Nat → SEn → Prop) : ∀ (ds : List Dt) (n : Nat),
    (∀ i d E p, ds[i]? = some d → I (n + i) E → ∃ E1, bindS ps t d E = some E1 ∧ ∃ r, body E1 p = some (r, p) ∧ Nx (I (n + i + 1)) r) →
    ∀ E p, I n E → ∃ E2, forF ps t body ds E p = some (.nx E2, p) ∧ I (n + ds.length) E2
  | [], n, _, E, p, i => ⟨E, forF_nil, i⟩
  | d :: ds, n, h, E, p, i => by
    obtain ⟨E1, e1, r, e2, E2, hr, i2⟩ := h 0 d E p rfl i
    rw [forF_ob, e1]
    have hh := for_pure' (ps := ps) (t := t) (body := body) I ds (n + 1) (fun i d E p hd => by
      have := h (i + 1) d E p (by simpa using hd)
      have e : n + (i + 1) = n + 1 + i := by omega
      rw [e] at this
      exact this) E2 p i2
    have e : n + (d :: ds).length = n + 1 + ds.length := by rw [List.length_cons]; omega
    rw [e]
    simp only [ob_some, e2]
    rcases hr with rfl | rfl
    · exact hh
    · exact hh
theorem for_pure {ps : Option Nat} {t : Tg} {body : Sn} (I : Nat → SEn → Prop) (ds : List Dt) {E : SEn} {p : Pt} (hI : I 0 E)
    (h : ∀ i d E p, ds[i]? = some d → I i E → ∃ E1, bindS ps t d E = some E1 ∧ ∃ r, body E1 p = some (r, p) ∧ Nx (I (i + 1)) r) :
    ∃ E2, forF ps t body ds E p = some (.nx E2, p) ∧ I ds.length E2 := by
  have := for_pure' (ps := ps) (t := t) (body := body) I ds 0 (fun i d E p hd hi => by rw [Nat.zero_add] at hi ⊢; exact h i d E p hd hi) E p hI
  rwa [Nat.zero_add] at this
/-- ahead of the rest -/
theorem for_pE {β : Type} {ps : Option Nat} {t : Tg} {body : Sn} {K : Sg × Pt → Option (β × Pt)} {ψ : β → Prop} {E : SEn} {p : Pt} {j : Nat} (I : Nat → SEn → Prop) (ds : List Dt) (hI : I 0 E)
    (h : ∀ i d E p, ds[i]? = some d → I i E → ∃ E1, bindS ps t d E = some E1 ∧ ∃ r, body E1 p = some (r, p) ∧ Nx (I (i + 1)) r)
    (hk : ∀ E, I ds.length E → Ends (K (.nx E, p)) j ψ) : Ends (Ev.ob (forF ps t body ds E p) K) j ψ := by
  obtain ⟨E2, e, hI⟩ := for_pure I ds (p := p) hI h
  rw [e]; exact hk E2 hI
theorem for_pq {β : Type} {ps : Option Nat} {t : Tg} {body : Sn} {K : Sg × Pt → Option β} {R : Option β} {E : SEn} {p : Pt} (I : Nat → SEn → Prop) (ds : List Dt) (hI : I 0 E)
    (h : ∀ i d E p, ds[i]? = some d → I i E → ∃ E1, bindS ps t d E = some E1 ∧ ∃ r, body E1 p = some (r, p) ∧ Nx (I (i + 1)) r)
    (hk : ∀ E, I ds.length E → K (.nx E, p) = R) : Ev.ob (forF ps t body ds E p) K = R := by
  obtain ⟨E2, e, hI⟩ := for_pure I ds (p := p) hI h
  rw [e]; exact hk E2 hI
@[simp] theorem add_tt {xs ys : List Dt} : binD .Add (.tuple xs) (.tuple ys) = if xs.length + ys.length ≤ sizeLine then some (.tuple (xs ++ ys)) else none := (rfl)
@[simp] theorem add_ll {xs ys : List Dt} : binD .Add (.list xs) (.list ys) = if xs.length + ys.length ≤ sizeLine then some (.list (xs ++ ys)) else none := (rfl)
@[simp] theorem isb {b : Bool} : isG "bool" (.bool b) = true := (rfl)
@[simp] theorem isb_i {i : Int} : isG "bool" (.int i) = false := (rfl)
@[simp] theorem isi_i {i : Int} : isG "int" (.int i) = true := (rfl)
@[simp] theorem ist_t {xs : List Dt} : isG "tuple" (.tuple xs) = true := (rfl)
theorem eqv_bb (a b : Bool) : PyData.eqv (.bool a) (.bool b) = decide (a = b) := by
  cases a <;> cases b <;> simp [PyData.eqv]
@[simp] theorem eq_bb {a b : Bool} : cmpD .Eq (.bool a) (.bool b) = some (.bool (decide (a = b))) := by
  show eqD _ _ = _
  unfold eqD
  rw [if_pos ⟨rfl, rfl⟩, eqv_bb]
@[simp] theorem ne_bb {a b : Bool} : cmpD .NotEq (.bool a) (.bool b) = some (.bool (!decide (a = b))) := by
  show neD _ _ = _
  unfold neD
  rw [if_pos ⟨rfl, rfl⟩, eqv_bb]
@[simp] theorem is_bb {a b : Bool} : cmpD .Is (.bool a) (.bool b) = some (.bool (decide (a = b))) := (rfl)
@[simp] theorem isnt_bb {a b : Bool} : cmpD .IsNot (.bool a) (.bool b) = some (.bool (!decide (a = b))) := (rfl)
@[simp] theorem ob_asc {α β γ : Type} {m : Option α} {k : α → Option β} {k' : β → Option γ} : ob (ob m k) k' = ob m fun a => ob (k a) k' := ob_assoc
@[simp] theorem slN_l {xs : List Dt} : slN (.list xs) = .ow (.list xs) := (rfl)
@[simp] theorem slN_d {xs : List (Dt × Dt)} : slN (.dict xs) = .ow (.dict xs) := (rfl)
@[simp] theorem slN_t {xs : List Dt} : slN (.tuple xs) = .sh (.tuple xs) := (rfl)
@[simp] theorem slN_i {i : Int} : slN (.int i) = .sh (.int i) := (rfl)
@[simp] theorem slN_b {b : Bool} : slN (.bool b) = .sh (.bool b) := (rfl)
@[simp] theorem slN_s {x : Str} : slN (.str x) = .sh (.str x) := (rfl)
@[simp] theorem slN_n : slN .none = .sh .none := (rfl)
@[simp] theorem slM_t {d : Dt} : slM true d = slN d := (rfl)
@[simp] theorem slM_f {d : Dt} : slM false d = .sh d := (rfl)
@[simp] theorem vw_nil : vw [] = [] := (rfl)
@[simp] theorem vw_cons {s : Sl} {E : SEn} : vw (s :: E) = s.view :: vw E := (rfl)
@[simp] theorem view_no : Sl.view .no = none := (rfl)
@[simp] theorem view_sh {d : Dt} : Sl.view (.sh d) = some d := (rfl)
@[simp] theorem view_ow {d : Dt} : Sl.view (.ow d) = some d := (rfl)
def okAt : Option Sl → Bool
  | some (.ow _) => false
  | _ => true
@[simp] theorem okAt_no : okAt (some .no) = true := (rfl)
@[simp] theorem okAt_sh {d : Dt} : okAt (some (.sh d)) = true := (rfl)
@[simp] theorem okAt_ow {d : Dt} : okAt (some (.ow d)) = false := (rfl)
@[simp] theorem ckS_nil {E : SEn} : ckS [] E = true := (rfl)
@[simp] theorem ckS_cons {i : Nat} {S : List Nat} {E : SEn} : ckS (i :: S) E = (okAt E[i]? && ckS S E) := (rfl)
@[simp] theorem okLen_at {n : Nat} (h : n ≤ 4000) : okLen n = true := decide_eq_true (Nat.le_trans h (by decide))
@[simp] theorem szl {n : Nat} (h : n ≤ 4000) : n < sizeLine := Nat.lt_of_le_of_lt h (by decide)
@[simp] theorem szl' {n : Nat} (h : n ≤ 4000) : n ≤ sizeLine := Nat.le_of_lt (szl h)
theorem flat_any {bs : List Bool} : boolsOf (bs.map PyData.bool) = some bs := boolsOf_map bs
theorem rngD_get {lo : Int} {n i : Nat} (h : i < n) : (rngD lo n)[i]? = some (.int (lo + (i : Nat))) := by simp [rngD, h]
theorem rngD_len {lo : Int} {n : Nat} : (rngD lo n).length = n := by simp [rngD]
theorem rngD_at {lo : Int} {n i : Nat} {d : Dt} (h : (rngD lo n)[i]? = some d) : i < n ∧ d = .int (lo + (i : Nat)) := by
  have hi : i < n := by
    have := (List.getElem?_eq_some_iff.mp h).1
    rwa [rngD_len] at this
  rw [rngD_get hi] at h
  exact ⟨hi, (Option.some.inj h).symm⟩
theorem enumD_at {ds : List Dt} {i : Nat} {d : Dt} (h : (enumD ds)[i]? = some d) : ∃ x, ds[i]? = some x ∧ d = .tuple [.int (i : Nat), x] := by
  unfold enumD at h
  rw [List.getElem?_map, List.getElem?_zipIdx] at h
  cases e : ds[i]? with
  | none => rw [e] at h; cases h
  | some x => rw [e] at h; cases h; exact ⟨x, rfl, by simp⟩
theorem enumD_len {ds : List Dt} : (enumD ds).length = ds.length := by simp [enumD]
/-- the loop over the cells: each with its pot, never returning -/
theorem cells_loop {fs : List FnI} {cs : List (Str × Dt)} {n : Nat} {ns : List Int} {b : List IS} {t : Tg} {i : Nat} {S : List Nat} {a : IE} (I : SEn → Prop) (m : Nat) (hm : m ≤ 63)
    (h : ∀ (k : Nat) E (p : Pt), k ≤ 63 → I E → ∃ E1, bindS none t (.int k) E = some E1 ∧ ∃ q : Pt, Gp (2 ^ 39) q ∧ sPotIn i S (ev fs cs none a) (evSs fs cs (some i) b) E1 p = ob (evSs fs cs (some i) b (E1.set i .no) q) (fun s => some (s.1, p)) ∧ Ends (evSs fs cs (some i) b (E1.set i .no) q) 0 (Nx I)) :
    ∀ E p, I E → ∃ E2, forF none t (sPotIn i S (ev fs cs none a) (evSs fs cs (some i) b)) ((List.range m).map fun i => .int (i : Nat)) E p = some (.nx E2, p) ∧ I E2 := by
  intro E p hI
  have := for_pure (ps := none) (t := t) (body := sPotIn i S (ev fs cs none a) (evSs fs cs (some i) b)) (fun _ E => I E) ((List.range m).map fun i => .int (i : Nat)) (p := p) hI (fun j d E p hd hI => by
    have hj : j < m := by have := (List.getElem?_eq_some_iff.mp hd).1; simpa using this
    have hd2 : d = .int (j : Nat) := by
      have : ((List.range m).map fun i => PyData.int (i : Nat))[j]? = some (.int (j : Nat)) := by simp [hj]
      rw [this] at hd; exact (Option.some.inj hd).symm
    subst hd2
    obtain ⟨E1, e1, q, g, e2, r, q2, e3, hN, _⟩ := h j E p (by omega) hI
    exact ⟨E1, e1, r, by rw [e2, e3]; rfl, hN⟩)
  exact this
end Ev

/-! Ev, part Zc: pairs of ints in their order; ranks. -/
namespace Ev
open PySem L2
def leP (p q : Int × Int) : Prop := p.1 < q.1 ∨ (p.1 = q.1 ∧ p.2 ≤ q.2)
def ltP (p q : Int × Int) : Prop := p.1 < q.1 ∨ (p.1 = q.1 ∧ p.2 < q.2)
instance (p q : Int × Int) : Decidable (leP p q) := by unfold leP; infer_instance
instance (p q : Int × Int) : Decidable (ltP p q) := by unfold ltP; infer_instance
def encP (p : Int × Int) : Dt := .tuple [.int p.1, .int p.2]
def psort (ps : List (Int × Int)) : List (Int × Int) := ps.mergeSort fun p q => decide (leP p q)
theorem leP_anti {p q : Int × Int} (h : leP p q) (h2 : leP q p) : p = q := by
  unfold leP at h h2
  obtain ⟨a, b⟩ := p; obtain ⟨c, d⟩ := q
  simp only at h h2
  congr <;> omega
theorem ltP_of {p q : Int × Int} (h : leP p q) (n : p ≠ q) : ltP p q := by
  obtain ⟨a, b⟩ := p; obtain ⟨c, d⟩ := q
  unfold leP at h; unfold ltP
  simp only at h ⊢
  have : ¬ (a = c ∧ b = d) := fun e => n (by rw [e.1, e.2])
  omega
theorem ltP_le {p q : Int × Int} (h : ltP p q) : leP p q := by unfold ltP at h; unfold leP; omega
theorem ltP_trans {p q r : Int × Int} (h : ltP p q) (h2 : ltP q r) : ltP p r := by unfold ltP at *; omega
theorem ltP_irr {p : Int × Int} : ¬ ltP p p := by unfold ltP; omega
theorem ltP_total {p q : Int × Int} : ltP p q ∨ p = q ∨ ltP q p := by
  by_cases e : p = q
  · exact .inr (.inl e)
  · by_cases h : leP p q
    · exact .inl (ltP_of h e)
    · refine .inr (.inr (ltP_of ?_ fun z => e z.symm))
      unfold leP at *; omega
theorem psort_perm (ps : List (Int × Int)) : (psort ps).Perm ps := List.mergeSort_perm _ _
theorem psort_len {ps : List (Int × Int)} : (psort ps).length = ps.length := List.length_mergeSort _
theorem psort_sorted (ps : List (Int × Int)) : (psort ps).Pairwise leP := by
  have := List.pairwise_mergeSort (le := fun p q : Int × Int => decide (leP p q)) (by intro a b c; simp only [decide_eq_true_eq]; unfold leP; omega) (by intro a b; simp only [Bool.or_eq_true, decide_eq_true_eq]; unfold leP; omega) ps
  exact this.imp fun h => by simpa using h
theorem psort_eq {ps l : List (Int × Int)} (h : l.Pairwise leP) (p : l.Perm ps) : psort ps = l :=
  List.Perm.eq_of_pairwise (le := leP) (fun a b _ _ x y => leP_anti x y) (psort_sorted ps) h ((psort_perm ps).trans p.symm)
theorem isort_eq {xs l : List Int} (h : l.Pairwise (· ≤ ·)) (p : l.Perm xs) : isort xs = l :=
  List.Perm.eq_of_pairwise (le := (· ≤ ·)) (fun a b _ _ x y => Int.le_antisymm x y) (isort_sorted xs) h ((isort_perm xs).trans p.symm)
theorem psort_strict {ps : List (Int × Int)} (h : ps.Nodup) : (psort ps).Pairwise ltP := by
  have n : (psort ps).Nodup := (psort_perm ps).nodup_iff.mpr h
  exact List.Pairwise.imp₂ (fun a b x y => ltP_of x y) (psort_sorted ps) n
theorem flatL_pairs : ∀ ps : List (Int × Int), flatL (ps.map encP) = true
  | [] => by rw [List.map_nil, flatL]
  | p :: ps => by rw [List.map_cons, flatL, flatL_pairs ps]; rfl
theorem sortOk_pairs (ps : List (Int × Int)) : sortOk (ps.map encP) = true := by
  unfold sortOk alikeB
  simp [flatL_pairs, tupB, encP, PySem.W.alike, PySem.W.alikeAll, PyData.depth, PyData.depthAll]
theorem map_sort_pair (ps : List (Int × Int)) : (ps.map encP).mergeSort (PySem.W.dataLe false id) = (psort ps).map encP := by
  have q := PySem.W.dataLe_ii (fun p : Int × Int => p.1) (fun p => p.2)
  refine (List.map_mergeSort fun a _ b _ => ?_).symm
  show decide (leP a b) = PySem.W.dataLe false id (encP a) (encP b)
  have := congrFun (congrFun q a) b
  refine Eq.trans ?_ (this.symm.trans ?_)
  · rfl
  · rfl
@[simp] theorem sorted_pl {ps : List (Int × Int)} : Bi.fn .sorted [.list (ps.map encP)] = some (.list ((psort ps).map encP)) := by
  show (sortD _).map _ = _
  unfold sortD
  rw [if_pos (sortOk_pairs ps), map_sort_pair]; rfl
@[simp] theorem sorted_pt {ps : List (Int × Int)} : Bi.fn .sorted [.tuple (ps.map encP)] = some (.list ((psort ps).map encP)) := by
  show (sortD _).map _ = _
  unfold sortD
  rw [if_pos (sortOk_pairs ps), map_sort_pair]; rfl
/-! ranks in a strictly sorted row -/
section
variable {α : Type} {lt : α → α → Prop} [DecidableRel lt] (irr : ∀ a, ¬ lt a a) (tr : ∀ a b c, lt a b → lt b c → lt a c) {L : List α} (h : L.Pairwise lt)
include irr tr h
theorem rank_at {i : Nat} (hi : i < L.length) : L.countP (fun x => decide (lt x L[i])) = i := by
  have e : L.countP (fun x => decide (lt x L[i])) = (L.take i).countP (fun x => decide (lt x L[i])) + (L.drop i).countP (fun x => decide (lt x L[i])) := by
    rw [← List.countP_append, List.take_append_drop]
  have e1 : (L.take i).countP (fun x => decide (lt x L[i])) = i := by
    rw [List.countP_eq_length.mpr, List.length_take, Nat.min_eq_left (Nat.le_of_lt hi)]
    intro x hx
    obtain ⟨j, hj, rfl⟩ := List.getElem_of_mem hx
    rw [List.length_take] at hj
    rw [List.getElem_take]
    exact decide_eq_true (List.pairwise_iff_getElem.mp h j i (by omega) hi (by omega))
  have e2 : (L.drop i).countP (fun x => decide (lt x L[i])) = 0 := by
    rw [List.countP_eq_zero]
    intro x hx
    obtain ⟨j, hj, rfl⟩ := List.getElem_of_mem hx
    rw [List.length_drop] at hj
    rw [List.getElem_drop]
    simp only [decide_eq_true_eq]
    intro z
    by_cases hj0 : j = 0
    · subst hj0; exact irr _ z
    · exact irr _ (tr _ _ _ z (List.pairwise_iff_getElem.mp h i (i + j) hi (by omega) (by omega)))
  omega
theorem take_rank (t : Nat) : L.take t = L.filter fun x => decide (L.countP (fun y => decide (lt y x)) < t) := by
  have e : ∀ x ∈ L.take t, decide (L.countP (fun y => decide (lt y x)) < t) = true := fun x hx => by
    obtain ⟨j, hj, rfl⟩ := List.getElem_of_mem hx
    rw [List.length_take] at hj
    rw [List.getElem_take, rank_at irr tr h (by omega)]
    exact decide_eq_true (by omega)
  have e2 : ∀ x ∈ L.drop t, ¬ decide (L.countP (fun y => decide (lt y x)) < t) = true := fun x hx => by
    obtain ⟨j, hj, rfl⟩ := List.getElem_of_mem hx
    rw [List.length_drop] at hj
    rw [List.getElem_drop, rank_at irr tr h (by omega)]
    simp
  have e3 : L.filter (fun x => decide (L.countP (fun y => decide (lt y x)) < t)) = (L.take t).filter (fun x => decide (L.countP (fun y => decide (lt y x)) < t)) ++ (L.drop t).filter (fun x => decide (L.countP (fun y => decide (lt y x)) < t)) := by
    rw [← List.filter_append, List.take_append_drop]
  rw [e3, List.filter_eq_self.mpr e, List.filter_eq_nil_iff.mpr e2, List.append_nil]
theorem at_rank (t : Nat) : (L[t]?).toList = L.filter fun x => decide (L.countP (fun y => decide (lt y x)) = t) := by
  by_cases ht : t < L.length
  · have e3 : L.filter (fun x => decide (L.countP (fun y => decide (lt y x)) = t)) = (L.take t).filter (fun x => decide (L.countP (fun y => decide (lt y x)) = t)) ++ (L.drop t).filter (fun x => decide (L.countP (fun y => decide (lt y x)) = t)) := by
      rw [← List.filter_append, List.take_append_drop]
    have e1 : ∀ x ∈ L.take t, ¬ decide (L.countP (fun y => decide (lt y x)) = t) = true := fun x hx => by
      obtain ⟨j, hj, rfl⟩ := List.getElem_of_mem hx
      rw [List.length_take] at hj
      rw [List.getElem_take, rank_at irr tr h (by omega)]
      simp; omega
    have e2 : ∀ x ∈ L.drop (t + 1), ¬ decide (L.countP (fun y => decide (lt y x)) = t) = true := fun x hx => by
      obtain ⟨j, hj, rfl⟩ := List.getElem_of_mem hx
      rw [List.length_drop] at hj
      rw [List.getElem_drop, rank_at irr tr h (by omega)]
      simp; omega
    rw [e3, List.filter_eq_nil_iff.mpr e1, List.nil_append, List.drop_eq_getElem_cons ht, List.filter_cons_of_pos (by rw [rank_at irr tr h ht]; simp), List.filter_eq_nil_iff.mpr e2, List.getElem?_eq_getElem ht]
    rfl
  · rw [List.getElem?_eq_none (by omega)]
    symm
    rw [Option.toList_none, List.filter_eq_nil_iff]
    intro x hx
    obtain ⟨j, hj, rfl⟩ := List.getElem_of_mem hx
    rw [rank_at irr tr h hj]
    simp; omega
end
end Ev

/-! Ev, part Zd: more rules of reading. -/
namespace Ev
open PySem L2
section
variable {p : Pt} {c d : Bool} {P : Prop} [Decidable P]
@[simp] theorem band_ite : (if P then some (PyData.bool c, p) else some (PyData.bool false, p)) = some (.bool (decide P && c), p) := by by_cases h : P <;> simp [h]
@[simp] theorem bor_ite : (if P then some (PyData.bool true, p) else some (PyData.bool c, p)) = some (.bool (decide P || c), p) := by by_cases h : P <;> simp [h]
@[simp] theorem int_ite {i j : Int} : (if P then some (PyData.int i, p) else some (PyData.int j, p)) = some (.int (if P then i else j), p) := by by_cases h : P <;> simp [h]
end
section
variable {ps : Option Nat} {d : Dt} {ds : List Dt} {l : List Tg} {t : Tg} {env : En} {E : SEn} {i : Nat}
@[simp] theorem bindD_nm : bindD ps (.nm i) d env = if i < env.length ∧ ps ≠ some i then some (env.set i (some d)) else none := by rw [bindD]
@[simp] theorem bindD_tp : bindD ps (.tp l) (.tuple ds) env = Ev.bindL ps l ds env := by rw [bindD]
@[simp] theorem bindD_tl : bindD ps (.tp l) (.list ds) env = Ev.bindL ps l ds env := by rw [bindD]
@[simp] theorem bindL_nil : Ev.bindL ps [] [] env = some env := by rw [Ev.bindL]
@[simp] theorem bindL_cons : Ev.bindL ps (t :: l) (d :: ds) env = (bindD ps t d env).bind (Ev.bindL ps l ds) := by rw [Ev.bindL]
@[simp] theorem bindS_nm : bindS ps (.nm i) d E = if i < E.length ∧ ps ≠ some i then some (E.set i (.sh d)) else none := by rw [bindS]
@[simp] theorem bindS_tp : bindS ps (.tp l) (.tuple ds) E = bindSL ps l ds E := by rw [bindS]
@[simp] theorem bindS_tl : bindS ps (.tp l) (.list ds) E = bindSL ps l ds E := by rw [bindS]
@[simp] theorem bindSL_nil : bindSL ps [] [] E = some E := by rw [bindSL]
@[simp] theorem bindSL_cons : bindSL ps (t :: l) (d :: ds) E = (bindS ps t d E).bind (bindSL ps l ds) := by rw [bindSL]
@[simp] theorem wipeD_nil : wipeD env [] = env := (rfl)
@[simp] theorem wipeD_cons {v : Nat} {vs : List Nat} : wipeD env (v :: vs) = (wipeD env vs).set v none := (rfl)
end
@[simp] theorem at_0 {x : Dt} {l : List Dt} : atI (x :: l) 0 = some x := atI_nat (j := 0) rfl
@[simp] theorem at_1 {x y : Dt} {l : List Dt} : atI (x :: y :: l) 1 = some y := atI_nat (j := 1) rfl
@[simp] theorem at_2 {x y z : Dt} {l : List Dt} : atI (x :: y :: z :: l) 2 = some z := atI_nat (j := 2) rfl
@[simp] theorem at_3 {x y z w : Dt} {l : List Dt} : atI (x :: y :: z :: w :: l) 3 = some w := atI_nat (j := 3) rfl
@[simp] theorem max_1 {i : Int} : Bi.fn .max [.list [.int i]] = some (.int i) := (rfl)
@[simp] theorem max_2 {i j : Int} : Bi.fn .max [.list [.int i, .int j]] = some (.int (max i j)) := (rfl)
theorem shaped_ints (xs : List Int) : SeqAt.shaped (.tuple (xs.map .int)) = true := by
  unfold SeqAt.shaped
  have h1 : ∀ xs : List Int, PyData.canLayAll0 (xs.map .int) = true := fun xs => by
    induction xs with
    | nil => simp [PyData.canLayAll0]
    | cons x xs ih => simp [PyData.canLayAll0, PyData.canLay0, ih]
  simp [PyData.canLay0, h1, PyData.depth, PySem.W.depth_ints]
theorem shaped_intsL (xs : List Int) : SeqAt.shaped (.list (xs.map .int)) = true := by
  unfold SeqAt.shaped
  have h1 : ∀ xs : List Int, PyData.canLayAll0 (xs.map .int) = true := fun xs => by
    induction xs with
    | nil => simp [PyData.canLayAll0]
    | cons x xs ih => simp [PyData.canLayAll0, PyData.canLay0, ih]
  simp [PyData.canLay0, h1, PyData.depth, PySem.W.depth_ints]
theorem any_eqv (xs : List Int) (i : Int) : ((xs.map PyData.int).any fun z => PyData.eqv z (.int i)) = decide (i ∈ xs) := by
  rw [List.any_map, Bool.eq_iff_iff]
  simp only [List.any_eq_true, Function.comp, eqv_ii, decide_eq_true_eq]
  constructor
  · rintro ⟨x, hx, rfl⟩; exact hx
  · intro h; exact ⟨i, h, rfl⟩
@[simp] theorem in_ints {xs : List Int} {i : Int} : cmpD .In (.int i) (.tuple (xs.map .int)) = some (.bool (decide (i ∈ xs))) := by
  show inD _ _ = _
  unfold inD
  rw [if_pos ⟨rfl, shaped_ints xs⟩, ← any_eqv]; rfl
@[simp] theorem nin_ints {xs : List Int} {i : Int} : cmpD .NotIn (.int i) (.tuple (xs.map .int)) = some (.bool (!decide (i ∈ xs))) := by
  show notInD _ _ = _
  unfold notInD
  rw [if_pos ⟨rfl, shaped_ints xs⟩, ← any_eqv]; rfl
@[simp] theorem in_intsL {xs : List Int} {i : Int} : cmpD .In (.int i) (.list (xs.map .int)) = some (.bool (decide (i ∈ xs))) := by
  show inD _ _ = _
  unfold inD
  rw [if_pos ⟨rfl, shaped_intsL xs⟩, ← any_eqv]; rfl
@[simp] theorem nin_intsL {xs : List Int} {i : Int} : cmpD .NotIn (.int i) (.list (xs.map .int)) = some (.bool (!decide (i ∈ xs))) := by
  show notInD _ _ = _
  unfold notInD
  rw [if_pos ⟨rfl, shaped_intsL xs⟩, ← any_eqv]; rfl
@[simp] theorem ne_nilL {xs : List Int} : cmpD .NotEq (.list (xs.map .int)) (.list []) = some (.bool (!xs.isEmpty)) := by
  show neD _ _ = _
  unfold neD
  rw [if_pos ⟨shaped_intsL xs, rfl⟩]
  cases xs <;> simp [PyData.eqv, PyData.eqvAll]
@[simp] theorem eq_nilL {xs : List Int} : cmpD .Eq (.list (xs.map .int)) (.list []) = some (.bool xs.isEmpty) := by
  show eqD _ _ = _
  unfold eqD
  rw [if_pos ⟨shaped_intsL xs, rfl⟩]
  cases xs <;> simp [PyData.eqv, PyData.eqvAll]
theorem insU_mem {x y : Int} : ∀ {l : List Int}, y ∈ insU x l ↔ y = x ∨ y ∈ l
  | [] => by simp [insU]
  | z :: l => by
    unfold insU
    have ih := insU_mem (x := x) (y := y) (l := l)
    split
    · simp
    · split
      · rename_i h; subst h; simp
      · simp only [List.mem_cons, ih]; exact or_left_comm
theorem sortU_mem {y : Int} : ∀ {l : List Int}, y ∈ sortU l ↔ y ∈ l
  | [] => by simp [sortU]
  | x :: l => by
    show y ∈ insU x (sortU l) ↔ _
    rw [insU_mem, sortU_mem, List.mem_cons]
theorem ssort_ints {xs : List Int} (h : xs.length ≤ 4000) : sortSetD (.list (xs.map .int)) = some (.list ((sortU xs).map .int)) := by
  show ((intsOf (xs.map .int)).bind fun ns => if ns.length ≤ 4000 then some (PyData.list ((sortU ns).map .int)) else none) = _
  rw [intsOf_map]
  exact if_pos h
section
variable {fs : List FnI} {cs : List (Str × Dt)} {ps : Option Nat} {env : En} {p q : Pt}
/-- a comprehension of two clauses, drawing nothing -/
theorem lc2_filter {α β : Type} {src src1 : IR} {t t1 : Tg} {vs vs1 : List Nat} {cond cond1 elt : IE} (enc : α → Dt) (enc1 : β → Dt) (c : α → Bool) (ys : α → List β) (c1 : α → β → Bool) (g : α → β → Dt) (xs : List α) (hs : evR fs cs ps src env p = some (xs.map enc, q))
    (hz : ((xs.filter c).flatMap fun x => ((ys x).filter (c1 x)).map (g x)).length ≤ sizeLine)
    (h : ∀ x ∈ xs, ∃ env', bindD ps t (enc x) (wipeD env vs) = some env' ∧ (∀ p, ev fs cs ps cond env' p = some (.bool (c x), p)) ∧ (c x = true → (∀ p, evR fs cs ps src1 env' p = some ((ys x).map enc1, p)) ∧
      ∀ y ∈ ys x, ∃ env'', bindD ps t1 (enc1 y) (wipeD env' vs1) = some env'' ∧ ∀ p, ev fs cs ps cond1 env'' p = some (.bool (c1 x y), p) ∧ (c1 x y = true → ev fs cs ps elt env'' p = some (g x y, p)))) :
    ev fs cs ps (.lc2 src t vs cond src1 t1 vs1 cond1 elt) env p = some (.list ((xs.filter c).flatMap fun x => ((ys x).filter (c1 x)).map (g x)), q) := by
  rw [ev]
  unfold dLc2
  rw [bnd_at hs]
  have H : ∀ xs : List α, (∀ x ∈ xs, ∃ env', bindD ps t (enc x) (wipeD env vs) = some env' ∧ (∀ p, ev fs cs ps cond env' p = some (.bool (c x), p)) ∧ (c x = true → (∀ p, evR fs cs ps src1 env' p = some ((ys x).map enc1, p)) ∧
      ∀ y ∈ ys x, ∃ env'', bindD ps t1 (enc1 y) (wipeD env' vs1) = some env'' ∧ ∀ p, ev fs cs ps cond1 env'' p = some (.bool (c1 x y), p) ∧ (c1 x y = true → ev fs cs ps elt env'' p = some (g x y, p)))) →
      ∀ q, lc2F ps t vs (ev fs cs ps cond) (evR fs cs ps src1) t1 vs1 (ev fs cs ps cond1) (ev fs cs ps elt) env (xs.map enc) q = some ((xs.filter c).flatMap fun x => ((ys x).filter (c1 x)).map (g x), q) := by
    intro xs
    induction xs with
    | nil => exact fun _ q => rfl
    | cons x xs ih =>
      intro h q
      obtain ⟨env', e1, e2, e3⟩ := h x (.head _)
      have ih := ih (fun y hy => h y (.tail _ hy)) q
      show lc2F ps t vs _ _ t1 vs1 _ _ env (enc x :: xs.map enc) q = _
      unfold lc2F
      rw [bnd_at (show Mo.ofO (bindD ps t (enc x) (wipeD env vs)) q = some (env', q) by rw [e1]; rfl), bnd_at (e2 q)]
      cases hc : c x with
      | false => rw [List.filter_cons_of_neg (by rw [hc]; decide)]; exact ih
      | true =>
        obtain ⟨e4, e5⟩ := e3 hc
        show Mo.bnd _ _ q = _
        rw [bnd_at (e4 q), bnd_at (lcF_pure enc1 (c1 x) (g x) (ys x) e5 q), bnd_at ih, List.filter_cons_of_pos hc, List.flatMap_cons]
        rfl
  rw [bnd_at (H xs h q)]
  show (if _ then _ else _ : Mo Dt) q = _
  rw [if_pos hz]; rfl
theorem lc2_map {α β : Type} {src src1 : IR} {t t1 : Tg} {vs vs1 : List Nat} {elt : IE} (enc : α → Dt) (enc1 : β → Dt) (ys : α → List β) (g : α → β → Dt) (xs : List α) (hs : evR fs cs ps src env p = some (xs.map enc, q))
    (hz : (xs.flatMap fun x => (ys x).map (g x)).length ≤ sizeLine)
    (h : ∀ x ∈ xs, ∃ env', bindD ps t (enc x) (wipeD env vs) = some env' ∧ (∀ p, evR fs cs ps src1 env' p = some ((ys x).map enc1, p)) ∧ ∀ y ∈ ys x, ∃ env'', bindD ps t1 (enc1 y) (wipeD env' vs1) = some env'' ∧ ∀ p, ev fs cs ps elt env'' p = some (g x y, p)) :
    ev fs cs ps (.lc2 src t vs (.lit (.bool true)) src1 t1 vs1 (.lit (.bool true)) elt) env p = some (.list (xs.flatMap fun x => (ys x).map (g x)), q) := by
  have e1 : xs.filter (fun _ => true) = xs := List.filter_eq_self.mpr (by simp)
  have e2 : ∀ x, (ys x).filter (fun _ => true) = ys x := fun x => List.filter_eq_self.mpr (by simp)
  have := lc2_filter (cond := .lit (.bool true)) (cond1 := .lit (.bool true)) enc enc1 (fun _ => true) ys (fun _ _ => true) g xs hs (by rw [e1]; simpa only [e2] using hz) fun x hx => by
    obtain ⟨env', a1, a2, a3⟩ := h x hx
    exact ⟨env', a1, fun p => by rw [ev]; rfl, fun _ => ⟨a2, fun y hy => let ⟨env'', b1, b2⟩ := a3 y hy; ⟨env'', b1, fun p => ⟨by rw [ev]; rfl, fun _ => b2 p⟩⟩⟩⟩
  simpa only [e1, e2] using this
end
end Ev

/-! Ev, part Ze: while loops that draw nothing; folds; pairs. -/
namespace Ev
open PySem L2
/-- a while loop: I with a measure, J at the end -/
theorem wh_pure {S : List Nat} {c : Dn} {body : Sn} (I : Nat → SEn → Prop) (J : SEn → Prop)
    (h : ∀ m E p, I m E → ckS S E = true ∧ ((c (vw E) p = some (.bool false, p) ∧ J E) ∨ (c (vw E) p = some (.bool true, p) ∧ ∃ r m', m' < m ∧ body E p = some (r, p) ∧ Nx (I m') r))) :
    ∀ (n m : Nat) (E : SEn) (p : Pt), I m E → m < n → ∃ E2, whF S c body n E p = some (.nx E2, p) ∧ J E2
  | 0, m, _, _, _, hn => absurd hn (by omega)
  | n + 1, m, E, p, hI, hn => by
    obtain ⟨h1, h2⟩ := h m E p hI
    rw [whF_ob, h1]
    rcases h2 with ⟨e, j⟩ | ⟨e, r, m', hm, e2, E2, hr, i2⟩
    · rw [e]; exact ⟨E, rfl, j⟩
    · rw [e]
      obtain ⟨E3, e3, j3⟩ := wh_pure I J h n m' E2 p i2 (by omega)
      refine ⟨E3, ?_, j3⟩
      show Ev.ob (body E p) _ = _
      rw [e2]
      rcases hr with rfl | rfl
      · exact e3
      · exact e3
theorem wh_pq {β : Type} {S : List Nat} {c : Dn} {body : Sn} {K : Sg × Pt → Option β} {R : Option β} {n : Nat} {E : SEn} {p : Pt} (I : Nat → SEn → Prop) (J : SEn → Prop) (m : Nat) (hI : I m E) (hn : m < n)
    (h : ∀ m E p, I m E → ckS S E = true ∧ ((c (vw E) p = some (.bool false, p) ∧ J E) ∨ (c (vw E) p = some (.bool true, p) ∧ ∃ r m', m' < m ∧ body E p = some (r, p) ∧ Nx (I m') r)))
    (hk : ∀ E, J E → K (.nx E, p) = R) : Ev.ob (whF S c body n E p) K = R := by
  obtain ⟨E2, e, j⟩ := wh_pure I J h n m E p hI hn
  rw [e]; exact hk E2 j
/-- a loop as a fold -/
theorem for_fold {σ α : Type} {ps : Option Nat} {t : Tg} {body : Sn} (I : σ → SEn → Prop) (enc : α → Dt) (step : σ → α → σ) : ∀ (xs : List α),
    (∀ x ∈ xs, ∀ s E p, I s E → ∃ E1, bindS ps t (enc x) E = some E1 ∧ ∃ r, body E1 p = some (r, p) ∧ Nx (I (step s x)) r) →
    ∀ s E p, I s E → ∃ E2, forF ps t body (xs.map enc) E p = some (.nx E2, p) ∧ I (xs.foldl step s) E2
  | [], _, s, E, p, i => ⟨E, forF_nil, i⟩
  | x :: xs, h, s, E, p, i => by
    obtain ⟨E1, e1, r, e2, E2, hr, i2⟩ := h x (.head _) s E p i
    obtain ⟨E3, e3, i3⟩ := for_fold I enc step xs (fun y hy => h y (.tail _ hy)) (step s x) E2 p i2
    refine ⟨E3, ?_, i3⟩
    rw [List.map_cons, forF_ob, e1]
    simp only [ob_some, e2]
    rcases hr with rfl | rfl
    · exact e3
    · exact e3
theorem fold_pq {β σ α : Type} {ps : Option Nat} {t : Tg} {body : Sn} {K : Sg × Pt → Option β} {R : Option β} {E : SEn} {p : Pt} (I : σ → SEn → Prop) (enc : α → Dt) (step : σ → α → σ) (xs : List α) (s : σ) (hI : I s E)
    (h : ∀ x ∈ xs, ∀ s E p, I s E → ∃ E1, bindS ps t (enc x) E = some E1 ∧ ∃ r, body E1 p = some (r, p) ∧ Nx (I (step s x)) r)
    (hk : ∀ E, I (xs.foldl step s) E → K (.nx E, p) = R) : Ev.ob (forF ps t body (xs.map enc) E p) K = R := by
  obtain ⟨E2, e, hI⟩ := for_fold I enc step xs h s E p hI
  rw [e]; exact hk E2 hI
/-- a loop that may return -/
theorem for_ret' {ps : Option Nat} {t : Tg} {body : Sn} (I : Nat → SEn → Prop) (R : Dt → Prop) : ∀ (ds : List Dt) (n : Nat),
    (∀ i d E p, ds[i]? = some d → I (n + i) E → ∃ E1, bindS ps t d E = some E1 ∧ ∃ r, body E1 p = some (r, p) ∧ (Nx (I (n + i + 1)) r ∨ ∃ d, r = .rt d ∧ R d)) →
    ∀ E p, I n E → (∃ E2, forF ps t body ds E p = some (.nx E2, p) ∧ I (n + ds.length) E2) ∨ ∃ d, forF ps t body ds E p = some (.rt d, p) ∧ R d
  | [], n, _, E, p, i => .inl ⟨E, forF_nil, i⟩
  | d :: ds, n, h, E, p, i => by
    obtain ⟨E1, e1, r, e2, hr⟩ := h 0 d E p rfl i
    rw [forF_ob, e1]
    simp only [ob_some, e2]
    rcases hr with ⟨E2, hr, i2⟩ | ⟨d, rfl, hd⟩
    · have hh := for_ret' (ps := ps) (t := t) (body := body) I R ds (n + 1) (fun i d E p hd => by
        have := h (i + 1) d E p (by simpa using hd)
        have e : n + (i + 1) = n + 1 + i := by omega
        rw [e] at this
        exact this) E2 p i2
      have e : n + (d :: ds).length = n + 1 + ds.length := by rw [List.length_cons]; omega
      rw [e]
      rcases hr with rfl | rfl
      · exact hh
      · exact hh
    · exact .inr ⟨d, rfl, hd⟩
theorem for_ret {ps : Option Nat} {t : Tg} {body : Sn} (I : Nat → SEn → Prop) (R : Dt → Prop) (ds : List Dt) {E : SEn} {p : Pt} (hI : I 0 E)
    (h : ∀ i d E p, ds[i]? = some d → I i E → ∃ E1, bindS ps t d E = some E1 ∧ ∃ r, body E1 p = some (r, p) ∧ (Nx (I (i + 1)) r ∨ ∃ d, r = .rt d ∧ R d)) :
    (∃ E2, forF ps t body ds E p = some (.nx E2, p) ∧ I ds.length E2) ∨ ∃ d, forF ps t body ds E p = some (.rt d, p) ∧ R d := by
  have := for_ret' (ps := ps) (t := t) (body := body) I R ds 0 (fun i d E p hd hi => by rw [Nat.zero_add] at hi ⊢; exact h i d E p hd hi) E p hI
  rwa [Nat.zero_add] at this
@[simp] theorem mul_rep {d : Dt} {k : Int} (h0 : 0 ≤ k) (h : k ≤ 4000) : binD .Mult (.list [d]) (.int k) = some (.list (List.replicate k.toNat d)) := by
  show Ev.mulD (.list [d]) (.int k) = _
  unfold Ev.mulD
  simp only []
  rw [if_pos ⟨by omega, by omega, by rw [List.length_singleton, Nat.one_mul]; exact szl' (by omega)⟩]
  congr 2
  have : ∀ n : Nat, (List.replicate n [d]).flatten = List.replicate n d := fun n => by
    induction n with
    | zero => rfl
    | succ n ih => rw [List.replicate_succ, List.flatten_cons, ih, List.replicate_succ]; rfl
  exact this _
@[simp] theorem mul_repN {d : Dt} {k : Nat} (h : k ≤ 4000) : binD .Mult (.list [d]) (.int k) = some (.list (List.replicate k d)) := by
  have := mul_rep (d := d) (k := (k : Int)) (by omega) (by omega)
  rwa [Int.toNat_natCast] at this
theorem shaped_p2 (a b : Int) : SeqAt.shaped (.tuple [.int a, .int b]) = true := by
  have := shaped_ints [a, b]; exact this
@[simp] theorem eq_p2 {a b c d : Int} : cmpD .Eq (.tuple [.int a, .int b]) (.tuple [.int c, .int d]) = some (.bool (decide (a = c) && decide (b = d))) := by
  show eqD _ _ = _
  unfold eqD
  rw [if_pos ⟨shaped_p2 a b, shaped_p2 c d⟩]
  congr 2
  simp [PyData.eqv, PyData.eqvAll, Bool.beq_eq_decide_eq]
@[simp] theorem ne_p2 {a b c d : Int} : cmpD .NotEq (.tuple [.int a, .int b]) (.tuple [.int c, .int d]) = some (.bool (!(decide (a = c) && decide (b = d)))) := by
  show neD _ _ = _
  unfold neD
  rw [if_pos ⟨shaped_p2 a b, shaped_p2 c d⟩]
  congr 3
  simp [PyData.eqv, PyData.eqvAll, Bool.beq_eq_decide_eq]
@[simp] theorem is_nn : cmpD .Is .none .none = some (.bool true) := (rfl)
@[simp] theorem is_tn {xs : List Dt} : cmpD .Is (.tuple xs) .none = some (.bool false) := (rfl)
@[simp] theorem is_in {i : Int} : cmpD .Is (.int i) .none = some (.bool false) := (rfl)
@[simp] theorem is_ln {xs : List Dt} : cmpD .Is (.list xs) .none = some (.bool false) := (rfl)
@[simp] theorem isnt_nn : cmpD .IsNot .none .none = some (.bool false) := (rfl)
@[simp] theorem isnt_tn {xs : List Dt} : cmpD .IsNot (.tuple xs) .none = some (.bool true) := (rfl)
@[simp] theorem isnt_in {i : Int} : cmpD .IsNot (.int i) .none = some (.bool true) := (rfl)
@[simp] theorem isb_t {xs : List Dt} : isG "bool" (.tuple xs) = false := (rfl)
@[simp] theorem isi_t {xs : List Dt} : isG "int" (.tuple xs) = false := (rfl)
@[simp] theorem iss_s {x : Str} : isG "str" (.str x) = true := (rfl)
@[simp] theorem ist_l {xs : List Dt} : isG "tuple" (.list xs) = false := (rfl)
@[simp] theorem min_2 {i j : Int} : Bi.fn .min [.list [.int i, .int j]] = some (.int (min i j)) := (rfl)
@[simp] theorem sum_2 {i j : Int} : Bi.fn .sum [.list [.int i, .int j]] = some (.int (i + j)) := by show some (PyData.int (i + (j + 0))) = _; rw [Int.add_zero]
theorem setD_int {xs : List Int} {k : Nat} {v : Int} (h : k < xs.length) : setD (.list (xs.map .int)) (.int (k : Nat)) (.int v) = some (.list ((xs.set k v).map .int)) := by
  show (ixN _ _).map _ = _
  unfold ixN
  rw [List.length_map, if_pos (by omega), if_pos (by omega)]
  simp only [Option.map_some, Int.toNat_natCast]
  rw [List.map_set]
theorem atI_int {xs : List Int} {k : Nat} {v : Int} (h : xs[k]? = some v) : atI (xs.map PyData.int) (k : Nat) = some (.int v) := atI_map (by omega) (by simpa using h)
theorem atI_set {xs : List Int} {k : Nat} {v : Int} (h : k < xs.length) : atI ((xs.set k v).map PyData.int) (k : Nat) = some (.int v) := atI_int (by simp [h])
theorem atI_pair {xs : List (Int × Int)} {k : Nat} {q : Int × Int} (h : xs[k]? = some q) : atI (xs.map encP) (k : Nat) = some (encP q) := atI_nat (by rw [List.getElem?_map, h]; rfl)
theorem atI_of {xs : List Dt} {k : Nat} {d : Dt} (h : xs[k]? = some d) : atI xs (k : Int) = some d := atI_nat h
theorem Sm.str {x : Str} (h : PyData.strOk x = true) (h2 : x.cps.toList.all (fun c => decide (c < 16 ^ 8)) = true) : Sm 0 x.cps.size (.str x) := ⟨by simpa [PyData.canLay0] using h, by simp [PyData.showable], Nat.le_refl _, by simpa only [PyData.leavesShort] using h2, Nat.le_refl _⟩
end Ev

namespace K65
open PySem L2 Ev

def topS (i : Nat) : Stmt := PySem.Challenge.pw_eachtheirown_k65_whole_forty_pledges_one.main.body.getD i (.Pass ⟨0, 0, 0, 0⟩)
def cs : List (Str × Dt) := [(Str.ofString "MOST_PLEDGES", (.int 40)), (Str.ofString "MOST_OWED", (.int 1000000)), (Str.ofString "MOST_HELD", (.int 100000000)), (Str.ofString "ORDER", (.str (Str.ofString "order"))), (Str.ofString "STUCK", (.str (Str.ofString "stuck"))), (Str.ofString "THREE", (.int 3))]
@[simp] theorem cs_at_0 : cs[0]? = some (Str.ofString "MOST_PLEDGES", (.int 40)) := (rfl)
@[simp] theorem cs_at_1 : cs[1]? = some (Str.ofString "MOST_OWED", (.int 1000000)) := (rfl)
@[simp] theorem cs_at_2 : cs[2]? = some (Str.ofString "MOST_HELD", (.int 100000000)) := (rfl)
@[simp] theorem cs_at_3 : cs[3]? = some (Str.ofString "ORDER", (.str (Str.ofString "order"))) := (rfl)
@[simp] theorem cs_at_4 : cs[4]? = some (Str.ofString "STUCK", (.str (Str.ofString "stuck"))) := (rfl)
@[simp] theorem cs_at_5 : cs[5]? = some (Str.ofString "THREE", (.int 3)) := (rfl)
def L_law_cells : List FnI := []
def D_law_cells : Df := ⟨Str.ofString "_law_cells", 2, [Str.ofString "script", Str.ofString "most"], false, true,
  [(.ret [] (.lrg1 false (.bi .max (.cons (.lit (.int 1)) (.cons (.bi .min (.cons (.var 1) (.cons (.bi .len (.cons (.var 0) .nil)) .nil))) .nil)))))]⟩
def F_law_cells : FnI := D_law_cells.fn L_law_cells cs
def L_law_pot : List FnI := []
def D_law_pot : Df := ⟨Str.ofString "_law_pot", 2, [Str.ofString "script", Str.ofString "place", Str.ofString "cell", Str.ofString "own", Str.ofString "small"], false, true,
  [(.asg [] 2 (.ite (.cmp .Lt (.var 1) (.bi .len (.cons (.var 0) .nil))) (.idx (.var 0) (.var 1)) (.bin .Add (.bin .Add (.bin .Mod (.bi .int (.cons (.bi .sum (.cons (.slc (.var 0) .no (.yes (.lit (.int 1)))) .nil)) .nil)) (.lit (.int 1000211))) (.bin .Mult (.lit (.int 4639)) (.var 1))) (.lit (.int 3163))))),
    (.asg [] 3 (.bin .Mult (.bin .Mod (.bi .int (.cons (.bi .abs (.cons (.var 2) .nil)) .nil)) (.bin .Pow (.bin .Pow (.lit (.int 10)) (.lit (.int 60))) (.lit (.int 5)))) (.bi .int (.cons (.cmp .GtE (.bi .abs (.cons (.var 2) .nil)) (.bin .Pow (.lit (.int 10)) (.lit (.int 18)))) .nil)))),
    (.asg [] 4 (.bin .Mod (.bi .int (.cons (.var 2) .nil)) (.lit (.int 2305843009213693951)))),
    (.ret [3] (.lst (.cons (.var 3) (.cons (.bin .Mod (.bi .int (.cons (.bin .Add (.bin .Add (.bin .Mult (.var 4) (.lit (.int 72161))) (.bin .Mult (.bin .Mult (.lit (.int 10853)) (.var 1)) (.var 1))) (.lit (.int 2843))) .nil)) (.lit (.int 2305843009213693921))) (.cons (.lit (.int 0)) .nil)))))]⟩
def F_law_pot : FnI := D_law_pot.fn L_law_pot cs
def B_law_needed_1 : List IS := [(.par [] 1 2 false false (.bi .max (.cons (.var 1) (.cons (.bin .Sub (.var 3) (.var 2)) .nil))) (.bin .Sub (.bin .Add (.var 2) (.var 4)) (.var 3)))]
def L_law_needed : List FnI := []
def D_law_needed : Df := ⟨Str.ofString "_law_needed", 1, [Str.ofString "pledges", Str.ofString "need", Str.ofString "more", Str.ofString "owed_then", Str.ofString "worth"], false, false,
  [(.par [] 1 2 false false (.lit (.int 0)) (.lit (.int 0))),
    (.sfor [0] (.seq (.var 0)) (.tp [(.nm 3), (.nm 4)])
   B_law_needed_1),
    (.ret [1] (.var 1))]⟩
def F_law_needed : FnI := D_law_needed.fn L_law_needed cs
def X_law_least_1 : IE := (.lc (.seq (.var 0)) (.tp [(.nm 7), (.nm 8)]) [7, 8] (.cmp .GtE (.var 8) (.var 7)) (.tup (.cons (.var 7) (.cons (.var 8) .nil))))
def X_law_least_2 : IE := (.lc (.seq (.var 0)) (.tp [(.nm 7), (.nm 8)]) [7, 8] (.cmp .Lt (.var 8) (.var 7)) (.tup (.cons (.var 8) (.cons (.var 7) .nil))))
def X_law_least_3 : IE := (.lc (.seq (.var 1)) (.tp [(.nm 7), (.nm 8)]) [7, 8] (.lit (.bool true)) (.bin .Sub (.var 8) (.var 7)))
def X_law_least_4 : IE := (.lc (.seq (.var 2)) (.tp [(.nm 8), (.nm 7)]) [7, 8] (.lit (.bool true)) (.bin .Sub (.var 7) (.var 8)))
def L_law_least : List FnI := [F_law_needed]
@[simp] theorem Lf_law_least_0 : L_law_least[0]? = some F_law_needed := (rfl)
def D_law_least : Df := ⟨Str.ofString "_law_least", 1, [Str.ofString "pledges", Str.ofString "gains", Str.ofString "losses", Str.ofString "ahead", Str.ofString "back", Str.ofString "gained", Str.ofString "lost", Str.ofString "owed_then", Str.ofString "worth"], false, false,
  [(.asg [] 1 (.bi .sorted (.cons X_law_least_1 .nil))),
    (.asg [] 2 (.bi .sorted (.cons X_law_least_2 .nil))),
    (.par [1, 2] 3 4 false false (.call 0 (.cons (.var 1) .nil)) (.call 0 (.cons (.var 2) .nil))),
    (.asg [] 5 (.bi .sum (.cons X_law_least_3 .nil))),
    (.asg [] 6 (.bi .sum (.cons X_law_least_4 .nil))),
    (.ret [3] (.ite (.cmp .NotEq (.var 2) (.lst .nil)) (.bi .max (.cons (.var 3) (.cons (.bin .Sub (.bin .Add (.var 4) (.var 6)) (.var 5)) .nil))) (.var 3)))]⟩
def F_law_least : FnI := D_law_least.fn L_law_least cs
def L_law_take : List FnI := []
def D_law_take : Df := ⟨Str.ofString "_law_take", 2, [Str.ofString "pot", Str.ofString "upto", Str.ofString "prime", Str.ofString "mixture", Str.ofString "digit"], true, false,
  [(.sif [] (.cmp .Gt (.potr 0) (.lit (.int 0)))
   [(.asg [] 4 (.bin .Mod (.bi .int (.cons (.potr 0) .nil)) (.var 1))),
    (.potw 0 [] (.bin .FloorDiv (.potr 0) (.var 1))),
    (.ret [4] (.var 4))]
   []),
    (.potw 2 [] (.bin .Add (.potr 2) (.lit (.int 1)))),
    (.asg [] 2 (.idx (.lst (.cons (.lit (.int 2147483647)) (.cons (.lit (.int 2147483629)) (.cons (.lit (.int 2147483587)) (.cons (.lit (.int 2147483579)) (.cons (.lit (.int 2147483563)) .nil)))))) (.bin .Mod (.bi .int (.cons (.potr 2) .nil)) (.lit (.int 5))))),
    (.asg [] 3 (.bin .Mod (.bi .int (.cons (.bin .Pow (.bi .int (.cons (.bin .Add (.bin .Add (.potr 1) (.bin .Mult (.bin .Mult (.lit (.int 95257)) (.potr 2)) (.potr 2))) (.lit (.int 3163))) .nil)) (.lit (.int 3))) .nil)) (.var 2))),
    (.asg [] 3 (.bin .Mod (.bi .int (.cons (.bin .Mult (.var 3) (.bin .Add (.bin .Mod (.bi .int (.cons (.var 3) .nil)) (.lit (.int 13441))) (.bin .Mult (.lit (.int 419)) (.potr 2)))) .nil)) (.lit (.int 2305843009213693907)))),
    (.ret [] (.bin .Mod (.bi .int (.cons (.bin .FloorDiv (.var 3) (.lit (.int 229))) .nil)) (.var 1)))]⟩
def F_law_take : FnI := D_law_take.fn L_law_take cs
def L_law_of : List FnI := [F_law_take]
@[simp] theorem Lf_law_of_0 : L_law_of[0]? = some F_law_take := (rfl)
def D_law_of : Df := ⟨Str.ofString "_law_of", 2, [Str.ofString "pot", Str.ofString "some"], true, false,
  [(.ret [] (.idx (.var 1) (.callp 0 (.cons (.bi .len (.cons (.var 1) .nil)) .nil))))]⟩
def F_law_of : FnI := D_law_of.fn L_law_of cs
def L_is_int : List FnI := []
def D_is_int : Df := ⟨Str.ofString "is_int", 3, [Str.ofString "value", Str.ofString "low", Str.ofString "high"], false, false,
  [(.ret [] (.band (.cons (.isi "int" (.var 0)) (.cons (.not (.isi "bool" (.var 0))) (.cons (.chn .LtE .LtE (.var 1) (.var 0) (.var 2)) .nil)))))]⟩
def F_is_int : FnI := D_is_int.fn L_is_int cs
def X_are_ints_1 : IE := (.lc (.seq (.var 0)) (.nm 3) [3] (.lit (.bool true)) (.call 0 (.cons (.var 3) (.cons (.var 1) (.cons (.var 2) .nil)))))
def L_are_ints : List FnI := [F_is_int]
@[simp] theorem Lf_are_ints_0 : L_are_ints[0]? = some F_is_int := (rfl)
def D_are_ints : Df := ⟨Str.ofString "are_ints", 3, [Str.ofString "value", Str.ofString "low", Str.ofString "high", Str.ofString "one"], false, false,
  [(.ret [1, 2] (.band (.cons (.isi "tuple" (.var 0)) (.cons (.bi .all (.cons X_are_ints_1 .nil)) .nil))))]⟩
def F_are_ints : FnI := D_are_ints.fn L_are_ints cs
def X_look_at_owed_1 : IE := (.lc (.seq (.var 0)) (.nm 2) [2] (.lit (.bool true)) (.band (.cons (.call 0 (.cons (.var 2) (.cons (.lit (.int 0)) (.cons (.con 1) .nil)))) (.cons (.cmp .Eq (.bi .len (.cons (.var 2) .nil)) (.lit (.int 2))) .nil))))
def L_look_at_owed : List FnI := [F_are_ints]
@[simp] theorem Lf_look_at_owed_0 : L_look_at_owed[0]? = some F_are_ints := (rfl)
def D_look_at_owed : Df := ⟨Str.ofString "look_at_owed", 2, [Str.ofString "pledges", Str.ofString "most", Str.ofString "pledge"], false, true,
  [(.sif [] (.bor (.cons (.not (.isi "tuple" (.var 0))) (.cons (.cmp .Gt (.bi .len (.cons (.var 0) .nil)) (.var 1)) .nil)))
   [.never]
   []),
    (.sif [] (.not (.bi .all (.cons X_look_at_owed_1 .nil)))
   [.never]
   [])]⟩
def F_look_at_owed : FnI := D_look_at_owed.fn L_look_at_owed cs
def X_told_best_order_1 : IE := (.lc (.seq (.lst (.star (.var 1) (.star (.var 2) .nil)))) (.tp [(.nm 3), (.nm 4)]) [3, 4] (.lit (.bool true)) (.var 4))
def X_told_best_order_2 : IE := (.lc (.enum (.var 0)) (.tp [(.nm 4), (.tp [(.nm 5), (.nm 6)])]) [4, 5, 6] (.cmp .GtE (.var 6) (.var 5)) (.tup (.cons (.var 5) (.cons (.var 4) .nil))))
def X_told_best_order_3 : IE := (.lc (.enum (.var 0)) (.tp [(.nm 4), (.tp [(.nm 5), (.nm 6)])]) [4, 5, 6] (.cmp .Lt (.var 6) (.var 5)) (.tup (.cons (.neg (.var 6)) (.cons (.var 4) .nil))))
def L_told_best_order : List FnI := []
def D_told_best_order : Df := ⟨Str.ofString "told_best_order", 1, [Str.ofString "pledges", Str.ofString "gains", Str.ofString "losses", Str.ofString "much", Str.ofString "at", Str.ofString "owed", Str.ofString "worth"], false, true,
  [(.asg [] 1 (.bi .sorted (.cons X_told_best_order_2 .nil))),
    (.asg [] 2 (.bi .sorted (.cons X_told_best_order_3 .nil))),
    (.ret [] X_told_best_order_1)]⟩
def F_told_best_order : FnI := D_told_best_order.fn L_told_best_order cs
def B_least_money_1 : List IS := [(.bind [] (.tp [(.nm 4), (.nm 5)]) (.idx (.var 0) (.var 3))),
    (.asg [] 1 (.bi .max (.cons (.var 1) (.cons (.bin .Sub (.var 4) (.var 2)) .nil)))),
    (.aug [] .Add 2 (.bin .Sub (.var 5) (.var 4)))]
def L_least_money : List FnI := [F_look_at_owed, F_told_best_order]
@[simp] theorem Lf_least_money_0 : L_least_money[0]? = some F_look_at_owed := (rfl)
@[simp] theorem Lf_least_money_1 : L_least_money[1]? = some F_told_best_order := (rfl)
def D_least_money : Df := ⟨Str.ofString "least_money", 1, [Str.ofString "pledges", Str.ofString "need", Str.ofString "more", Str.ofString "at", Str.ofString "owed", Str.ofString "worth"], false, false,
  [(.expr [0] (.call 0 (.cons (.var 0) (.cons (.con 0) .nil)))),
    (.par [] 1 2 false false (.lit (.int 0)) (.lit (.int 0))),
    (.sfor [0] (.seq (.call 1 (.cons (.var 0) .nil))) (.nm 3)
   B_least_money_1),
    (.ret [1] (.var 1))]⟩
def F_least_money : FnI := D_least_money.fn L_least_money cs
def X_law_best_order_1 : IE := (.lc (.seq (.bin .Add (.var 1) (.var 2))) (.tp [(.nm 3), (.nm 4)]) [3, 4] (.lit (.bool true)) (.var 4))
def X_law_best_order_2 : IE := (.lc (.enum (.var 0)) (.tp [(.nm 4), (.tp [(.nm 5), (.nm 6)])]) [4, 5, 6] (.cmp .GtE (.var 6) (.var 5)) (.tup (.cons (.var 5) (.cons (.var 4) .nil))))
def X_law_best_order_3 : IE := (.lc (.enum (.var 0)) (.tp [(.nm 4), (.tp [(.nm 5), (.nm 6)])]) [4, 5, 6] (.cmp .Lt (.var 6) (.var 5)) (.tup (.cons (.neg (.var 6)) (.cons (.var 4) .nil))))
def L_law_best_order : List FnI := []
def D_law_best_order : Df := ⟨Str.ofString "_law_best_order", 1, [Str.ofString "pledges", Str.ofString "gains", Str.ofString "losses", Str.ofString "much", Str.ofString "at", Str.ofString "owed_then", Str.ofString "worth"], false, true,
  [(.asg [] 1 (.bi .sorted (.cons X_law_best_order_2 .nil))),
    (.asg [] 2 (.bi .sorted (.cons X_law_best_order_3 .nil))),
    (.ret [] X_law_best_order_1)]⟩
def F_law_best_order : FnI := D_law_best_order.fn L_law_best_order cs
def L_look_at_held : List FnI := [F_is_int]
@[simp] theorem Lf_look_at_held_0 : L_look_at_held[0]? = some F_is_int := (rfl)
def D_look_at_held : Df := ⟨Str.ofString "look_at_held", 1, [Str.ofString "money"], false, true,
  [(.sif [0] (.not (.call 0 (.cons (.var 0) (.cons (.lit (.int 0)) (.cons (.con 2) .nil)))))
   [.never]
   [])]⟩
def F_look_at_held : FnI := D_look_at_held.fn L_look_at_held cs
def X_most_made_1 : IE := (.lc (.enum (.var 0)) (.tp [(.nm 4), (.tp [(.nm 3), (.nm 5)])]) [3, 4, 5] (.cmp .Gt (.var 5) (.var 3)) (.tup (.cons (.var 3) (.cons (.var 4) .nil))))
def B_most_made_1 : List IS := [(.sif [] (.cmp .LtE (.var 3) (.var 1))
   [(.aug [] .Add 1 (.bin .Sub (.idx (.idx (.var 0) (.var 4)) (.lit (.int 1))) (.var 3))),
    (.app [4] 2 (.var 4))]
   [])]
def L_most_made : List FnI := [F_look_at_owed, F_look_at_held]
@[simp] theorem Lf_most_made_0 : L_most_made[0]? = some F_look_at_owed := (rfl)
@[simp] theorem Lf_most_made_1 : L_most_made[1]? = some F_look_at_held := (rfl)
def D_most_made : Df := ⟨Str.ofString "most_made", 2, [Str.ofString "pledges", Str.ofString "money", Str.ofString "order", Str.ofString "owed", Str.ofString "at", Str.ofString "worth"], false, true,
  [(.expr [0] (.call 0 (.cons (.var 0) (.cons (.con 0) .nil)))),
    (.expr [1] (.call 1 (.cons (.var 1) .nil))),
    (.asgO [] 2 (.lst .nil)),
    (.sfor [] (.seq (.bi .sorted (.cons X_most_made_1 .nil))) (.tp [(.nm 3), (.nm 4)])
   B_most_made_1),
    (.ret [1] (.tup (.cons (.var 1) (.cons (.bi .tuple (.cons (.var 2) .nil)) .nil))))]⟩
def F_most_made : FnI := D_most_made.fn L_most_made cs
def L_law_is_bool : List FnI := []
def D_law_is_bool : Df := ⟨Str.ofString "_law_is_bool", 2, [Str.ofString "told", Str.ofString "due"], false, false,
  [(.ret [] (.band (.cons (.isi "bool" (.var 0)) (.cons (.cmp .Eq (.var 0) (.var 1)) .nil))))]⟩
def F_law_is_bool : FnI := D_law_is_bool.fn L_law_is_bool cs
def B_told_stuck_1 : List IS := [(.sif [] (.cmp .Gt (.idx (.idx (.var 0) (.var 4)) (.lit (.int 0))) (.var 1))
   [(.ret [1, 3] (.tup (.cons (.var 3) (.cons (.var 1) .nil))))]
   []),
    (.aug [] .Add 1 (.bin .Sub (.idx (.idx (.var 0) (.var 4)) (.lit (.int 1))) (.idx (.idx (.var 0) (.var 4)) (.lit (.int 0)))))]
def L_told_stuck : List FnI := []
def D_told_stuck : Df := ⟨Str.ofString "told_stuck", 3, [Str.ofString "pledges", Str.ofString "money", Str.ofString "order", Str.ofString "place", Str.ofString "at"], false, true,
  [(.sfor [2] (.enum (.var 2)) (.tp [(.nm 3), (.nm 4)])
   B_told_stuck_1),
    (.ret [] (.lit .none))]⟩
def F_told_stuck : FnI := D_told_stuck.fn L_told_stuck cs
def L_all_redeemed : List FnI := [F_look_at_owed, F_look_at_held, F_told_best_order, F_told_stuck]
@[simp] theorem Lf_all_redeemed_0 : L_all_redeemed[0]? = some F_look_at_owed := (rfl)
@[simp] theorem Lf_all_redeemed_1 : L_all_redeemed[1]? = some F_look_at_held := (rfl)
@[simp] theorem Lf_all_redeemed_2 : L_all_redeemed[2]? = some F_told_best_order := (rfl)
@[simp] theorem Lf_all_redeemed_3 : L_all_redeemed[3]? = some F_told_stuck := (rfl)
def D_all_redeemed : Df := ⟨Str.ofString "all_redeemed", 2, [Str.ofString "pledges", Str.ofString "money", Str.ofString "order", Str.ofString "stuck"], false, true,
  [(.expr [0] (.call 0 (.cons (.var 0) (.cons (.con 0) .nil)))),
    (.expr [1] (.call 1 (.cons (.var 1) .nil))),
    (.asg [0] 2 (.call 2 (.cons (.var 0) .nil))),
    (.asg [0, 1, 2] 3 (.call 3 (.cons (.var 0) (.cons (.var 1) (.cons (.var 2) .nil))))),
    (.ret [] (.ite (.cmp .Is (.var 3) (.lit .none)) (.tup (.cons (.con 3) (.cons (.bi .tuple (.cons (.var 2) .nil)) .nil))) (.tup (.cons (.con 4) (.star (.var 3) .nil)))))]⟩
def F_all_redeemed : FnI := D_all_redeemed.fn L_all_redeemed cs
def B_law_stuck_1 : List IS := [(.sif [] (.cmp .Gt (.idx (.idx (.var 0) (.var 4)) (.lit (.int 0))) (.var 1))
   [(.ret [1, 3] (.tup (.cons (.var 3) (.cons (.var 1) .nil))))]
   []),
    (.asg [] 1 (.bin .Sub (.bin .Add (.var 1) (.idx (.idx (.var 0) (.var 4)) (.lit (.int 1)))) (.idx (.idx (.var 0) (.var 4)) (.lit (.int 0)))))]
def L_law_stuck : List FnI := []
def D_law_stuck : Df := ⟨Str.ofString "_law_stuck", 3, [Str.ofString "pledges", Str.ofString "money", Str.ofString "order", Str.ofString "place", Str.ofString "at"], false, true,
  [(.sfor [2] (.enum (.var 2)) (.tp [(.nm 3), (.nm 4)])
   B_law_stuck_1),
    (.ret [] (.lit .none))]⟩
def F_law_stuck : FnI := D_law_stuck.fn L_law_stuck cs
def B_shows_most_made_1 : List IS := [(.sif [] (.cmp .Gt (.idx (.idx (.var 0) (.var 4)) (.lit (.int 0))) (.var 1))
   [(.ret [] (.lit (.bool false)))]
   []),
    (.aug [] .Add 1 (.bin .Sub (.idx (.idx (.var 0) (.var 4)) (.lit (.int 1))) (.idx (.idx (.var 0) (.var 4)) (.lit (.int 0)))))]
def L_shows_most_made : List FnI := [F_most_made, F_is_int, F_are_ints]
@[simp] theorem Lf_shows_most_made_0 : L_shows_most_made[0]? = some F_most_made := (rfl)
@[simp] theorem Lf_shows_most_made_1 : L_shows_most_made[1]? = some F_is_int := (rfl)
@[simp] theorem Lf_shows_most_made_2 : L_shows_most_made[2]? = some F_are_ints := (rfl)
def D_shows_most_made : Df := ⟨Str.ofString "shows_most_made", 3, [Str.ofString "pledges", Str.ofString "money", Str.ofString "value", Str.ofString "most", Str.ofString "at"], false, true,
  [(.asg [0, 1] 3 (.idx (.call 0 (.cons (.var 0) (.cons (.var 1) .nil))) (.lit (.int 0)))),
    (.sif [3] (.bor (.cons (.not (.isi "tuple" (.var 2))) (.cons (.cmp .NotEq (.bi .len (.cons (.var 2) .nil)) (.lit (.int 2))) (.cons (.not (.call 1 (.cons (.idx (.var 2) (.lit (.int 0))) (.cons (.var 3) (.cons (.var 3) .nil))))) .nil))))
   [(.ret [] (.lit (.bool false)))]
   []),
    (.sif [] (.bor (.cons (.not (.call 2 (.cons (.idx (.var 2) (.lit (.int 1))) (.cons (.lit (.int 0)) (.cons (.bin .Sub (.bi .len (.cons (.var 0) .nil)) (.lit (.int 1))) .nil))))) (.cons (.cmp .NotEq (.slen (.idx (.var 2) (.lit (.int 1)))) (.bi .len (.cons (.idx (.var 2) (.lit (.int 1))) .nil))) .nil)))
   [(.ret [] (.lit (.bool false)))]
   []),
    (.sfor [] (.seq (.idx (.var 2) (.lit (.int 1)))) (.nm 4)
   B_shows_most_made_1),
    (.ret [] (.cmp .Eq (.var 1) (.var 3)))]⟩
def F_shows_most_made : FnI := D_shows_most_made.fn L_shows_most_made cs
def L_is_told : List FnI := []
def D_is_told : Df := ⟨Str.ofString "is_told", 2, [Str.ofString "value", Str.ofString "sizes"], false, false,
  [(.ret [] (.band (.cons (.isi "tuple" (.var 0)) (.cons (.cmp .In (.bi .len (.cons (.var 0) .nil)) (.var 1)) (.cons (.isi "str" (.idx (.var 0) (.lit (.int 0)))) .nil)))))]⟩
def F_is_told : FnI := D_is_told.fn L_is_told cs
def L_is_order : List FnI := [F_are_ints]
@[simp] theorem Lf_is_order_0 : L_is_order[0]? = some F_are_ints := (rfl)
def D_is_order : Df := ⟨Str.ofString "is_order", 2, [Str.ofString "value", Str.ofString "many"], false, false,
  [(.ret [0] (.band (.cons (.call 0 (.cons (.var 0) (.cons (.lit (.int 0)) (.cons (.bin .Sub (.var 1) (.lit (.int 1))) .nil)))) (.cons (.cmp .Eq (.bi .len (.cons (.var 0) .nil)) (.var 1)) (.cons (.cmp .Eq (.slen (.var 0)) (.var 1)) .nil)))))]⟩
def F_is_order : FnI := D_is_order.fn L_is_order cs
def X_shows_all_redeemed_1 : IE := (.lc (.zip2 (.slc (.var 2) (.yes (.lit (.int 1))) .no) (.slc (.var 3) (.yes (.lit (.int 1))) .no)) (.tp [(.nm 4), (.nm 5)]) [4, 5] (.lit (.bool true)) (.call 3 (.cons (.var 4) (.cons (.var 5) (.cons (.var 5) .nil)))))
def L_shows_all_redeemed : List FnI := [F_all_redeemed, F_is_told, F_is_order, F_is_int, F_told_stuck]
@[simp] theorem Lf_shows_all_redeemed_0 : L_shows_all_redeemed[0]? = some F_all_redeemed := (rfl)
@[simp] theorem Lf_shows_all_redeemed_1 : L_shows_all_redeemed[1]? = some F_is_told := (rfl)
@[simp] theorem Lf_shows_all_redeemed_2 : L_shows_all_redeemed[2]? = some F_is_order := (rfl)
@[simp] theorem Lf_shows_all_redeemed_3 : L_shows_all_redeemed[3]? = some F_is_int := (rfl)
@[simp] theorem Lf_shows_all_redeemed_4 : L_shows_all_redeemed[4]? = some F_told_stuck := (rfl)
def D_shows_all_redeemed : Df := ⟨Str.ofString "shows_all_redeemed", 3, [Str.ofString "pledges", Str.ofString "money", Str.ofString "value", Str.ofString "told", Str.ofString "one", Str.ofString "its"], false, false,
  [(.asg [0, 1] 3 (.call 0 (.cons (.var 0) (.cons (.var 1) .nil)))),
    (.sif [2] (.not (.call 1 (.cons (.var 2) (.cons (.tup (.cons (.lit (.int 2)) (.cons (.con 5) .nil))) .nil))))
   [(.ret [] (.lit (.bool false)))]
   []),
    (.sif [] (.cmp .Eq (.bi .len (.cons (.var 2) .nil)) (.lit (.int 2)))
   [(.ret [0, 1] (.band (.cons (.cmp .Eq (.idx (.var 2) (.lit (.int 0))) (.con 3)) (.cons (.call 2 (.cons (.idx (.var 2) (.lit (.int 1))) (.cons (.bi .len (.cons (.var 0) .nil)) .nil))) (.cons (.cmp .Is (.call 4 (.cons (.var 0) (.cons (.var 1) (.cons (.idx (.var 2) (.lit (.int 1))) .nil)))) (.lit .none)) .nil)))))]
   []),
    (.sif [] (.bor (.cons (.cmp .NotEq (.idx (.var 2) (.lit (.int 0))) (.con 4)) (.cons (.cmp .NotEq (.idx (.var 3) (.lit (.int 0))) (.con 4)) .nil)))
   [(.ret [] (.lit (.bool false)))]
   []),
    (.ret [] (.bi .all (.cons X_shows_all_redeemed_1 .nil)))]⟩
def F_shows_all_redeemed : FnI := D_shows_all_redeemed.fn L_shows_all_redeemed cs
def X_most_redeemed_1 : IE := (.lc (.seq (.var 0)) (.nm 4) [4] (.lit (.bool true)) (.idx (.var 4) (.lit (.int 0))))
def B_most_redeemed_1 : List IS := [(.sif [] (.cmp .Gt (.var 3) (.var 1))
   [(.ret [2] (.var 2))]
   []),
    (.par [] 2 1 false false (.bin .Add (.var 2) (.lit (.int 1))) (.bin .Sub (.var 1) (.var 3)))]
def L_most_redeemed : List FnI := [F_look_at_owed, F_look_at_held]
@[simp] theorem Lf_most_redeemed_0 : L_most_redeemed[0]? = some F_look_at_owed := (rfl)
@[simp] theorem Lf_most_redeemed_1 : L_most_redeemed[1]? = some F_look_at_held := (rfl)
def D_most_redeemed : Df := ⟨Str.ofString "most_redeemed", 2, [Str.ofString "pledges", Str.ofString "money", Str.ofString "many", Str.ofString "owed", Str.ofString "pledge"], false, false,
  [(.expr [0] (.call 0 (.cons (.var 0) (.cons (.con 0) .nil)))),
    (.expr [1] (.call 1 (.cons (.var 1) .nil))),
    (.asg [] 2 (.lit (.int 0))),
    (.sfor [] (.seq (.bi .sorted (.cons X_most_redeemed_1 .nil))) (.nm 3)
   B_most_redeemed_1),
    (.ret [2] (.var 2))]⟩
def F_most_redeemed : FnI := D_most_redeemed.fn L_most_redeemed cs
def L_does_go : List FnI := [F_look_at_owed, F_look_at_held, F_is_order, F_told_stuck]
@[simp] theorem Lf_does_go_0 : L_does_go[0]? = some F_look_at_owed := (rfl)
@[simp] theorem Lf_does_go_1 : L_does_go[1]? = some F_look_at_held := (rfl)
@[simp] theorem Lf_does_go_2 : L_does_go[2]? = some F_is_order := (rfl)
@[simp] theorem Lf_does_go_3 : L_does_go[3]? = some F_told_stuck := (rfl)
def D_does_go : Df := ⟨Str.ofString "does_go", 3, [Str.ofString "pledges", Str.ofString "money", Str.ofString "order"], false, true,
  [(.expr [0] (.call 0 (.cons (.var 0) (.cons (.con 0) .nil)))),
    (.expr [1] (.call 1 (.cons (.var 1) .nil))),
    (.sif [2] (.not (.call 2 (.cons (.var 2) (.cons (.bi .len (.cons (.var 0) .nil)) .nil))))
   [.never]
   []),
    (.ret [0, 1, 2] (.cmp .Is (.call 3 (.cons (.var 0) (.cons (.var 1) (.cons (.var 2) .nil)))) (.lit .none)))]⟩
def F_does_go : FnI := D_does_go.fn L_does_go cs
def X_law_is_money_right_1 : IE := (.lc (.seq (.var 1)) (.nm 19) [19] (.lit (.bool true)) (.idx (.var 19) (.lit (.int 0))))
def B_law_is_money_right_1 : List IS := [(.sif [] (.cmp .LtE (.var 12) (.var 11))
   [(.par [] 10 11 false false (.bin .Add (.var 10) (.lit (.int 1))) (.bin .Sub (.var 11) (.var 12)))]
   [])]
def X_law_is_money_right_2 : IE := (.lc (.rng1 (.bi .len (.cons (.var 1) .nil))) (.nm 16) [16] (.cmp .NotIn (.var 16) (.idx (.var 13) (.lit (.int 1)))) (.var 16))
def B_law_is_money_right_2 : List IS := [(.sif [] (.cmp .Gt (.idx (.idx (.var 1) (.var 16)) (.lit (.int 0))) (.var 14))
   [(.ret [] (.lit (.bool false)))]
   []),
    (.asg [] 14 (.bin .Sub (.bin .Add (.var 14) (.idx (.idx (.var 1) (.var 16)) (.lit (.int 1)))) (.idx (.idx (.var 1) (.var 16)) (.lit (.int 0)))))]
def X_law_is_money_right_3 : IE := (.lc (.seq (.var 15)) (.nm 16) [16] (.lit (.bool true)) (.band (.cons (.cmp .Gt (.idx (.idx (.var 1) (.var 16)) (.lit (.int 1))) (.idx (.idx (.var 1) (.var 16)) (.lit (.int 0)))) (.cons (.cmp .LtE (.idx (.idx (.var 1) (.var 16)) (.lit (.int 0))) (.var 14)) .nil))))
def L_law_is_money_right : List FnI := [F_law_best_order, F_most_made, F_law_take, F_law_is_bool, F_all_redeemed, F_law_stuck, F_shows_most_made, F_shows_all_redeemed, F_most_redeemed, F_does_go]
@[simp] theorem Lf_law_is_money_right_0 : L_law_is_money_right[0]? = some F_law_best_order := (rfl)
@[simp] theorem Lf_law_is_money_right_1 : L_law_is_money_right[1]? = some F_most_made := (rfl)
@[simp] theorem Lf_law_is_money_right_2 : L_law_is_money_right[2]? = some F_law_take := (rfl)
@[simp] theorem Lf_law_is_money_right_3 : L_law_is_money_right[3]? = some F_law_is_bool := (rfl)
@[simp] theorem Lf_law_is_money_right_4 : L_law_is_money_right[4]? = some F_all_redeemed := (rfl)
@[simp] theorem Lf_law_is_money_right_5 : L_law_is_money_right[5]? = some F_law_stuck := (rfl)
@[simp] theorem Lf_law_is_money_right_6 : L_law_is_money_right[6]? = some F_shows_most_made := (rfl)
@[simp] theorem Lf_law_is_money_right_7 : L_law_is_money_right[7]? = some F_shows_all_redeemed := (rfl)
@[simp] theorem Lf_law_is_money_right_8 : L_law_is_money_right[8]? = some F_most_redeemed := (rfl)
@[simp] theorem Lf_law_is_money_right_9 : L_law_is_money_right[9]? = some F_does_go := (rfl)
def D_law_is_money_right : Df := ⟨Str.ofString "_law_is_money_right", 4, [Str.ofString "pot", Str.ofString "pledges", Str.ofString "money", Str.ofString "least", Str.ofString "told", Str.ofString "stuck", Str.ofString "order", Str.ofString "one", Str.ofString "other", Str.ofString "goes", Str.ofString "many", Str.ofString "left", Str.ofString "owed_then", Str.ofString "made", Str.ofString "here", Str.ofString "rest", Str.ofString "at", Str.ofString "bent", Str.ofString "due", Str.ofString "pledge"], true, false,
  [(.par [1, 2] 4 5 false false (.call 4 (.cons (.var 1) (.cons (.var 2) .nil))) (.call 5 (.cons (.var 1) (.cons (.var 2) (.cons (.call 0 (.cons (.var 1) .nil)) .nil))))),
    (.sif [1, 2, 4] (.bor (.cons (.cmp .NotEq (.cmp .Is (.var 5) (.lit .none)) (.cmp .GtE (.var 2) (.var 3))) (.cons (.cmp .IsNot (.call 7 (.cons (.var 1) (.cons (.var 2) (.cons (.var 4) .nil)))) (.lit (.bool true))) .nil)))
   [(.ret [] (.lit (.bool false)))]
   []),
    (.sif [] (.band (.cons (.cmp .IsNot (.var 5) (.lit .none)) (.cons (.cmp .NotEq (.bi .repr (.cons (.var 4) .nil)) (.bi .repr (.cons (.bin .Add (.tup (.cons (.lit (.str (Str.ofString "stuck"))) .nil)) (.var 5)) .nil))) .nil)))
   [(.ret [] (.lit (.bool false)))]
   []),
    (.sif [] (.cmp .Is (.var 5) (.lit .none))
   [(.sif [1, 2] (.bor (.cons (.cmp .NotEq (.idx (.var 4) (.lit (.int 0))) (.lit (.str (Str.ofString "order")))) (.cons (.cmp .IsNot (.call 5 (.cons (.var 1) (.cons (.var 2) (.cons (.idx (.var 4) (.lit (.int 1))) .nil)))) (.lit .none)) .nil)))
   [(.ret [] (.lit (.bool false)))]
   []),
    (.sif [] (.cmp .NotEq (.bi .sorted (.cons (.idx (.var 4) (.lit (.int 1))) .nil)) (.lrg1 false (.bi .len (.cons (.var 1) .nil))))
   [(.ret [] (.lit (.bool false)))]
   [])]
   []),
    (.asgO [1] 6 (.call 0 (.cons (.var 1) .nil))),
    (.par [] 7 8 false false (.callp 2 (.cons (.bi .len (.cons (.var 6) .nil)) .nil)) (.callp 2 (.cons (.bi .len (.cons (.var 6) .nil)) .nil))),
    (.swp [] 6 (.var 7) (.var 8) (.idx (.var 6) (.var 8)) (.idx (.var 6) (.var 7))),
    (.fz [6] (.asg [1, 2, 6] 9 (.cmp .Is (.call 5 (.cons (.var 1) (.cons (.var 2) (.cons (.var 6) .nil)))) (.lit .none)))),
    (.sif [1, 2, 9] (.bor (.cons (.band (.cons (.var 9) (.cons (.cmp .Lt (.var 2) (.var 3)) .nil))) (.cons (.not (.call 3 (.cons (.call 9 (.cons (.var 1) (.cons (.var 2) (.cons (.bi .tuple (.cons (.var 6) .nil)) .nil)))) (.cons (.var 9) .nil)))) .nil)))
   [(.ret [] (.lit (.bool false)))]
   []),
    (.sif [1, 2, 9] (.not (.call 3 (.cons (.call 7 (.cons (.var 1) (.cons (.var 2) (.cons (.tup (.cons (.lit (.str (Str.ofString "order"))) (.cons (.bi .tuple (.cons (.var 6) .nil)) .nil))) .nil)))) (.cons (.var 9) .nil))))
   [(.ret [] (.lit (.bool false)))]
   []),
    (.par [2] 10 11 false false (.lit (.int 0)) (.var 2)),
    (.sfor [] (.seq (.bi .sorted (.cons X_law_is_money_right_1 .nil))) (.nm 12)
   B_law_is_money_right_1),
    (.sif [1, 2] (.cmp .NotEq (.bi .repr (.cons (.call 8 (.cons (.var 1) (.cons (.var 2) .nil))) .nil)) (.bi .repr (.cons (.var 10) .nil)))
   [(.ret [] (.lit (.bool false)))]
   []),
    (.asg [1, 2] 13 (.call 1 (.cons (.var 1) (.cons (.var 2) .nil)))),
    (.par [2] 14 15 false false (.var 2) X_law_is_money_right_2),
    (.sfor [] (.seq (.idx (.var 13) (.lit (.int 1)))) (.nm 16)
   B_law_is_money_right_2),
    (.sif [1, 2, 13] (.bor (.cons (.cmp .NotEq (.var 14) (.idx (.var 13) (.lit (.int 0)))) (.cons (.cmp .NotEq (.slen (.idx (.var 13) (.lit (.int 1)))) (.bi .len (.cons (.idx (.var 13) (.lit (.int 1))) .nil))) (.cons (.cmp .IsNot (.call 6 (.cons (.var 1) (.cons (.var 2) (.cons (.var 13) .nil)))) (.lit (.bool true))) .nil))))
   [(.ret [] (.lit (.bool false)))]
   []),
    (.sif [] (.bi .any (.cons X_law_is_money_right_3 .nil))
   [(.ret [] (.lit (.bool false)))]
   []),
    (.sif [] (.cmp .Eq (.idx (.var 13) (.lit (.int 1))) (.tup .nil))
   [(.ret [] (.cmp .Eq (.idx (.var 13) (.lit (.int 0))) (.var 2)))]
   []),
    (.asg [] 16 (.callp 2 (.cons (.bi .len (.cons (.idx (.var 13) (.lit (.int 1))) .nil)) .nil))),
    (.asg [] 17 (.bin .Add (.slc (.idx (.var 13) (.lit (.int 1))) .no (.yes (.var 16))) (.slc (.idx (.var 13) (.lit (.int 1))) (.yes (.bin .Add (.var 16) (.lit (.int 1)))) .no))),
    (.asg [1, 2, 17] 18 (.band (.cons (.cmp .Eq (.idx (.idx (.var 1) (.idx (.idx (.var 13) (.lit (.int 1))) (.var 16))) (.lit (.int 0))) (.idx (.idx (.var 1) (.idx (.idx (.var 13) (.lit (.int 1))) (.var 16))) (.lit (.int 1)))) (.cons (.cmp .Is (.call 5 (.cons (.var 1) (.cons (.var 2) (.cons (.var 17) .nil)))) (.lit .none)) .nil)))),
    (.ret [1, 2, 17, 18] (.call 3 (.cons (.call 6 (.cons (.var 1) (.cons (.var 2) (.cons (.tup (.cons (.idx (.var 13) (.lit (.int 0))) (.cons (.var 17) .nil))) .nil)))) (.cons (.var 18) .nil))))]⟩
def F_law_is_money_right : FnI := D_law_is_money_right.fn L_law_is_money_right cs
def B_law_right_1 : List IS := [(.asg [2] 9 (.bi .int (.cons (.callp 3 (.cons (.var 2) .nil)) .nil))),
    (.asg [2, 9] 10 (.callp 1 (.cons (.lst (.cons (.var 9) (.cons (.bi .int (.cons (.callp 3 (.cons (.var 2) .nil)) .nil)) (.cons (.bin .FloorDiv (.var 9) (.lit (.int 2))) (.cons (.bi .min (.cons (.bin .Pow (.lit (.int 10)) (.lit (.int 6))) (.cons (.bin .Add (.var 9) (.lit (.int 3))) .nil))) .nil))))) .nil))),
    (.app [9, 10] 1 (.tup (.cons (.var 9) (.cons (.var 10) .nil)))),
    (.sif [] (.band (.cons (.cmp .Gt (.var 3) (.lit (.int 0))) (.cons (.cmp .Eq (.callp 3 (.cons (.lit (.int 5)) .nil)) (.lit (.int 0))) .nil)))
   [(.set [] 1 (.neg (.lit (.int 1))) (.idx (.var 1) (.neg (.lit (.int 2)))))]
   [])]
def X_law_right_1 : IE := (.lc (.seq (.var 1)) (.tp [(.nm 9), (.nm 10)]) [9, 10] (.lit (.bool true)) (.tup (.cons (.var 10) (.cons (.var 9) .nil))))
def X_law_right_2 : IE := (.lc (.seq (.var 1)) (.tp [(.nm 9), (.nm 10)]) [9, 10] (.lit (.bool true)) (.bin .Sub (.var 10) (.var 9)))
def B_law_right_2 : List IS := [(.fz [1] (.sif [1, 4, 8] (.not (.callp 4 (.cons (.var 1) (.cons (.var 8) (.cons (.var 4) .nil)))))
   [(.ret [] (.lit (.bool false)))]
   []))]
def L_law_right : List FnI := [F_law_least, F_law_of, F_least_money, F_law_take, F_law_is_money_right]
@[simp] theorem Lf_law_right_0 : L_law_right[0]? = some F_law_least := (rfl)
@[simp] theorem Lf_law_right_1 : L_law_right[1]? = some F_law_of := (rfl)
@[simp] theorem Lf_law_right_2 : L_law_right[2]? = some F_least_money := (rfl)
@[simp] theorem Lf_law_right_3 : L_law_right[3]? = some F_law_take := (rfl)
@[simp] theorem Lf_law_right_4 : L_law_right[4]? = some F_law_is_money_right := (rfl)
def D_law_right : Df := ⟨Str.ofString "_law_right", 1, [Str.ofString "pot", Str.ofString "pledges", Str.ofString "top", Str.ofString "at", Str.ofString "least", Str.ofString "back", Str.ofString "moved", Str.ofString "some", Str.ofString "money", Str.ofString "owed_then", Str.ofString "worth"], true, true,
  [(.par [] 1 2 true false (.lst .nil) (.callp 1 (.cons (.lst (.cons (.lit (.int 9)) (.cons (.lit (.int 1000)) (.cons (.bin .Add (.bin .Pow (.lit (.int 10)) (.lit (.int 6))) (.lit (.int 1))) .nil)))) .nil))),
    (.sfor [] (.rng1 (.bin .Add (.lit (.int 20)) (.callp 3 (.cons (.lit (.int 21)) .nil)))) (.nm 3)
   B_law_right_1),
    (.asgO [] 1 (.bi .tuple (.cons (.var 1) .nil))),
    (.fz [1] (.asg [1] 4 (.call 0 (.cons (.var 1) .nil)))),
    (.fz [1] (.sif [1] (.cmp .NotEq (.bi .repr (.cons (.call 2 (.cons (.var 1) .nil)) .nil)) (.bi .repr (.cons (.var 4) .nil)))
   [(.ret [] (.lit (.bool false)))]
   [])),
    (.asg [] 5 (.bi .tuple (.cons X_law_right_1 .nil))),
    (.asg [] 6 (.bi .sum (.cons X_law_right_2 .nil))),
    (.sif [5] (.cmp .NotEq (.call 2 (.cons (.var 5) .nil)) (.bin .Add (.var 4) (.var 6)))
   [(.ret [] (.lit (.bool false)))]
   []),
    (.asg [2, 4] 7 (.lst (.cons (.var 4) (.cons (.bi .max (.cons (.lit (.int 0)) (.cons (.bin .Sub (.var 4) (.lit (.int 1))) .nil))) (.cons (.bin .Add (.var 4) (.lit (.int 1))) (.cons (.bi .int (.cons (.callp 3 (.cons (.var 2) .nil)) .nil)) (.cons (.bi .int (.cons (.callp 3 (.cons (.bin .Pow (.lit (.int 10)) (.lit (.int 8))) .nil)) .nil)) .nil))))))),
    (.sfor [] (.seq (.ssort (.var 7))) (.nm 8)
   B_law_right_2),
    (.ret [] (.lit (.bool true)))]⟩
def F_law_right : FnI := D_law_right.fn L_law_right cs
def B_law_1 : List IS := [(.sif [] (.bor (.cons (.not (.callp 2 .nil)) (.cons (.not (.callp 2 .nil)) .nil)))
   [(.ret [] (.lit (.bool false)))]
   [])]
def L_law : List FnI := [F_law_cells, F_law_pot, F_law_right]
@[simp] theorem Lf_law_0 : L_law[0]? = some F_law_cells := (rfl)
@[simp] theorem Lf_law_1 : L_law[1]? = some F_law_pot := (rfl)
@[simp] theorem Lf_law_2 : L_law[2]? = some F_law_right := (rfl)
def D_law : Df := ⟨Str.ofString "law", 1, [Str.ofString "script", Str.ofString "place", Str.ofString "pot"], false, true,
  [(.sforP [0] (.seq (.call 0 (.cons (.var 0) (.cons (.lit (.int 3)) .nil)))) (.nm 1) [0, 1] 2 (.call 1 (.cons (.var 0) (.cons (.var 1) .nil)))
   B_law_1),
    (.ret [] (.lit (.bool true)))]⟩
def F_law : FnI := D_law.fn L_law cs
theorem ck_law_cells : D_law_cells.ok L_law_cells cs (topS 31) = true := by decide +kernel
theorem ck_law_pot : D_law_pot.ok L_law_pot cs (topS 28) = true := by decide +kernel
theorem ck_law_needed : D_law_needed.ok L_law_needed cs (topS 33) = true := by decide +kernel
theorem ck_law_least : D_law_least.ok L_law_least cs (topS 34) = true := by decide +kernel
theorem ck_law_take : D_law_take.ok L_law_take cs (topS 29) = true := by decide +kernel
theorem ck_law_of : D_law_of.ok L_law_of cs (topS 30) = true := by decide +kernel
theorem ck_is_int : D_is_int.ok L_is_int cs (topS 5) = true := by decide +kernel
theorem ck_are_ints : D_are_ints.ok L_are_ints cs (topS 6) = true := by decide +kernel
theorem ck_look_at_owed : D_look_at_owed.ok L_look_at_owed cs (topS 16) = true := by decide +kernel
theorem ck_told_best_order : D_told_best_order.ok L_told_best_order cs (topS 19) = true := by decide +kernel
theorem ck_least_money : D_least_money.ok L_least_money cs (topS 24) = true := by decide +kernel
theorem ck_law_best_order : D_law_best_order.ok L_law_best_order cs (topS 36) = true := by decide +kernel
theorem ck_look_at_held : D_look_at_held.ok L_look_at_held cs (topS 17) = true := by decide +kernel
theorem ck_most_made : D_most_made.ok L_most_made cs (topS 25) = true := by decide +kernel
theorem ck_law_is_bool : D_law_is_bool.ok L_law_is_bool cs (topS 32) = true := by decide +kernel
theorem ck_told_stuck : D_told_stuck.ok L_told_stuck cs (topS 20) = true := by decide +kernel
theorem ck_all_redeemed : D_all_redeemed.ok L_all_redeemed cs (topS 21) = true := by decide +kernel
theorem ck_law_stuck : D_law_stuck.ok L_law_stuck cs (topS 35) = true := by decide +kernel
theorem ck_shows_most_made : D_shows_most_made.ok L_shows_most_made cs (topS 26) = true := by decide +kernel
theorem ck_is_told : D_is_told.ok L_is_told cs (topS 7) = true := by decide +kernel
theorem ck_is_order : D_is_order.ok L_is_order cs (topS 8) = true := by decide +kernel
theorem ck_shows_all_redeemed : D_shows_all_redeemed.ok L_shows_all_redeemed cs (topS 22) = true := by decide +kernel
theorem ck_most_redeemed : D_most_redeemed.ok L_most_redeemed cs (topS 18) = true := by decide +kernel
theorem ck_does_go : D_does_go.ok L_does_go cs (topS 23) = true := by decide +kernel
theorem ck_law_is_money_right : D_law_is_money_right.ok L_law_is_money_right cs (topS 37) = true := by decide +kernel
theorem ck_law_right : D_law_right.ok L_law_right cs (topS 38) = true := by decide +kernel
theorem ck_law : D_law.ok L_law cs (topS 39) = true := by decide +kernel
theorem bd_law_cells : BindA D_law_cells.name (topS 31) (D_law_cells.N.take D_law_cells.n) := fun kV doc pm an cdv ct us hl => match us, hl with | [_, _], _ => rfl
theorem bd_law_pot : BindA D_law_pot.name (topS 28) (D_law_pot.N.take D_law_pot.n) := fun kV doc pm an cdv ct us hl => match us, hl with | [_, _], _ => rfl
theorem bd_law_needed : BindA D_law_needed.name (topS 33) (D_law_needed.N.take D_law_needed.n) := fun kV doc pm an cdv ct us hl => match us, hl with | [_], _ => rfl
theorem bd_law_least : BindA D_law_least.name (topS 34) (D_law_least.N.take D_law_least.n) := fun kV doc pm an cdv ct us hl => match us, hl with | [_], _ => rfl
theorem bd_law_take : BindA D_law_take.name (topS 29) (D_law_take.N.take D_law_take.n) := fun kV doc pm an cdv ct us hl => match us, hl with | [_, _], _ => rfl
theorem bd_law_of : BindA D_law_of.name (topS 30) (D_law_of.N.take D_law_of.n) := fun kV doc pm an cdv ct us hl => match us, hl with | [_, _], _ => rfl
theorem bd_is_int : BindA D_is_int.name (topS 5) (D_is_int.N.take D_is_int.n) := fun kV doc pm an cdv ct us hl => match us, hl with | [_, _, _], _ => rfl
theorem bd_are_ints : BindA D_are_ints.name (topS 6) (D_are_ints.N.take D_are_ints.n) := fun kV doc pm an cdv ct us hl => match us, hl with | [_, _, _], _ => rfl
theorem bd_look_at_owed : BindA D_look_at_owed.name (topS 16) (D_look_at_owed.N.take D_look_at_owed.n) := fun kV doc pm an cdv ct us hl => match us, hl with | [_, _], _ => rfl
theorem bd_told_best_order : BindA D_told_best_order.name (topS 19) (D_told_best_order.N.take D_told_best_order.n) := fun kV doc pm an cdv ct us hl => match us, hl with | [_], _ => rfl
theorem bd_least_money : BindA D_least_money.name (topS 24) (D_least_money.N.take D_least_money.n) := fun kV doc pm an cdv ct us hl => match us, hl with | [_], _ => rfl
theorem bd_law_best_order : BindA D_law_best_order.name (topS 36) (D_law_best_order.N.take D_law_best_order.n) := fun kV doc pm an cdv ct us hl => match us, hl with | [_], _ => rfl
theorem bd_look_at_held : BindA D_look_at_held.name (topS 17) (D_look_at_held.N.take D_look_at_held.n) := fun kV doc pm an cdv ct us hl => match us, hl with | [_], _ => rfl
theorem bd_most_made : BindA D_most_made.name (topS 25) (D_most_made.N.take D_most_made.n) := fun kV doc pm an cdv ct us hl => match us, hl with | [_, _], _ => rfl
theorem bd_law_is_bool : BindA D_law_is_bool.name (topS 32) (D_law_is_bool.N.take D_law_is_bool.n) := fun kV doc pm an cdv ct us hl => match us, hl with | [_, _], _ => rfl
theorem bd_told_stuck : BindA D_told_stuck.name (topS 20) (D_told_stuck.N.take D_told_stuck.n) := fun kV doc pm an cdv ct us hl => match us, hl with | [_, _, _], _ => rfl
theorem bd_all_redeemed : BindA D_all_redeemed.name (topS 21) (D_all_redeemed.N.take D_all_redeemed.n) := fun kV doc pm an cdv ct us hl => match us, hl with | [_, _], _ => rfl
theorem bd_law_stuck : BindA D_law_stuck.name (topS 35) (D_law_stuck.N.take D_law_stuck.n) := fun kV doc pm an cdv ct us hl => match us, hl with | [_, _, _], _ => rfl
theorem bd_shows_most_made : BindA D_shows_most_made.name (topS 26) (D_shows_most_made.N.take D_shows_most_made.n) := fun kV doc pm an cdv ct us hl => match us, hl with | [_, _, _], _ => rfl
theorem bd_is_told : BindA D_is_told.name (topS 7) (D_is_told.N.take D_is_told.n) := fun kV doc pm an cdv ct us hl => match us, hl with | [_, _], _ => rfl
theorem bd_is_order : BindA D_is_order.name (topS 8) (D_is_order.N.take D_is_order.n) := fun kV doc pm an cdv ct us hl => match us, hl with | [_, _], _ => rfl
theorem bd_shows_all_redeemed : BindA D_shows_all_redeemed.name (topS 22) (D_shows_all_redeemed.N.take D_shows_all_redeemed.n) := fun kV doc pm an cdv ct us hl => match us, hl with | [_, _, _], _ => rfl
theorem bd_most_redeemed : BindA D_most_redeemed.name (topS 18) (D_most_redeemed.N.take D_most_redeemed.n) := fun kV doc pm an cdv ct us hl => match us, hl with | [_, _], _ => rfl
theorem bd_does_go : BindA D_does_go.name (topS 23) (D_does_go.N.take D_does_go.n) := fun kV doc pm an cdv ct us hl => match us, hl with | [_, _, _], _ => rfl
theorem bd_law_is_money_right : BindA D_law_is_money_right.name (topS 37) (D_law_is_money_right.N.take D_law_is_money_right.n) := fun kV doc pm an cdv ct us hl => match us, hl with | [_, _, _, _], _ => rfl
theorem bd_law_right : BindA D_law_right.name (topS 38) (D_law_right.N.take D_law_right.n) := fun kV doc pm an cdv ct us hl => match us, hl with | [_], _ => rfl
theorem bd_law : BindA D_law.name (topS 39) (D_law.N.take D_law.n) := fun kV doc pm an cdv ct us hl => match us, hl with | [_], _ => rfl
theorem all_mk {P : Program} {w : World} {K : PySem.W.Frag} {mg : Str → Option Value} {fa : Addr} (hfa : mg D_law.name = some (.ref fa))
    (a_law_cells : ∃ f fd, FunAt K D_law_cells.name (topS 31) f fd)
    (a_law_pot : ∃ f fd, FunAt K D_law_pot.name (topS 28) f fd)
    (a_law_needed : ∃ f fd, FunAt K D_law_needed.name (topS 33) f fd)
    (a_law_least : ∃ f fd, FunAt K D_law_least.name (topS 34) f fd)
    (a_law_take : ∃ f fd, FunAt K D_law_take.name (topS 29) f fd)
    (a_law_of : ∃ f fd, FunAt K D_law_of.name (topS 30) f fd)
    (a_is_int : ∃ f fd, FunAt K D_is_int.name (topS 5) f fd)
    (a_are_ints : ∃ f fd, FunAt K D_are_ints.name (topS 6) f fd)
    (a_look_at_owed : ∃ f fd, FunAt K D_look_at_owed.name (topS 16) f fd)
    (a_told_best_order : ∃ f fd, FunAt K D_told_best_order.name (topS 19) f fd)
    (a_least_money : ∃ f fd, FunAt K D_least_money.name (topS 24) f fd)
    (a_law_best_order : ∃ f fd, FunAt K D_law_best_order.name (topS 36) f fd)
    (a_look_at_held : ∃ f fd, FunAt K D_look_at_held.name (topS 17) f fd)
    (a_most_made : ∃ f fd, FunAt K D_most_made.name (topS 25) f fd)
    (a_law_is_bool : ∃ f fd, FunAt K D_law_is_bool.name (topS 32) f fd)
    (a_told_stuck : ∃ f fd, FunAt K D_told_stuck.name (topS 20) f fd)
    (a_all_redeemed : ∃ f fd, FunAt K D_all_redeemed.name (topS 21) f fd)
    (a_law_stuck : ∃ f fd, FunAt K D_law_stuck.name (topS 35) f fd)
    (a_shows_most_made : ∃ f fd, FunAt K D_shows_most_made.name (topS 26) f fd)
    (a_is_told : ∃ f fd, FunAt K D_is_told.name (topS 7) f fd)
    (a_is_order : ∃ f fd, FunAt K D_is_order.name (topS 8) f fd)
    (a_shows_all_redeemed : ∃ f fd, FunAt K D_shows_all_redeemed.name (topS 22) f fd)
    (a_most_redeemed : ∃ f fd, FunAt K D_most_redeemed.name (topS 18) f fd)
    (a_does_go : ∃ f fd, FunAt K D_does_go.name (topS 23) f fd)
    (a_law_is_money_right : ∃ f fd, FunAt K D_law_is_money_right.name (topS 37) f fd)
    (a_law_right : ∃ f fd, FunAt K D_law_right.name (topS 38) f fd)
    (a_law : ∃ f fd, FunAt K D_law.name (topS 39) f fd)
    (c_0 : CsAt K (Str.ofString "MOST_PLEDGES", (.int 40)))
    (c_1 : CsAt K (Str.ofString "MOST_OWED", (.int 1000000)))
    (c_2 : CsAt K (Str.ofString "MOST_HELD", (.int 100000000)))
    (c_3 : CsAt K (Str.ofString "ORDER", (.str (Str.ofString "order"))))
    (c_4 : CsAt K (Str.ofString "STUCK", (.str (Str.ofString "stuck"))))
    (c_5 : CsAt K (Str.ofString "THREE", (.int 3)))
    (hb : blAll K bltS) :
    ∃ fd : FuncData, (∀ (s : Shared) (u : Value), BindsTo s fd ⟨[u], []⟩ [(Str.ofString "script", u)]) ∧ ∀ base : Heap, K.In base → base.Ns mainGlobals mg → FnG P w K mg base 8 fa fd [Str.ofString "script"] (spN K F_law) := by
  have hc : ∀ p ∈ cs, CsAt K p := cs_cons c_0 (cs_cons c_1 (cs_cons c_2 (cs_cons c_3 (cs_cons c_4 (cs_cons c_5 (fun p h => nomatch h))))))
  obtain ⟨f, fd, a⟩ := a_law
  refine ⟨fd, bind_law a bd_law, fun base KX G => ?_⟩
  have T : Top K mg base cs := ⟨KX, G, hc, blAll_mem hb⟩
  have k_law_cells : Kn P w K mg base 1 F_law_cells := kn_step (k := 0) T a_law_cells ck_law_cells bd_law_cells kn_nil
  have k_law_pot : Kn P w K mg base 1 F_law_pot := kn_step (k := 0) T a_law_pot ck_law_pot bd_law_pot kn_nil
  have k_law_needed : Kn P w K mg base 1 F_law_needed := kn_step (k := 0) T a_law_needed ck_law_needed bd_law_needed kn_nil
  have k_law_least : Kn P w K mg base 2 F_law_least := kn_step (k := 1) T a_law_least ck_law_least bd_law_least (kn_cons k_law_needed (by decide) kn_nil)
  have k_law_take : Kn P w K mg base 1 F_law_take := kn_step (k := 0) T a_law_take ck_law_take bd_law_take kn_nil
  have k_law_of : Kn P w K mg base 2 F_law_of := kn_step (k := 1) T a_law_of ck_law_of bd_law_of (kn_cons k_law_take (by decide) kn_nil)
  have k_is_int : Kn P w K mg base 1 F_is_int := kn_step (k := 0) T a_is_int ck_is_int bd_is_int kn_nil
  have k_are_ints : Kn P w K mg base 2 F_are_ints := kn_step (k := 1) T a_are_ints ck_are_ints bd_are_ints (kn_cons k_is_int (by decide) kn_nil)
  have k_look_at_owed : Kn P w K mg base 3 F_look_at_owed := kn_step (k := 2) T a_look_at_owed ck_look_at_owed bd_look_at_owed (kn_cons k_are_ints (by decide) kn_nil)
  have k_told_best_order : Kn P w K mg base 1 F_told_best_order := kn_step (k := 0) T a_told_best_order ck_told_best_order bd_told_best_order kn_nil
  have k_least_money : Kn P w K mg base 4 F_least_money := kn_step (k := 3) T a_least_money ck_least_money bd_least_money (kn_cons k_look_at_owed (by decide) (kn_cons k_told_best_order (by decide) kn_nil))
  have k_law_best_order : Kn P w K mg base 1 F_law_best_order := kn_step (k := 0) T a_law_best_order ck_law_best_order bd_law_best_order kn_nil
  have k_look_at_held : Kn P w K mg base 2 F_look_at_held := kn_step (k := 1) T a_look_at_held ck_look_at_held bd_look_at_held (kn_cons k_is_int (by decide) kn_nil)
  have k_most_made : Kn P w K mg base 4 F_most_made := kn_step (k := 3) T a_most_made ck_most_made bd_most_made (kn_cons k_look_at_owed (by decide) (kn_cons k_look_at_held (by decide) kn_nil))
  have k_law_is_bool : Kn P w K mg base 1 F_law_is_bool := kn_step (k := 0) T a_law_is_bool ck_law_is_bool bd_law_is_bool kn_nil
  have k_told_stuck : Kn P w K mg base 1 F_told_stuck := kn_step (k := 0) T a_told_stuck ck_told_stuck bd_told_stuck kn_nil
  have k_all_redeemed : Kn P w K mg base 4 F_all_redeemed := kn_step (k := 3) T a_all_redeemed ck_all_redeemed bd_all_redeemed (kn_cons k_look_at_owed (by decide) (kn_cons k_look_at_held (by decide) (kn_cons k_told_best_order (by decide) (kn_cons k_told_stuck (by decide) kn_nil))))
  have k_law_stuck : Kn P w K mg base 1 F_law_stuck := kn_step (k := 0) T a_law_stuck ck_law_stuck bd_law_stuck kn_nil
  have k_shows_most_made : Kn P w K mg base 5 F_shows_most_made := kn_step (k := 4) T a_shows_most_made ck_shows_most_made bd_shows_most_made (kn_cons k_most_made (by decide) (kn_cons k_is_int (by decide) (kn_cons k_are_ints (by decide) kn_nil)))
  have k_is_told : Kn P w K mg base 1 F_is_told := kn_step (k := 0) T a_is_told ck_is_told bd_is_told kn_nil
  have k_is_order : Kn P w K mg base 3 F_is_order := kn_step (k := 2) T a_is_order ck_is_order bd_is_order (kn_cons k_are_ints (by decide) kn_nil)
  have k_shows_all_redeemed : Kn P w K mg base 5 F_shows_all_redeemed := kn_step (k := 4) T a_shows_all_redeemed ck_shows_all_redeemed bd_shows_all_redeemed (kn_cons k_all_redeemed (by decide) (kn_cons k_is_told (by decide) (kn_cons k_is_order (by decide) (kn_cons k_is_int (by decide) (kn_cons k_told_stuck (by decide) kn_nil)))))
  have k_most_redeemed : Kn P w K mg base 4 F_most_redeemed := kn_step (k := 3) T a_most_redeemed ck_most_redeemed bd_most_redeemed (kn_cons k_look_at_owed (by decide) (kn_cons k_look_at_held (by decide) kn_nil))
  have k_does_go : Kn P w K mg base 4 F_does_go := kn_step (k := 3) T a_does_go ck_does_go bd_does_go (kn_cons k_look_at_owed (by decide) (kn_cons k_look_at_held (by decide) (kn_cons k_is_order (by decide) (kn_cons k_told_stuck (by decide) kn_nil))))
  have k_law_is_money_right : Kn P w K mg base 6 F_law_is_money_right := kn_step (k := 5) T a_law_is_money_right ck_law_is_money_right bd_law_is_money_right (kn_cons k_law_best_order (by decide) (kn_cons k_most_made (by decide) (kn_cons k_law_take (by decide) (kn_cons k_law_is_bool (by decide) (kn_cons k_all_redeemed (by decide) (kn_cons k_law_stuck (by decide) (kn_cons k_shows_most_made (by decide) (kn_cons k_shows_all_redeemed (by decide) (kn_cons k_most_redeemed (by decide) (kn_cons k_does_go (by decide) kn_nil))))))))))
  have k_law_right : Kn P w K mg base 7 F_law_right := kn_step (k := 6) T a_law_right ck_law_right bd_law_right (kn_cons k_law_least (by decide) (kn_cons k_law_of (by decide) (kn_cons k_least_money (by decide) (kn_cons k_law_take (by decide) (kn_cons k_law_is_money_right (by decide) kn_nil)))))
  exact law_step (k := 7) T a hfa ck_law rfl (kn_cons k_law_cells (by decide) (kn_cons k_law_pot (by decide) (kn_cons k_law_right (by decide) kn_nil)))
end K65

namespace K65
open PySem L2 Ev
variable {pt : Pt}
@[simp] theorem is_int_ap {i lo hi : Int} : appD F_is_int [.int i, .int lo, .int hi] pt = some (.bool (decide (lo ≤ i) && decide (i ≤ hi)), pt) := app_pure rfl fun pt => by
  unfold F_is_int; rw [den_ob]
  by_cases h : lo ≤ i <;> simp [D_is_int, h, initE, psOf]
@[simp] theorem are_ints_ap {xs : List Int} {lo hi : Int} (hl : xs.length ≤ 4000) : appD F_are_ints [.tuple (xs.map .int), .int lo, .int hi] pt = some (.bool (xs.all fun i => decide (lo ≤ i) && decide (i ≤ hi)), pt) := app_pure rfl fun pt => by
  unfold F_are_ints; rw [den_ob]
  have e : ∀ p, ev L_are_ints cs none X_are_ints_1 [some (.tuple (xs.map .int)), some (.int lo), some (.int hi), none] p = some (.list ((xs.map fun i => decide (lo ≤ i) && decide (i ≤ hi)).map .bool), p) := fun p => by
    rw [List.map_map]
    exact lc_map .int _ xs (by simp) (szl' hl) fun x _ => ⟨_, by simp; rfl, fun p => by simp⟩
  simp [D_are_ints, initE, psOf, e, List.all_map, -List.map_map]
@[simp] theorem are_ints2 {a b lo hi : Int} : appD F_are_ints [.tuple [.int a, .int b], .int lo, .int hi] pt = some (.bool ((decide (lo ≤ a) && decide (a ≤ hi)) && (decide (lo ≤ b) && decide (b ≤ hi))), pt) := by
  have := are_ints_ap (pt := pt) (xs := [a, b]) (lo := lo) (hi := hi) (by simp)
  simpa using this
@[simp] theorem is_bool_ap {a b : Bool} : appD F_law_is_bool [.bool a, .bool b] pt = some (.bool (decide (a = b)), pt) := app_pure rfl fun pt => by
  unfold F_law_is_bool; rw [den_ob]
  simp [D_law_is_bool, initE, psOf]
theorem take_dr {n : Int} (hn : 0 < n) (hl : n < 2 ^ 2000) : Draws F_law_take [.int n] 1 (fun d => ∃ r, d = .int r ∧ 0 ≤ r ∧ r < n) := take_draws hn hl
theorem of_dr {ds : List Dt} (h0 : ds ≠ []) (hl : ds.length ≤ sizeLine) : Draws F_law_of [.list ds] 1 (· ∈ ds) := of_draws h0 hl
theorem of_drt {ds : List Dt} (h0 : ds ≠ []) (hl : ds.length ≤ sizeLine) : Draws F_law_of [.tuple ds] 1 (· ∈ ds) := of_draws_t h0 hl
theorem lt2000 {n : Int} (h : n ≤ 2 ^ 60) : n < 2 ^ 2000 := Int.lt_of_le_of_lt h (by decide +kernel)

theorem sum_pos : ∀ {l : List Int}, (∀ x ∈ l, 0 ≤ x) → 0 ≤ l.sum
  | [], _ => by simp
  | x :: l, h => by
    have := h x (.head _)
    have := sum_pos fun y hy => h y (.tail _ hy)
    rw [List.sum_cons]; omega
theorem sum_le {B : Int} : ∀ {l : List Int}, (∀ x ∈ l, x ≤ B) → l.sum ≤ l.length * B
  | [], _ => by simp
  | x :: l, h => by
    have := h x (.head _)
    have := sum_le fun y hy => h y (.tail _ hy)
    have e : ((l.length + 1 : Nat) : Int) * B = l.length * B + B := by rw [Int.natCast_add, Int.add_mul]; simp
    rw [List.sum_cons, List.length_cons, e]; omega
theorem perm_sum {l m : List Int} (h : l.Perm m) : l.sum = m.sum := by
  induction h with
  | nil => rfl
  | cons x _ ih => rw [List.sum_cons, List.sum_cons, ih]
  | swap x y l => simp only [List.sum_cons]; omega
  | trans _ _ a b => rw [a, b]
/-! plain mathematics: one behind the other -/
abbrev PI := Int × Int
def del (q : PI) : Int := q.2 - q.1
def goes (m : Int) : List PI → Bool
  | [] => true
  | q :: l => decide (q.1 ≤ m) && goes (m + del q) l
def needI (l : List PI) : Int := (l.foldl (fun (s : Int × Int) q => (max s.1 (q.1 - s.2), s.2 + del q)) (0, 0)).1
theorem need_fold : ∀ (l : List PI) (n k m : Int), n ≤ m → ((l.foldl (fun (s : Int × Int) q => (max s.1 (q.1 - s.2), s.2 + del q)) (n, k)).1 ≤ m ↔ goes (m + k) l = true)
  | [], n, k, m, h => by simp [goes, h]
  | q :: l, n, k, m, h => by
    rw [List.foldl_cons]
    unfold goes
    by_cases z : q.1 ≤ m + k
    · rw [need_fold l _ _ m (by simp only; omega), decide_eq_true z, Bool.true_and, Int.add_assoc]
    · rw [decide_eq_false z, Bool.false_and]
      have mono : ∀ (l : List PI) (n k : Int), n ≤ (l.foldl (fun (s : Int × Int) q => (max s.1 (q.1 - s.2), s.2 + del q)) (n, k)).1 := fun l => by
        induction l with
        | nil => intro n k; exact Int.le_refl _
        | cons q l ih => intro n k; rw [List.foldl_cons]; exact Int.le_trans (Int.le_max_left n (q.1 - k)) (ih _ _)
      have := mono l (max n (q.1 - k)) (k + del q)
      constructor
      · intro hh; simp only at this hh; omega
      · intro hh; cases hh
theorem need_iff {l : List PI} {m : Int} (h : 0 ≤ m) : needI l ≤ m ↔ goes m l = true := by
  have := need_fold l 0 0 m h
  rwa [Int.add_zero] at this
theorem need_nn (l : List PI) : 0 ≤ needI l := by
  have mono : ∀ (l : List PI) (n k : Int), n ≤ (l.foldl (fun (s : Int × Int) q => (max s.1 (q.1 - s.2), s.2 + del q)) (n, k)).1 := fun l => by
    induction l with
    | nil => intro n k; exact Int.le_refl _
    | cons q l ih => intro n k; rw [List.foldl_cons]; exact Int.le_trans (Int.le_max_left n (q.1 - k)) (ih _ _)
  exact mono l 0 0
theorem need_of {l : List PI} {n : Int} (h0 : 0 ≤ n) (h : ∀ m, 0 ≤ m → (goes m l = true ↔ n ≤ m)) : needI l = n := by
  have h1 := (need_iff h0).mpr ((h n h0).mpr (Int.le_refl _))
  have h2 := (h (needI l) (need_nn l)).mp ((need_iff (need_nn l)).mp (Int.le_refl _))
  omega
theorem goes_append : ∀ (a b : List PI) (m : Int), goes m (a ++ b) = (goes m a && goes (m + (a.map del).sum) b)
  | [], b, m => by simp [goes]
  | q :: a, b, m => by
    rw [List.cons_append, goes, goes_append a b, goes, List.map_cons, List.sum_cons, Bool.and_assoc, Int.add_assoc]
/-- a may go ahead of b -/
def Ah (a b : PI) : Prop := ∀ m, b.1 ≤ m → a.1 ≤ m + del b → a.1 ≤ m ∧ b.1 ≤ m + del a
theorem goes_front {a : PI} : ∀ (l1 l2 : List PI) (m : Int), (∀ x ∈ l1, Ah a x) → goes m (l1 ++ a :: l2) = true → goes m (a :: (l1 ++ l2)) = true
  | [], l2, m, _, h => h
  | x :: l1, l2, m, hx, h => by
    rw [List.cons_append, goes, Bool.and_eq_true, decide_eq_true_eq] at h
    have ih := goes_front l1 l2 (m + del x) (fun y hy => hx y (.tail _ hy)) h.2
    rw [goes, Bool.and_eq_true, decide_eq_true_eq] at ih
    obtain ⟨h1, h2⟩ := hx x (.head _) m h.1 ih.1
    rw [goes, List.cons_append, goes, Bool.and_eq_true, Bool.and_eq_true, decide_eq_true_eq, decide_eq_true_eq]
    refine ⟨h1, h2, ?_⟩
    have e : m + del a + del x = m + del x + del a := by omega
    rw [e]; exact ih.2
theorem best_goes : ∀ {s l : List PI} {m : Int}, s.Pairwise Ah → l.Perm s → goes m l = true → goes m s = true
  | [], l, m, _, hp, h => by rw [List.perm_nil.mp hp] at h; exact h
  | a :: s, l, m, hs, hp, h => by
    obtain ⟨h1, h2⟩ := List.pairwise_cons.mp hs
    have ha : a ∈ l := hp.mem_iff.mpr (.head _)
    obtain ⟨l1, l2, rfl⟩ := List.append_of_mem ha
    have hp2 : (l1 ++ l2).Perm s := by
      have := (List.perm_middle (a := a) (l₁ := l1) (l₂ := l2)).symm.trans hp
      exact List.Perm.cons_inv this
    have := goes_front l1 l2 m (fun x hx => h1 x (hp2.mem_iff.mp (List.mem_append_left _ hx))) h
    rw [goes, Bool.and_eq_true] at this ⊢
    exact ⟨this.1, best_goes h2 hp2 this.2⟩
theorem ah_gains {a b : PI} (ha : a.1 ≤ a.2) (h : a.1 ≤ b.1) : Ah a b := fun m h1 h2 => by unfold del at *; omega
theorem ah_mixed {a b : PI} (ha : a.1 ≤ a.2) (hb : b.2 < b.1) : Ah a b := fun m h1 h2 => by unfold del at *; omega
theorem ah_losses {a b : PI} (hb : b.2 < b.1) (h : b.2 ≤ a.2) : Ah a b := fun m h1 h2 => by unfold del at *; omega
/-- turned about -/
def turn (l : List PI) : List PI := (l.map fun q => (q.2, q.1)).reverse
theorem del_turn (l : List PI) : ((turn l).map del).sum = -(l.map del).sum := by
  have e : (turn l).map del = (l.map fun q => -del q).reverse := by
    unfold turn
    rw [List.map_reverse, List.map_map]
    congr 1
    apply List.map_congr_left
    intro q _
    simp only [Function.comp, del]; omega
  rw [e, perm_sum (List.reverse_perm _)]
  clear e
  induction l with
  | nil => rfl
  | cons q l ih => simp only [List.map_cons, List.sum_cons] at *; omega
theorem goes_turn : ∀ (l : List PI) (m : Int), goes m l = goes (m + (l.map del).sum) (turn l)
  | [], m => by simp [turn, goes]
  | q :: l, m => by
    have e : turn (q :: l) = turn l ++ [(q.2, q.1)] := by unfold turn; simp
    rw [e, goes_append, goes, List.map_cons, List.sum_cons, goes_turn l (m + del q), del_turn]
    have e1 : m + (del q + (l.map del).sum) = m + del q + (l.map del).sum := by omega
    have e2 : m + del q + (l.map del).sum + -(l.map del).sum = m + del q := by omega
    rw [e1, e2, Bool.and_comm]
    congr 1
    unfold goes
    rw [goes, Bool.and_true]
    rw [Bool.eq_iff_iff, decide_eq_true_eq, decide_eq_true_eq]
    unfold del; simp only; omega
theorem goes_neg {l : List PI} {m : Int} (h : l ≠ []) (h0 : ∀ q ∈ l, 0 ≤ q.1) (hm : m < 0) : goes m l = false := by
  cases l with
  | nil => exact absurd rfl h
  | cons q l =>
    have := h0 q (.head _)
    rw [goes, decide_eq_false (by omega), Bool.false_and]
end K65

namespace K65
open PySem L2 Ev
/-! orders of places -/
variable {ps : List PI}
/-- pledges: what is owed, what it is worth -/
structure Plg (ps : List PI) : Prop where
  lo : 1 ≤ ps.length
  hi : ps.length ≤ 40
  all : ∀ q ∈ ps, 0 ≤ q.1 ∧ q.1 ≤ 1000000 ∧ 0 ≤ q.2 ∧ q.2 ≤ 1000000
def gainP (ps : List PI) : List PI := psort ((ps.zipIdx.filter fun q => decide (q.1.1 ≤ q.1.2)).map fun q => (q.1.1, (q.2 : Int)))
def lossP (ps : List PI) : List PI := psort ((ps.zipIdx.filter fun q => decide (q.1.2 < q.1.1)).map fun q => (-q.1.2, (q.2 : Int)))
/-- the best order, as places -/
def ordI (ps : List PI) : List Int := (gainP ps ++ lossP ps).map (·.2)
def atP (ps : List PI) (i : Int) : PI := ps.getD i.toNat (0, 0)
def vals (ps : List PI) (o : List Int) : List PI := o.map (atP ps)
theorem at_nat (k : Nat) : atP ps (k : Int) = ps.getD k (0, 0) := by unfold atP; rw [Int.toNat_natCast]
theorem gain_mem {r : PI} (h : r ∈ gainP ps) : ∃ (k : Nat) (q : PI), ps[k]? = some q ∧ q.1 ≤ q.2 ∧ r = (q.1, (k : Int)) := by
  unfold gainP at h
  rw [(psort_perm _).mem_iff, List.mem_map] at h
  obtain ⟨⟨q, k⟩, hk, rfl⟩ := h
  obtain ⟨h1, h2⟩ := List.mem_filter.mp hk
  exact ⟨k, q, List.mk_mem_zipIdx_iff_getElem?.mp h1, by simpa using h2, rfl⟩
theorem loss_mem {r : PI} (h : r ∈ lossP ps) : ∃ (k : Nat) (q : PI), ps[k]? = some q ∧ q.2 < q.1 ∧ r = (-q.2, (k : Int)) := by
  unfold lossP at h
  rw [(psort_perm _).mem_iff, List.mem_map] at h
  obtain ⟨⟨q, k⟩, hk, rfl⟩ := h
  obtain ⟨h1, h2⟩ := List.mem_filter.mp hk
  exact ⟨k, q, List.mk_mem_zipIdx_iff_getElem?.mp h1, by simpa using h2, rfl⟩
theorem at_some {k : Nat} {q : PI} (h : ps[k]? = some q) : atP ps (k : Int) = q := by
  rw [at_nat, List.getD_eq_getElem?_getD, h]; rfl
def rngI (n : Nat) : List Int := (List.range n).map fun i : Nat => (i : Int)
/-- the places of all, once each -/
theorem ord_perm : (ordI ps).Perm (rngI ps.length) := by
  unfold ordI
  rw [List.map_append]
  have h1 := (psort_perm ((ps.zipIdx.filter fun q => decide (q.1.1 ≤ q.1.2)).map fun q => (q.1.1, (q.2 : Int)))).map (·.2)
  have h2 := (psort_perm ((ps.zipIdx.filter fun q => decide (q.1.2 < q.1.1)).map fun q => (-q.1.2, (q.2 : Int)))).map (·.2)
  refine (h1.append h2).trans ?_
  rw [List.map_map, List.map_map]
  have e : (ps.zipIdx.filter fun q => decide (q.1.2 < q.1.1)) = ps.zipIdx.filter fun q => !decide (q.1.1 ≤ q.1.2) := by
    apply List.filter_congr
    intro q _
    rw [Bool.eq_iff_iff]; simp
  have f1 : (fun x : PI => x.2) ∘ (fun q : PI × Nat => (q.1.1, (q.2 : Int))) = fun q : PI × Nat => (q.2 : Int) := rfl
  have f2 : (fun x : PI => x.2) ∘ (fun q : PI × Nat => (-q.1.2, (q.2 : Int))) = fun q : PI × Nat => (q.2 : Int) := rfl
  rw [f1, f2, e, ← List.map_append]
  refine ((List.filter_append_perm (fun q : PI × Nat => decide (q.1.1 ≤ q.1.2)) ps.zipIdx).map _).trans ?_
  have : ps.zipIdx.map (fun q : PI × Nat => (q.2 : Int)) = rngI ps.length := by
    unfold rngI
    apply List.ext_getElem?
    intro i
    simp only [List.getElem?_map, List.getElem?_zipIdx]
    by_cases h : i < ps.length
    · rw [List.getElem?_eq_getElem h, List.getElem?_range h]; simp
    · rw [List.getElem?_eq_none (by omega), List.getElem?_eq_none (by simp; omega)]; rfl
  rw [this]
theorem vals_range : vals ps (rngI ps.length) = ps := by
  unfold vals rngI
  rw [List.map_map]
  apply List.ext_getElem?
  intro i
  rw [List.getElem?_map]
  by_cases h : i < ps.length
  · rw [List.getElem?_range h, List.getElem?_eq_getElem h]
    simp only [Option.map_some, Function.comp]
    rw [at_some (List.getElem?_eq_getElem h)]
  · rw [List.getElem?_eq_none (by simp; omega), List.getElem?_eq_none (by omega)]; rfl
theorem vals_perm {o : List Int} (h : o.Perm (rngI ps.length)) : (vals ps o).Perm ps := by
  have := h.map (atP ps)
  rw [show (rngI ps.length).map (atP ps) = ps from vals_range] at this
  exact this
theorem ord_best : (vals ps (ordI ps)).Pairwise Ah := by
  unfold vals ordI
  rw [List.map_map, List.map_append, List.pairwise_append]
  refine ⟨?_, ?_, ?_⟩
  · rw [List.pairwise_map]
    refine (psort_sorted _).imp_of_mem fun {a b} ha hb h => ?_
    obtain ⟨k, q, hk, hq, rfl⟩ := gain_mem ha
    obtain ⟨k', q', hk', hq', rfl⟩ := gain_mem hb
    simp only [Function.comp, at_some hk, at_some hk']
    refine ah_gains hq ?_
    unfold leP at h; simp only at h; omega
  · rw [List.pairwise_map]
    refine (psort_sorted _).imp_of_mem fun {a b} ha hb h => ?_
    obtain ⟨k, q, hk, hq, rfl⟩ := loss_mem ha
    obtain ⟨k', q', hk', hq', rfl⟩ := loss_mem hb
    simp only [Function.comp, at_some hk, at_some hk']
    refine ah_losses hq' ?_
    unfold leP at h; simp only at h; omega
  · intro a ha b hb
    obtain ⟨r, hr, rfl⟩ := List.mem_map.mp ha
    obtain ⟨r', hr', rfl⟩ := List.mem_map.mp hb
    obtain ⟨k, q, hk, hq, rfl⟩ := gain_mem hr
    obtain ⟨k', q', hk', hq', rfl⟩ := loss_mem hr'
    simp only [Function.comp, at_some hk, at_some hk']
    exact ah_mixed hq hq'
/-- an order that goes needs no less than the best -/
theorem goes_best {o : List Int} {m : Int} (h : o.Perm (rngI ps.length)) (hg : goes m (vals ps o) = true) : goes m (vals ps (ordI ps)) = true :=
  best_goes ord_best ((vals_perm h).trans (vals_perm ord_perm).symm) hg
def leastI (ps : List PI) : Int := needI (vals ps (ordI ps))
theorem least_iff {m : Int} (h : 0 ≤ m) : leastI ps ≤ m ↔ goes m (vals ps (ordI ps)) = true := need_iff h
/-! by the law's own reckoning -/
def gainV (ps : List PI) : List PI := psort (ps.filter fun q => decide (q.1 ≤ q.2))
def lossV (ps : List PI) : List PI := psort ((ps.filter fun q => decide (q.2 < q.1)).map fun q => (q.2, q.1))
def lawI (ps : List PI) : Int := if lossV ps = [] then needI (gainV ps) else max (needI (gainV ps)) (needI (lossV ps) + ((lossV ps).map del).sum - ((gainV ps).map del).sum)
theorem gains_best : (gainV ps).Pairwise Ah := by
  refine (psort_sorted _).imp_of_mem fun {a b} ha hb h => ?_
  unfold gainV at *
  rw [(psort_perm _).mem_iff] at ha
  have := (List.mem_filter.mp ha).2
  simp only [decide_eq_true_eq] at this
  refine ah_gains this ?_
  unfold leP at h; omega
theorem losses_best : (lossV ps).Pairwise Ah := by
  refine (psort_sorted _).imp_of_mem fun {a b} ha hb h => ?_
  unfold lossV at *
  rw [(psort_perm _).mem_iff] at ha
  obtain ⟨q, hq, rfl⟩ := List.mem_map.mp ha
  have := (List.mem_filter.mp hq).2
  simp only [decide_eq_true_eq] at this
  refine ah_gains (by simp only; omega) ?_
  unfold leP at h; simp only at h ⊢; omega
def gq (ps : List PI) : List PI := ps.filter fun q => decide (q.1 ≤ q.2)
def lq (ps : List PI) : List PI := ps.filter fun q => decide (q.2 < q.1)
theorem split_perm : (gq ps ++ lq ps).Perm ps := by
  have e : lq ps = ps.filter fun q => !decide (q.1 ≤ q.2) := by
    apply List.filter_congr
    intro q _
    rw [Bool.eq_iff_iff]; simp
  rw [e]
  exact List.filter_append_perm _ _
theorem turn_turn (l : List PI) : turn (turn l) = l := by
  unfold turn
  rw [List.map_reverse, List.reverse_reverse, List.map_map]
  have : (fun q : PI => (q.2, q.1)) ∘ (fun q : PI => (q.2, q.1)) = id := rfl
  rw [this, List.map_id]
theorem turn_perm {l l' : List PI} (h : l.Perm l') : (turn l).Perm (turn l') := ((List.reverse_perm _).trans (h.map _)).trans (List.reverse_perm _).symm
theorem lossV_perm : (turn (lossV ps)).Perm (lq ps) := by
  have h := turn_perm (psort_perm ((ps.filter fun q => decide (q.2 < q.1)).map fun q => (q.2, q.1)))
  refine h.trans ?_
  unfold turn
  rw [List.map_map]
  have : (fun q : PI => (q.2, q.1)) ∘ (fun q : PI => (q.2, q.1)) = id := rfl
  rw [this, List.map_id]
  exact List.reverse_perm _
/-- gains, then losses turned about: a best order, too -/
def lawO (ps : List PI) : List PI := gainV ps ++ turn (lossV ps)
theorem lawO_perm : (lawO ps).Perm ps := ((psort_perm (gq ps)).append lossV_perm).trans split_perm
theorem lawO_best : (lawO ps).Pairwise Ah := by
  unfold lawO
  rw [List.pairwise_append]
  refine ⟨gains_best, ?_, fun a ha b hb => ?_⟩
  · unfold turn
    rw [List.pairwise_reverse, List.pairwise_map]
    refine (psort_sorted _).imp_of_mem fun {a b} ha hb h => ?_
    unfold lossV at *
    rw [(psort_perm _).mem_iff] at ha hb
    obtain ⟨q, hq, rfl⟩ := List.mem_map.mp ha
    obtain ⟨q', hq', rfl⟩ := List.mem_map.mp hb
    have h1 := (List.mem_filter.mp hq).2
    simp only [decide_eq_true_eq] at h1
    refine ah_losses (by simp only; omega) ?_
    unfold leP at h; simp only at h ⊢; omega
  · have h1 := (List.mem_filter.mp ((psort_perm (gq ps)).mem_iff.mp ha)).2
    have h2 := (List.mem_filter.mp (lossV_perm.mem_iff.mp hb)).2
    simp only [decide_eq_true_eq] at h1 h2
    exact ah_mixed h1 h2
theorem best_eq {s t : List PI} {m : Int} (h1 : s.Pairwise Ah) (h2 : t.Pairwise Ah) (p : s.Perm t) : goes m s = goes m t := by
  rw [Bool.eq_iff_iff]
  exact ⟨best_goes h2 p, best_goes h1 p.symm⟩
theorem law_goes (h : ∀ q ∈ ps, 0 ≤ q.1 ∧ 0 ≤ q.2) {m : Int} (h0 : 0 ≤ m) : goes m (lawO ps) = true ↔ lawI ps ≤ m := by
  unfold lawO lawI
  rw [goes_append, Bool.and_eq_true, ← need_iff h0, goes_turn (turn (lossV ps)), turn_turn, del_turn]
  have hlv : ∀ q ∈ lossV ps, 0 ≤ q.1 ∧ 0 ≤ q.2 := fun q hq => by
    unfold lossV at hq
    rw [(psort_perm _).mem_iff] at hq
    obtain ⟨r, hr, rfl⟩ := List.mem_map.mp hq
    have := h r (List.mem_filter.mp hr).1
    exact ⟨this.2, this.1⟩
  have hb := need_nn (lossV ps)
  generalize ((gainV ps).map del).sum = G
  generalize hL : ((lossV ps).map del).sum = L
  by_cases he : lossV ps = []
  · rw [if_pos he, he]
    simp [goes]
  · rw [if_neg he]
    by_cases hm : 0 ≤ m + G + -L
    · rw [← need_iff hm]; omega
    · rw [goes_neg he (fun q hq => (hlv q hq).1) (by omega)]
      simp only [Bool.false_eq_true, and_false, false_iff]
      omega
theorem law_nn : 0 ≤ lawI ps := by
  have := need_nn (gainV ps)
  unfold lawI
  split <;> omega
theorem least_law (h : ∀ q ∈ ps, 0 ≤ q.1 ∧ 0 ≤ q.2) : leastI ps = lawI ps := by
  refine need_of law_nn fun m h0 => ?_
  rw [← law_goes h h0]
  rw [best_eq ord_best lawO_best ((vals_perm ord_perm).trans lawO_perm.symm)]
/-- all turned about -/
def swapL (ps : List PI) : List PI := ps.map fun q => (q.2, q.1)
theorem least_swap (h : ∀ q ∈ ps, 0 ≤ q.1 ∧ 0 ≤ q.2) (hne : ps ≠ []) : leastI (swapL ps) = leastI ps + (ps.map del).sum := by
  have hsum : ((vals ps (ordI ps)).map del).sum = (ps.map del).sum := perm_sum ((vals_perm ord_perm).map del)
  have hvn : vals ps (ordI ps) ≠ [] := fun e => hne (by
    have := (vals_perm (ps := ps) (ord_perm (ps := ps))).length_eq
    rw [e] at this
    exact List.length_eq_zero_iff.mp this.symm)
  have hv0 : ∀ q ∈ vals ps (ordI ps), 0 ≤ q.1 ∧ 0 ≤ q.2 := fun q hq => h q ((vals_perm ord_perm).mem_iff.mp hq)
  have key : ∀ m, goes m (vals (swapL ps) (ordI (swapL ps))) = goes (m - (ps.map del).sum) (vals ps (ordI ps)) := fun m => by
    have hp : (turn (vals (swapL ps) (ordI (swapL ps)))).Perm ps := by
      refine (turn_perm (vals_perm ord_perm)).trans ?_
      have : turn (swapL ps) = ps.reverse := by
        unfold turn swapL
        rw [List.map_map]
        have : (fun q : PI => (q.2, q.1)) ∘ (fun q : PI => (q.2, q.1)) = id := rfl
        rw [this, List.map_id]
      rw [this]; exact List.reverse_perm _
    have hp2 : (turn (vals ps (ordI ps))).Perm (swapL ps) := by
      refine (turn_perm (vals_perm ord_perm)).trans ?_
      exact List.reverse_perm _
    have hs2 : ((vals (swapL ps) (ordI (swapL ps))).map del).sum = -(ps.map del).sum := by
      have := perm_sum (hp.map del)
      rw [del_turn] at this
      omega
    rw [Bool.eq_iff_iff]
    constructor
    · intro hg
      rw [goes_turn, hs2] at hg
      exact best_goes ord_best (hp.trans (vals_perm ord_perm).symm) hg
    · intro hg
      rw [goes_turn, hsum] at hg
      have e : m - (ps.map del).sum + (ps.map del).sum = m := by omega
      rw [e] at hg
      exact best_goes ord_best (hp2.trans (vals_perm ord_perm).symm) hg
  have e0 : 0 ≤ leastI ps + (ps.map del).sum := by
    have hg := (least_iff (ps := ps) (need_nn _)).mp (Int.le_refl _)
    rw [goes_turn, hsum] at hg
    refine Decidable.byContradiction fun z => ?_
    rw [goes_neg (l := turn (vals ps (ordI ps))) (fun e => hvn (by
      have := congrArg turn e
      rw [turn_turn] at this; exact this)) (fun q hq => by
        unfold turn at hq
        rw [List.mem_reverse, List.mem_map] at hq
        obtain ⟨r, hr, rfl⟩ := hq
        exact (hv0 r hr).2) (by
          have : leastI ps + (ps.map del).sum < 0 := by omega
          exact this)] at hg
    cases hg
  refine need_of e0 fun m h0 => ?_
  rw [key]
  by_cases z : 0 ≤ m - (ps.map del).sum
  · rw [← least_iff z]; omega
  · rw [goes_neg hvn (fun q hq => (hv0 q hq).1) (by omega)]
    have := need_nn (vals ps (ordI ps))
    simp only [Bool.false_eq_true, false_iff]
    unfold leastI; omega
end K65

namespace K65
open PySem L2 Ev
variable {ps : List PI}
/-! where an order stops -/
def stuckF (ps : List PI) : Nat → Int → List Int → Option (Nat × Int)
  | _, _, [] => none
  | k, m, i :: o => if m < (atP ps i).1 then some (k, m) else stuckF ps (k + 1) (m + del (atP ps i)) o
theorem stuck_none : ∀ (o : List Int) (k : Nat) (m : Int), (stuckF ps k m o).isNone = goes m (vals ps o)
  | [], _, _ => rfl
  | i :: o, k, m => by
    show _ = goes m (atP ps i :: vals ps o)
    unfold stuckF goes
    by_cases h : m < (atP ps i).1
    · rw [if_pos h, decide_eq_false (by omega)]; rfl
    · rw [if_neg h, decide_eq_true (by omega), Bool.true_and, stuck_none o]
theorem stuck_bnd (hp : Plg ps) : ∀ (o : List Int) (k : Nat) (m : Int) (B : Int), (∀ i ∈ o, ∃ j : Nat, i = j ∧ j < ps.length) → 0 ≤ m → m + (o.length : Int) * 1000000 ≤ B → ∀ s, stuckF ps k m o = some s → s.1 ≤ k + o.length ∧ 0 ≤ s.2 ∧ s.2 ≤ B
  | [], _, _, _, _, _, _, s, h => by cases h
  | i :: o, k, m, B, hi, h0, hB, s, h => by
    obtain ⟨j, rfl, hj⟩ := hi i (.head _)
    have hq := hp.all _ (List.getElem_mem hj)
    have e : atP ps (j : Int) = ps[j] := at_some (List.getElem?_eq_getElem hj)
    rw [List.length_cons] at hB ⊢
    have e2 : ((o.length + 1 : Nat) : Int) * 1000000 = o.length * 1000000 + 1000000 := by rw [Int.natCast_add, Int.add_mul]; simp
    rw [e2] at hB
    unfold stuckF at h
    rw [e] at h
    split at h
    · cases h; simp only; omega
    · have := stuck_bnd hp o (k + 1) _ B (fun x hx => hi x (.tail _ hx)) (by unfold del; omega) (by unfold del; omega) s h
      omega
/-! the most made -/
def candP (ps : List PI) : List PI := psort ((ps.zipIdx.filter fun q => decide (q.1.1 < q.1.2)).map fun q => (q.1.1, (q.2 : Int)))
def madeS (ps : List PI) (st : Int × List Int) (q : PI) : Int × List Int := if q.1 ≤ st.1 then (st.1 + ((atP ps q.2).2 - q.1), st.2 ++ [q.2]) else st
def madeI (ps : List PI) (m : Int) : Int × List Int := (candP ps).foldl (madeS ps) (m, [])
theorem cand_mem {r : PI} (h : r ∈ candP ps) : ∃ (k : Nat) (q : PI), ps[k]? = some q ∧ q.1 < q.2 ∧ r = (q.1, (k : Int)) := by
  unfold candP at h
  rw [(psort_perm _).mem_iff, List.mem_map] at h
  obtain ⟨⟨q, k⟩, hk, rfl⟩ := h
  obtain ⟨h1, h2⟩ := List.mem_filter.mp hk
  exact ⟨k, q, List.mk_mem_zipIdx_iff_getElem?.mp h1, by simpa using h2, rfl⟩
theorem cand_all {k : Nat} {q : PI} (h : ps[k]? = some q) (hq : q.1 < q.2) : (q.1, (k : Int)) ∈ candP ps := by
  unfold candP
  rw [(psort_perm _).mem_iff, List.mem_map]
  exact ⟨(q, k), List.mem_filter.mpr ⟨List.mk_mem_zipIdx_iff_getElem?.mpr h, by simpa using hq⟩, rfl⟩
theorem cand_nodup : ((candP ps).map (·.2)).Nodup := by
  have hp := psort_perm ((ps.zipIdx.filter fun q => decide (q.1.1 < q.1.2)).map fun q => (q.1.1, (q.2 : Int)))
  refine ((hp.map (·.2)).nodup_iff).mpr ?_
  rw [List.map_map]
  have : ((ps.zipIdx.filter fun q => decide (q.1.1 < q.1.2)).map ((fun x : PI => x.2) ∘ fun q : PI × Nat => (q.1.1, (q.2 : Int)))).Pairwise (· < ·) := by
    rw [List.pairwise_map]
    have hz : ps.zipIdx.Pairwise fun p q => p.2 < q.2 := by
      rw [List.pairwise_iff_getElem]
      intro i j hi hj h
      simpa using h
    exact (hz.filter _).imp fun h => by simp only [Function.comp]; omega
  exact this.imp fun h e => by omega
theorem made_stay : ∀ (l : List PI) (M : Int) (A : List Int), (∀ x ∈ l, M < x.1) → l.foldl (madeS ps) (M, A) = (M, A)
  | [], _, _, _ => rfl
  | x :: l, M, A, h => by
    have := h x (.head _)
    rw [List.foldl_cons]
    have e : madeS ps (M, A) x = (M, A) := by unfold madeS; rw [if_neg (by simp only; omega)]
    rw [e]; exact made_stay l M A fun y hy => h y (.tail _ hy)
theorem made_sub : ∀ (l : List PI) (M : Int) (A : List Int), ∀ x ∈ A, x ∈ (l.foldl (madeS ps) (M, A)).2
  | [], _, _, x, h => h
  | q :: l, M, A, x, h => by
    rw [List.foldl_cons]
    unfold madeS
    split
    · exact made_sub l _ _ x (List.mem_append_left _ h)
    · exact made_sub l _ _ x h
theorem made_max : ∀ (l : List PI) (M : Int) (A : List Int), l.Pairwise (fun a b => a.1 ≤ b.1) → ∀ e ∈ l, e.2 ∈ (l.foldl (madeS ps) (M, A)).2 ∨ (l.foldl (madeS ps) (M, A)).1 < e.1
  | [], _, _, _, e, h => nomatch h
  | q :: l, M, A, hs, e, h => by
    obtain ⟨h1, h2⟩ := List.pairwise_cons.mp hs
    rw [List.foldl_cons]
    by_cases z : q.1 ≤ M
    · have eq : madeS ps (M, A) q = (M + ((atP ps q.2).2 - q.1), A ++ [q.2]) := if_pos z
      rw [eq]
      rcases List.mem_cons.mp h with rfl | h
      · exact .inl (made_sub l _ _ _ (List.mem_append_right _ (.head _)))
      · exact made_max l _ _ h2 e h
    · have eq : madeS ps (M, A) q = (M, A) := if_neg z
      rw [eq, made_stay l M A fun x hx => by have := h1 x hx; omega]
      rcases List.mem_cons.mp h with rfl | h
      · exact .inr (by simp only; omega)
      · exact .inr (by have := h1 e h; simp only; omega)
theorem vals_app (a b : List Int) : vals ps (a ++ b) = vals ps a ++ vals ps b := List.map_append ..
/-- what is made: a row of places, once each, that goes -/
theorem made_inv (m : Int) : ∀ (l : List PI) (M : Int) (A : List Int), (∀ r ∈ l, ∃ (k : Nat) (q : PI), ps[k]? = some q ∧ q.1 < q.2 ∧ r = (q.1, (k : Int))) → (l.map (·.2)).Nodup →
    goes m (vals ps A) = true → M = m + ((vals ps A).map del).sum → A.Nodup → (∀ i ∈ A, i ∉ l.map (·.2)) → (∀ i ∈ A, ∃ (k : Nat) (q : PI), i = k ∧ ps[k]? = some q ∧ q.1 < q.2) → A.length + l.length ≤ 40 →
    goes m (vals ps (l.foldl (madeS ps) (M, A)).2) = true ∧ (l.foldl (madeS ps) (M, A)).1 = m + ((vals ps (l.foldl (madeS ps) (M, A)).2).map del).sum ∧ (l.foldl (madeS ps) (M, A)).2.Nodup ∧ (∀ i ∈ (l.foldl (madeS ps) (M, A)).2, ∃ (k : Nat) (q : PI), i = k ∧ ps[k]? = some q ∧ q.1 < q.2) ∧ (l.foldl (madeS ps) (M, A)).2.length ≤ 40
  | [], M, A, _, _, h3, h4, h5, _, h7, h8 => ⟨h3, h4, h5, h7, by simpa using h8⟩
  | r :: l, M, A, h1, h2, h3, h4, h5, h6, h7, h8 => by
    obtain ⟨k, q, hk, hq, rfl⟩ := h1 r (.head _)
    have ek : atP ps (k : Int) = q := at_some hk
    rw [List.map_cons, List.nodup_cons] at h2
    rw [List.foldl_cons]
    rw [List.length_cons] at h8
    by_cases z : q.1 ≤ M
    · have eq : madeS ps (M, A) (q.1, (k : Int)) = (M + (q.2 - q.1), A ++ [(k : Int)]) := by
        unfold madeS; simp only; rw [if_pos z, ek]
      rw [eq]
      refine made_inv m l _ _ (fun r hr => h1 r (.tail _ hr)) h2.2 ?_ ?_ ?_ ?_ ?_ (by rw [List.length_append, List.length_singleton]; omega)
      · rw [vals_app, goes_append, h3, Bool.true_and, ← h4]
        show goes M [atP ps (k : Int)] = true
        rw [ek]; unfold goes; rw [decide_eq_true z]; rfl
      · rw [vals_app, List.map_append, List.sum_append, h4]
        show _ = m + (_ + ([del (atP ps (k : Int))]).sum)
        rw [ek]; unfold del; simp; omega
      · rw [List.nodup_append]
        refine ⟨h5, by simp, fun a ha b hb => ?_⟩
        rw [List.mem_singleton.mp hb]
        intro e
        exact h6 a ha (by rw [e]; exact .head _)
      · intro i hi
        rcases List.mem_append.mp hi with hi | hi
        · exact fun z => h6 i hi (.tail _ z)
        · rw [List.mem_singleton.mp hi]; exact h2.1
      · intro i hi
        rcases List.mem_append.mp hi with hi | hi
        · exact h7 i hi
        · exact ⟨k, q, List.mem_singleton.mp hi, hk, hq⟩
    · have eq : madeS ps (M, A) (q.1, (k : Int)) = (M, A) := if_neg z
      rw [eq]
      exact made_inv m l _ _ (fun r hr => h1 r (.tail _ hr)) h2.2 h3 h4 h5 (fun i hi z => h6 i hi (.tail _ z)) h7 (by omega)
structure Made (ps : List PI) (m M : Int) (A : List Int) : Prop where
  go : goes m (vals ps A) = true
  end_ : M = m + ((vals ps A).map del).sum
  nd : A.Nodup
  at_ : ∀ i ∈ A, ∃ (k : Nat) (q : PI), i = k ∧ ps[k]? = some q ∧ q.1 < q.2
  len : A.length ≤ 40
  max : ∀ (k : Nat) (q : PI), ps[k]? = some q → q.1 < q.2 → (k : Int) ∈ A ∨ M < q.1
theorem made_ok (hp : Plg ps) (m : Int) : Made ps m (madeI ps m).1 (madeI ps m).2 := by
  have hl : (candP ps).length ≤ 40 := by
    unfold candP; rw [psort_len, List.length_map]
    exact Nat.le_trans (List.length_filter_le _ _) (by simpa using hp.hi)
  obtain ⟨a1, a2, a3, a4, a5⟩ := made_inv m (candP ps) m [] (fun r hr => cand_mem hr) cand_nodup rfl (by simp [vals]) List.nodup_nil (fun i h => nomatch h) (fun i h => nomatch h) (by simpa using hl)
  refine ⟨a1, a2, a3, a4, a5, fun k q hk hq => ?_⟩
  have hs : (candP ps).Pairwise (fun a b => a.1 ≤ b.1) := (psort_sorted _).imp fun h => by unfold leP at h; omega
  exact made_max (candP ps) m [] hs (q.1, (k : Int)) (cand_all hk hq)
/-! as many as can be -/
def manyP (n : Int) : Int → List Int → Int
  | _, [] => n
  | m, o :: l => if m < o then n else manyP (n + 1) (m - o) l
def manyL (l : List Int) (n m : Int) : Int × Int := l.foldl (fun (s : Int × Int) o => if o ≤ s.2 then (s.1 + 1, s.2 - o) else s) (n, m)
theorem many_eq : ∀ (l : List Int) (n m : Int), l.Pairwise (· ≤ ·) → manyP n m l = (manyL l n m).1
  | [], _, _, _ => rfl
  | o :: l, n, m, h => by
    obtain ⟨h1, h2⟩ := List.pairwise_cons.mp h
    unfold manyP manyL
    rw [List.foldl_cons]
    by_cases z : m < o
    · rw [if_pos z]
      have stay : ∀ l : List Int, (∀ x ∈ l, o ≤ x) → l.foldl (fun (s : Int × Int) o => if o ≤ s.2 then (s.1 + 1, s.2 - o) else s) (n, m) = (n, m) := fun l => by
        induction l with
        | nil => intro _; rfl
        | cons x l ih =>
          intro hx
          have := hx x (.head _)
          rw [List.foldl_cons, if_neg (by simp only; omega)]
          exact ih fun y hy => hx y (.tail _ hy)
      have e : (if o ≤ ((n, m) : Int × Int).2 then (((n, m) : Int × Int).1 + 1, ((n, m) : Int × Int).2 - o) else (n, m)) = (n, m) := if_neg (by simp only; omega)
      rw [e, stay l h1]
    · rw [if_neg z, many_eq l _ _ h2]
      have e : (if o ≤ ((n, m) : Int × Int).2 then (((n, m) : Int × Int).1 + 1, ((n, m) : Int × Int).2 - o) else (n, m)) = (n + 1, m - o) := if_pos (by simp only; omega)
      rw [e]; rfl
theorem manyP_bnd : ∀ (l : List Int) (n m : Int), n ≤ manyP n m l ∧ manyP n m l ≤ n + l.length
  | [], n, m => by unfold manyP; simp
  | o :: l, n, m => by
    unfold manyP
    have := manyP_bnd l (n + 1) (m - o)
    rw [List.length_cons]
    split <;> omega
/-! once each -/
theorem insU_len {x : Int} : ∀ {l : List Int}, x ∉ l → (insU x l).length = l.length + 1
  | [], _ => rfl
  | y :: l, h => by
    have hx : x ≠ y := fun e => h (by rw [e]; exact .head _)
    unfold insU
    split
    · rfl
    · rw [List.length_cons, List.length_cons, insU_len fun z => h (.tail _ z)]
theorem sortU_len : ∀ {l : List Int}, l.Nodup → (sortU l).length = l.length
  | [], _ => rfl
  | x :: l, h => by
    obtain ⟨h1, h2⟩ := List.nodup_cons.mp h
    show (insU x (sortU l)).length = _
    rw [insU_len (fun z => h1 (sortU_mem.mp z)), sortU_len h2, List.length_cons]
theorem slen_t {xs : List Int} (h : xs.length ≤ 4000) : lenSetD (.tuple (xs.map .int)) = some (.int (sortU xs).length) := by
  show ((intsOf (xs.map .int)).bind fun ns => if ns.length ≤ 4000 then some (PyData.int (sortU ns).length) else none) = _
  rw [intsOf_map]; exact if_pos h
theorem rng_nodup (n : Nat) : (rngI n).Nodup := by
  unfold rngI
  have : ((List.range n).map fun i : Nat => (i : Int)).Pairwise (· < ·) := by
    rw [List.pairwise_map]
    exact List.pairwise_lt_range.imp fun h => by omega
  exact this.imp fun h e => by omega
theorem rng_mem {n : Nat} {i : Int} : i ∈ rngI n ↔ ∃ k : Nat, i = k ∧ k < n := by
  unfold rngI
  rw [List.mem_map]
  constructor
  · rintro ⟨k, hk, rfl⟩; exact ⟨k, rfl, List.mem_range.mp hk⟩
  · rintro ⟨k, rfl, hk⟩; exact ⟨k, List.mem_range.mpr hk, rfl⟩
/-- an order of all -/
structure Ord (n : Nat) (o : List Int) : Prop where
  p : o.Perm (rngI n)
theorem Ord.len {n : Nat} {o : List Int} (h : Ord n o) : o.length = n := by have := h.p.length_eq; simpa [rngI] using this
theorem Ord.nd {n : Nat} {o : List Int} (h : Ord n o) : o.Nodup := h.p.nodup_iff.mpr (rng_nodup n)
theorem Ord.mem {n : Nat} {o : List Int} (h : Ord n o) : ∀ i ∈ o, ∃ k : Nat, i = k ∧ k < n := fun i hi => rng_mem.mp (h.p.mem_iff.mp hi)
theorem Ord.sort {n : Nat} {o : List Int} (h : Ord n o) : isort o = rngI n := by
  refine isort_eq ?_ h.p.symm
  unfold rngI
  rw [List.pairwise_map]
  exact List.pairwise_lt_range.imp fun h => by omega
theorem Ord.swap {n : Nat} {o : List Int} (h : Ord n o) {i j : Nat} (hi : i < o.length) (hj : j < o.length) : Ord n ((o.set i o[j]).set j o[i]) := ⟨(List.set_set_perm hi hj).trans h.p⟩
theorem ord_ok : Ord ps.length (ordI ps) := ⟨ord_perm⟩
end K65

namespace K65
open PySem L2 Ev
variable {pt : Pt} {ps : List PI} {m : Int}
theorem Plg.len (h : Plg ps) : ps.length ≤ 4000 := by have := h.hi; omega
theorem all_true {α : Type} (l : List α) : (l.map fun _ => true).all id = true := by simp
@[simp] theorem look_owed (h : Plg ps) : appD F_look_at_owed [.tuple (ps.map encP), .int 40] pt = some (.none, pt) := app_pure rfl fun pt => by
  unfold F_look_at_owed; rw [den_ob]
  have h2 : ¬ (40 : Int) < ps.length := by have := h.hi; omega
  have e : ∀ a p, ev L_look_at_owed cs none X_look_at_owed_1 [some (.tuple (ps.map encP)), a, none] p = some (.list ((ps.map fun _ => true).map .bool), p) := fun a p => by
    rw [List.map_map]
    refine lc_map encP _ ps (by simp) (szl' h.len) fun q hq => ⟨_, by simp [encP]; rfl, fun p => ?_⟩
    obtain ⟨b1, b2, b3, b4⟩ := h.all q hq
    simp [b1, b2, b3, b4]
  have e2 := all_true ps
  generalize ps.map (fun _ => true) = bs at *
  simp [D_look_at_owed, initE, psOf, h2, e, e2]
@[simp] theorem look_held (h0 : 0 ≤ m) (h1 : m ≤ 100000000) : appD F_look_at_held [.int m] pt = some (.none, pt) := app_pure rfl fun pt => by
  unfold F_look_at_held; rw [den_ob]
  simp [D_look_at_held, initE, psOf, h0, h1]
theorem enumD_pairs {l : List PI} : enumD (l.map encP) = l.zipIdx.map fun q => .tuple [.int (q.2 : Nat), encP q.1] := by
  unfold enumD
  rw [List.zipIdx_map, List.map_map]
  rfl
theorem gl_len : (gainP ps).length ≤ ps.length ∧ (lossP ps).length ≤ ps.length := by
  unfold gainP lossP
  rw [psort_len, psort_len, List.length_map, List.length_map]
  have a := List.length_filter_le (fun q : PI × Nat => decide (q.1.1 ≤ q.1.2)) ps.zipIdx
  have b := List.length_filter_le (fun q : PI × Nat => decide (q.1.2 < q.1.1)) ps.zipIdx
  rw [List.length_zipIdx] at a b
  exact ⟨a, b⟩
theorem best_ap (h : Plg ps) : appD F_told_best_order [.tuple (ps.map encP)] pt = some (.list ((ordI ps).map .int), pt) := app_pure rfl fun pt => by
  unfold F_told_best_order; rw [den_ob]
  have hl := h.hi
  have g1 := (gl_len (ps := ps)).1
  have g2 := (gl_len (ps := ps)).2
  have e2 : ∀ p, ev L_told_best_order cs none X_told_best_order_2 [some (.tuple (ps.map encP)), none, none, none, none, none, none] p = some (.list (((ps.zipIdx.filter fun q => decide (q.1.1 ≤ q.1.2)).map fun q => (q.1.1, (q.2 : Int))).map encP), p) := fun p => by
    rw [List.map_map]
    exact lc_filter (fun q : PI × Nat => .tuple [.int (q.2 : Nat), encP q.1]) _ _ ps.zipIdx (by simp [enumD_pairs]) (szl' (by simp; omega)) fun q _ => ⟨_, by simp [encP]; rfl, fun p => ⟨by simp, fun _ => by simp [encP]⟩⟩
  have e3 : ∀ a p, ev L_told_best_order cs none X_told_best_order_3 [some (.tuple (ps.map encP)), a, none, none, none, none, none] p = some (.list (((ps.zipIdx.filter fun q => decide (q.1.2 < q.1.1)).map fun q => (-q.1.2, (q.2 : Int))).map encP), p) := fun a p => by
    rw [List.map_map]
    exact lc_filter (fun q : PI × Nat => .tuple [.int (q.2 : Nat), encP q.1]) _ _ ps.zipIdx (by simp [enumD_pairs]) (szl' (by simp; omega)) fun q _ => ⟨_, by simp [encP]; rfl, fun p => ⟨by simp, fun _ => by simp [encP]⟩⟩
  have s2 : Bi.fn .sorted [.list (((ps.zipIdx.filter fun q => decide (q.1.1 ≤ q.1.2)).map fun q => (q.1.1, (q.2 : Int))).map encP)] = some (.list ((gainP ps).map encP)) := sorted_pl
  have s3 : Bi.fn .sorted [.list (((ps.zipIdx.filter fun q => decide (q.1.2 < q.1.1)).map fun q => (-q.1.2, (q.2 : Int))).map encP)] = some (.list ((lossP ps).map encP)) := sorted_pl
  have e1 : ∀ p, ev L_told_best_order cs none X_told_best_order_1 [some (.tuple (ps.map encP)), some (.list ((gainP ps).map encP)), some (.list ((lossP ps).map encP)), none, none, none, none] p = some (.list ((ordI ps).map .int), p) := fun p => by
    unfold ordI
    rw [List.map_map]
    exact lc_map encP _ (gainP ps ++ lossP ps) (by simp [show (gainP ps).length + (lossP ps).length ≤ 4000 by omega]) (szl' (by rw [List.length_append]; omega)) fun q _ => ⟨_, by simp [encP]; rfl, fun p => by simp⟩
  simp [D_told_best_order, initE, psOf, e2, e3, s2, s3, e1, -List.map_map]
theorem lbest_ap (h : Plg ps) : appD F_law_best_order [.tuple (ps.map encP)] pt = some (.list ((ordI ps).map .int), pt) := app_pure rfl fun pt => by
  unfold F_law_best_order; rw [den_ob]
  have hl := h.hi
  have g1 := (gl_len (ps := ps)).1
  have g2 := (gl_len (ps := ps)).2
  have e2 : ∀ p, ev L_law_best_order cs none X_law_best_order_2 [some (.tuple (ps.map encP)), none, none, none, none, none, none] p = some (.list (((ps.zipIdx.filter fun q => decide (q.1.1 ≤ q.1.2)).map fun q => (q.1.1, (q.2 : Int))).map encP), p) := fun p => by
    rw [List.map_map]
    exact lc_filter (fun q : PI × Nat => .tuple [.int (q.2 : Nat), encP q.1]) _ _ ps.zipIdx (by simp [enumD_pairs]) (szl' (by simp; omega)) fun q _ => ⟨_, by simp [encP]; rfl, fun p => ⟨by simp, fun _ => by simp [encP]⟩⟩
  have e3 : ∀ a p, ev L_law_best_order cs none X_law_best_order_3 [some (.tuple (ps.map encP)), a, none, none, none, none, none] p = some (.list (((ps.zipIdx.filter fun q => decide (q.1.2 < q.1.1)).map fun q => (-q.1.2, (q.2 : Int))).map encP), p) := fun a p => by
    rw [List.map_map]
    exact lc_filter (fun q : PI × Nat => .tuple [.int (q.2 : Nat), encP q.1]) _ _ ps.zipIdx (by simp [enumD_pairs]) (szl' (by simp; omega)) fun q _ => ⟨_, by simp [encP]; rfl, fun p => ⟨by simp, fun _ => by simp [encP]⟩⟩
  have s2 : Bi.fn .sorted [.list (((ps.zipIdx.filter fun q => decide (q.1.1 ≤ q.1.2)).map fun q => (q.1.1, (q.2 : Int))).map encP)] = some (.list ((gainP ps).map encP)) := sorted_pl
  have s3 : Bi.fn .sorted [.list (((ps.zipIdx.filter fun q => decide (q.1.2 < q.1.1)).map fun q => (-q.1.2, (q.2 : Int))).map encP)] = some (.list ((lossP ps).map encP)) := sorted_pl
  have e1 : ∀ p, ev L_law_best_order cs none X_law_best_order_1 [some (.tuple (ps.map encP)), some (.list ((gainP ps).map encP)), some (.list ((lossP ps).map encP)), none, none, none, none] p = some (.list ((ordI ps).map .int), p) := fun p => by
    unfold ordI
    rw [List.map_map]
    exact lc_map encP _ (gainP ps ++ lossP ps) (by simp [show (gainP ps).length + (lossP ps).length ≤ 4000 by omega]) (szl' (by rw [List.length_append]; omega)) fun q _ => ⟨_, by simp [encP]; rfl, fun p => by simp⟩
  simp [D_law_best_order, initE, psOf, e2, e3, s2, s3, e1, -List.map_map]
/-! the least money -/
def INeed (a0 : Sl) (s : Int × Int) (E : SEn) : Prop := ∃ a3 a4 a5, E = [a0, .sh (.int s.1), .sh (.int s.2), a3, a4, a5]
theorem atP_in (h : Plg ps) {k : Nat} (hk : k < ps.length) : atI (ps.map encP) (k : Int) = some (encP (atP ps k)) := by
  rw [at_some (List.getElem?_eq_getElem hk)]
  exact atI_pair (List.getElem?_eq_getElem hk)
theorem least_ap (h : Plg ps) : appD F_least_money [.tuple (ps.map encP)] pt = some (.int (leastI ps), pt) := app_pure rfl fun pt => by
  unfold F_least_money; rw [den_ob]
  have hb := fun pt => best_ap (pt := pt) h
  have hl : leastI ps = ((ordI ps).foldl (fun (s : Int × Int) i => (max s.1 ((atP ps i).1 - s.2), s.2 + del (atP ps i))) (0, 0)).1 := by
    unfold leastI needI vals
    rw [List.foldl_map]
  rw [hl]
  have hm := ord_ok (ps := ps)
  generalize ordI ps = o at *
  simp [D_least_money, initE, psOf, h, hb]
  refine fold_pq (INeed (.sh (.tuple (ps.map encP)))) PyData.int (fun (s : Int × Int) i => (max s.1 ((atP ps i).1 - s.2), s.2 + del (atP ps i))) o (0, 0) ⟨_, _, _, rfl⟩ (fun i hi s E p hI => ?_) (fun E hI => ?_)
  · obtain ⟨a3, a4, a5, rfl⟩ := hI
    obtain ⟨k, rfl, hk⟩ := hm.mem i hi
    have e := atP_in h hk
    simp only [encP] at e
    refine ⟨_, by simp; rfl, ?_⟩
    simp [B_least_money_1, e, Ev.intAt, augD]
    exact .nx ⟨_, _, _, by unfold del; rfl⟩
  · obtain ⟨a3, a4, a5, rfl⟩ := hI
    simp
def INd (a0 : Sl) (s : Int × Int) (E : SEn) : Prop := ∃ a3 a4, E = [a0, .sh (.int s.1), .sh (.int s.2), a3, a4]
theorem needed_ap (l : List PI) : appD F_law_needed [.list (l.map encP)] pt = some (.int (needI l), pt) := app_pure rfl fun pt => by
  unfold F_law_needed; rw [den_ob]
  simp [D_law_needed, initE, psOf]
  refine fold_pq (INd (.sh (.list (l.map encP)))) encP (fun (s : Int × Int) q => (max s.1 (q.1 - s.2), s.2 + del q)) l (0, 0) ⟨_, _, rfl⟩ (fun q hq s E p hI => ?_) (fun E hI => ?_)
  · obtain ⟨a3, a4, rfl⟩ := hI
    refine ⟨_, by simp [encP]; rfl, ?_⟩
    simp [B_law_needed_1]
    exact .nx ⟨_, _, by unfold del; simp only; rw [show s.2 + q.2 - q.1 = s.2 + (q.2 - q.1) by omega]⟩
  · obtain ⟨a3, a4, rfl⟩ := hI
    simp; rfl
end K65

namespace K65
open PySem L2 Ev
variable {pt : Pt} {ps : List PI} {m : Int}
@[simp] theorem ne_nilP {l : List PI} : cmpD .NotEq (.list (l.map encP)) (.list []) = some (.bool (!l.isEmpty)) := by
  have hs : SeqAt.shaped (.list (l.map encP)) = true := by
    unfold SeqAt.shaped
    have h1 : ∀ l : List PI, PyData.canLayAll0 (l.map encP) = true ∧ PyData.depthAll (l.map encP) ≤ 1 := fun l => by
      induction l with
      | nil => simp [PyData.canLayAll0, PyData.depthAll]
      | cons x l ih => simp [PyData.canLayAll0, PyData.canLay0, encP, PyData.depthAll, PyData.depth]; exact ⟨ih.1, by have := ih.2; omega⟩
    have := h1 l
    simp [PyData.canLay0, this.1, PyData.depth]; omega
  show neD _ _ = _
  unfold neD
  rw [if_pos ⟨hs, rfl⟩]
  cases l <;> simp [PyData.eqv, PyData.eqvAll]
theorem lawleast_ap (h : Plg ps) : appD F_law_least [.tuple (ps.map encP)] pt = some (.int (lawI ps), pt) := app_pure rfl fun pt => by
  unfold F_law_least; rw [den_ob]
  have hl := h.hi
  have hg : (gainV ps).length ≤ 4000 := by
    unfold gainV; rw [psort_len]; exact Nat.le_trans (List.length_filter_le _ _) (by omega)
  have hv : (lossV ps).length ≤ 4000 := by
    unfold lossV; rw [psort_len, List.length_map]; exact Nat.le_trans (List.length_filter_le _ _) (by omega)
  have e1 : ∀ p, ev L_law_least cs none X_law_least_1 [some (.tuple (ps.map encP)), none, none, none, none, none, none, none, none] p = some (.list ((ps.filter fun q => decide (q.1 ≤ q.2)).map encP), p) := fun p =>
    lc_filter encP _ encP ps (by simp) (szl' h.len) fun q _ => ⟨_, by simp [encP]; rfl, fun p => ⟨by simp, fun _ => by simp [encP]⟩⟩
  have e2 : ∀ a p, ev L_law_least cs none X_law_least_2 [some (.tuple (ps.map encP)), a, none, none, none, none, none, none, none] p = some (.list (((ps.filter fun q => decide (q.2 < q.1)).map fun q => (q.2, q.1)).map encP), p) := fun a p => by
    rw [List.map_map]
    exact lc_filter encP _ _ ps (by simp) (szl' h.len) fun q _ => ⟨_, by simp [encP]; rfl, fun p => ⟨by simp, fun _ => by simp [encP]⟩⟩
  have s1 : Bi.fn .sorted [.list ((ps.filter fun q => decide (q.1 ≤ q.2)).map encP)] = some (.list ((gainV ps).map encP)) := sorted_pl
  have s2 : Bi.fn .sorted [.list (((ps.filter fun q => decide (q.2 < q.1)).map fun q => (q.2, q.1)).map encP)] = some (.list ((lossV ps).map encP)) := sorted_pl
  have e3 : ∀ a2 a3 a4 p, ev L_law_least cs none X_law_least_3 [some (.tuple (ps.map encP)), some (.list ((gainV ps).map encP)), a2, a3, a4, none, none, none, none] p = some (.list (((gainV ps).map del).map .int), p) := fun a2 a3 a4 p => by
    rw [List.map_map]
    exact lc_map encP _ (gainV ps) (by simp) (szl' hg) fun q _ => ⟨_, by simp [encP]; rfl, fun p => by simp [del]⟩
  have e4 : ∀ a1 a3 a4 a5 p, ev L_law_least cs none X_law_least_4 [some (.tuple (ps.map encP)), a1, some (.list ((lossV ps).map encP)), a3, a4, a5, none, none, none] p = some (.list (((lossV ps).map del).map .int), p) := fun a1 a3 a4 a5 p => by
    rw [List.map_map]
    exact lc_map encP _ (lossV ps) (by simp) (szl' hv) fun q _ => ⟨_, by simp [encP]; rfl, fun p => by simp [del]⟩
  have n1 := fun pt => needed_ap (pt := pt) (gainV ps)
  have n2 := fun pt => needed_ap (pt := pt) (lossV ps)
  unfold lawI
  generalize gainV ps = G at *
  generalize lossV ps = L at *
  by_cases hn : L = []
  · have : L.isEmpty = true := by rw [hn]; rfl
    rw [if_pos hn]
    clear hn
    simp [D_law_least, initE, psOf, e1, e2, s1, s2, e3, e4, n1, n2, this, -List.map_map, -List.isEmpty_iff]
  · have : L.isEmpty = false := by cases L; exact absurd rfl hn; rfl
    simp [D_law_least, initE, psOf, e1, e2, s1, s2, e3, e4, n1, n2, this, hn, -List.map_map]
/-! going through an order -/
theorem told_loop (h : Plg ps) (q2 : Sl) : ∀ (o : List Int) (k : Nat) (m : Int) (a3 a4 : Sl), (∀ i ∈ o, ∃ j : Nat, i = j ∧ j < ps.length) → ∀ p,
    ∃ r, forF none (.tp [.nm 3, .nm 4]) (evSs L_told_stuck cs none B_told_stuck_1) ((o.zipIdx k).map fun q => .tuple [.int (q.2 : Nat), .int q.1]) [.sh (.tuple (ps.map encP)), .sh (.int m), q2, a3, a4] p = some (r, p) ∧
      ((∃ s, stuckF ps k m o = some s ∧ r = .rt (.tuple [.int s.1, .int s.2])) ∨ (stuckF ps k m o = none ∧ ∃ E, r = .nx E))
  | [], k, m, a3, a4, _, p => ⟨_, forF_nil, .inr ⟨rfl, _, rfl⟩⟩
  | i :: o, k, m, a3, a4, hi, p => by
    obtain ⟨j, rfl, hj⟩ := hi i (.head _)
    have e := atP_in h hj
    rw [List.zipIdx_cons, List.map_cons, forF_ob]
    unfold stuckF
    simp only [encP] at e
    by_cases z : m < (atP ps (j : Int)).1
    · rw [if_pos z]
      exact ⟨_, by simp [B_told_stuck_1, e, z], .inl ⟨_, rfl, rfl⟩⟩
    · rw [if_neg z]
      obtain ⟨r, k1, k2⟩ := told_loop h q2 o (k + 1) (m + del (atP ps (j : Int))) (.sh (.int k)) (.sh (.int j)) (fun x hx => hi x (.tail _ hx)) p
      refine ⟨r, ?_, k2⟩
      simp [B_told_stuck_1, e, z, Ev.intAt, augD]
      simpa [B_told_stuck_1, del] using k1
theorem law_loop (h : Plg ps) (q2 : Sl) : ∀ (o : List Int) (k : Nat) (m : Int) (a3 a4 : Sl), (∀ i ∈ o, ∃ j : Nat, i = j ∧ j < ps.length) → ∀ p,
    ∃ r, forF none (.tp [.nm 3, .nm 4]) (evSs L_law_stuck cs none B_law_stuck_1) ((o.zipIdx k).map fun q => .tuple [.int (q.2 : Nat), .int q.1]) [.sh (.tuple (ps.map encP)), .sh (.int m), q2, a3, a4] p = some (r, p) ∧
      ((∃ s, stuckF ps k m o = some s ∧ r = .rt (.tuple [.int s.1, .int s.2])) ∨ (stuckF ps k m o = none ∧ ∃ E, r = .nx E))
  | [], k, m, a3, a4, _, p => ⟨_, forF_nil, .inr ⟨rfl, _, rfl⟩⟩
  | i :: o, k, m, a3, a4, hi, p => by
    obtain ⟨j, rfl, hj⟩ := hi i (.head _)
    have e := atP_in h hj
    rw [List.zipIdx_cons, List.map_cons, forF_ob]
    unfold stuckF
    simp only [encP] at e
    by_cases z : m < (atP ps (j : Int)).1
    · rw [if_pos z]
      exact ⟨_, by simp [B_law_stuck_1, e, z], .inl ⟨_, rfl, rfl⟩⟩
    · rw [if_neg z]
      obtain ⟨r, k1, k2⟩ := law_loop h q2 o (k + 1) (m + del (atP ps (j : Int))) (.sh (.int k)) (.sh (.int j)) (fun x hx => hi x (.tail _ hx)) p
      refine ⟨r, ?_, k2⟩
      have e3 : m + (atP ps (j : Int)).2 - (atP ps (j : Int)).1 = m + del (atP ps (j : Int)) := by unfold del; omega
      simp [B_law_stuck_1, e, z, e3]
      simpa [B_law_stuck_1] using k1
def stD : Option (Nat × Int) → Dt
  | some s => .tuple [.int s.1, .int s.2]
  | none => .none
theorem told_stuck_l (h : Plg ps) {o : List Int} (ho : ∀ i ∈ o, ∃ j : Nat, i = j ∧ j < ps.length) : appD F_told_stuck [.tuple (ps.map encP), .int m, .list (o.map .int)] pt = some (stD (stuckF ps 0 m o), pt) := app_pure rfl fun pt => by
  unfold F_told_stuck; rw [den_ob]
  obtain ⟨r, k1, k2⟩ := told_loop h (.sh (.list (o.map .int))) o 0 m .no .no ho pt
  simp [D_told_stuck, initE, psOf, enumD_map]
  rw [k1]
  rcases k2 with ⟨s, e, rfl⟩ | ⟨e, E, rfl⟩ <;> rw [e] <;> simp [stD]
theorem told_stuck_t (h : Plg ps) {o : List Int} (ho : ∀ i ∈ o, ∃ j : Nat, i = j ∧ j < ps.length) : appD F_told_stuck [.tuple (ps.map encP), .int m, .tuple (o.map .int)] pt = some (stD (stuckF ps 0 m o), pt) := app_pure rfl fun pt => by
  unfold F_told_stuck; rw [den_ob]
  obtain ⟨r, k1, k2⟩ := told_loop h (.sh (.tuple (o.map .int))) o 0 m .no .no ho pt
  simp [D_told_stuck, initE, psOf, enumD_map]
  rw [k1]
  rcases k2 with ⟨s, e, rfl⟩ | ⟨e, E, rfl⟩ <;> rw [e] <;> simp [stD]
theorem law_stuck_l (h : Plg ps) {o : List Int} (ho : ∀ i ∈ o, ∃ j : Nat, i = j ∧ j < ps.length) : appD F_law_stuck [.tuple (ps.map encP), .int m, .list (o.map .int)] pt = some (stD (stuckF ps 0 m o), pt) := app_pure rfl fun pt => by
  unfold F_law_stuck; rw [den_ob]
  obtain ⟨r, k1, k2⟩ := law_loop h (.sh (.list (o.map .int))) o 0 m .no .no ho pt
  simp [D_law_stuck, initE, psOf, enumD_map]
  rw [k1]
  rcases k2 with ⟨s, e, rfl⟩ | ⟨e, E, rfl⟩ <;> rw [e] <;> simp [stD]
theorem law_stuck_t (h : Plg ps) {o : List Int} (ho : ∀ i ∈ o, ∃ j : Nat, i = j ∧ j < ps.length) : appD F_law_stuck [.tuple (ps.map encP), .int m, .tuple (o.map .int)] pt = some (stD (stuckF ps 0 m o), pt) := app_pure rfl fun pt => by
  unfold F_law_stuck; rw [den_ob]
  obtain ⟨r, k1, k2⟩ := law_loop h (.sh (.tuple (o.map .int))) o 0 m .no .no ho pt
  simp [D_law_stuck, initE, psOf, enumD_map]
  rw [k1]
  rcases k2 with ⟨s, e, rfl⟩ | ⟨e, E, rfl⟩ <;> rw [e] <;> simp [stD]
@[simp] theorem is_stD {s : Option (Nat × Int)} : cmpD .Is (stD s) .none = some (.bool s.isNone) := by cases s <;> rfl
@[simp] theorem isnt_stD {s : Option (Nat × Int)} : cmpD .IsNot (stD s) .none = some (.bool s.isSome) := by cases s <;> rfl
def orderS : Dt := .str (Str.ofString "order")
def stuckS : Dt := .str (Str.ofString "stuck")
def redD (ps : List PI) (m : Int) : Dt := match stuckF ps 0 m (ordI ps) with
  | none => .tuple [orderS, .tuple ((ordI ps).map .int)]
  | some s => .tuple [stuckS, .int s.1, .int s.2]
theorem redeemed_ap (h : Plg ps) (h0 : 0 ≤ m) (h1 : m ≤ 100000000) : appD F_all_redeemed [.tuple (ps.map encP), .int m] pt = some (redD ps m, pt) := app_pure rfl fun pt => by
  unfold F_all_redeemed; rw [den_ob]
  have hb := fun pt => best_ap (pt := pt) h
  have hs := fun pt => told_stuck_l (pt := pt) (m := m) h (ord_ok (ps := ps)).mem
  unfold redD
  cases e : stuckF ps 0 m (ordI ps) with
  | none =>
    rw [e] at hs
    simp [D_all_redeemed, initE, psOf, h, h0, h1, hb, hs, orderS, stD]
  | some s =>
    rw [e] at hs
    simp [D_all_redeemed, initE, psOf, h, h0, h1, hb, hs, stuckS, stD]
theorem is_order_ap {n : Nat} {o : List Int} (h : Ord n o) (hn : n ≤ 40) : appD F_is_order [.tuple (o.map .int), .int n] pt = some (.bool true, pt) := app_pure rfl fun pt => by
  unfold F_is_order; rw [den_ob]
  have hl := h.len
  have e1 : (o.all fun i => decide (0 ≤ i) && decide (i ≤ (n : Int) - 1)) = true := by
    rw [List.all_eq_true]
    intro i hi
    obtain ⟨k, rfl, hk⟩ := h.mem i hi
    simp; omega
  have e2 := slen_t (xs := o) (by omega)
  rw [sortU_len h.nd, hl] at e2
  simp [D_is_order, initE, psOf, show o.length ≤ 4000 by omega, show n ≤ 4000 by omega, e1, hl, e2]
theorem does_go_ap (h : Plg ps) (h0 : 0 ≤ m) (h1 : m ≤ 100000000) {o : List Int} (ho : Ord ps.length o) : appD F_does_go [.tuple (ps.map encP), .int m, .tuple (o.map .int)] pt = some (.bool (goes m (vals ps o)), pt) := app_pure rfl fun pt => by
  unfold F_does_go; rw [den_ob]
  have hio := fun pt => is_order_ap (pt := pt) ho h.hi
  have hs := fun pt => told_stuck_t (pt := pt) (m := m) h ho.mem
  have hn := stuck_none (ps := ps) o 0 m
  simp [D_does_go, initE, psOf, h, h0, h1, hio, hs, hn]
theorem is_told2 {w : Str} {d : Dt} : appD F_is_told [.tuple [.str w, d], .tuple [.int 2, .int 3]] pt = some (.bool true, pt) := app_pure rfl fun pt => by
  unfold F_is_told; rw [den_ob]
  have e : cmpD .In (.int 2) (.tuple [.int 2, .int 3]) = some (.bool true) := (in_ints (xs := [2, 3]) (i := 2)).trans (by simp)
  simp [D_is_told, initE, psOf, e]
theorem is_told3 {w : Str} {d d' : Dt} : appD F_is_told [.tuple [.str w, d, d'], .tuple [.int 2, .int 3]] pt = some (.bool true, pt) := app_pure rfl fun pt => by
  unfold F_is_told; rw [den_ob]
  have e : cmpD .In (.int 3) (.tuple [.int 2, .int 3]) = some (.bool true) := (in_ints (xs := [2, 3]) (i := 3)).trans (by simp)
  simp [D_is_told, initE, psOf, e]
theorem shows_order (h : Plg ps) (h0 : 0 ≤ m) (h1 : m ≤ 100000000) {o : List Int} (ho : Ord ps.length o) : appD F_shows_all_redeemed [.tuple (ps.map encP), .int m, .tuple [.str (Str.ofString "order"), .tuple (o.map .int)]] pt = some (.bool (goes m (vals ps o)), pt) := app_pure rfl fun pt => by
  unfold F_shows_all_redeemed; rw [den_ob]
  have hr := fun pt => redeemed_ap (pt := pt) h h0 h1
  have hio := fun pt => is_order_ap (pt := pt) ho h.hi
  have hs := fun pt => told_stuck_t (pt := pt) (m := m) h ho.mem
  have hn := stuck_none (ps := ps) o 0 m
  simp [D_shows_all_redeemed, initE, psOf, hr, is_told2, hio, hs, hn]
theorem shows_stuck (h : Plg ps) (h0 : 0 ≤ m) (h1 : m ≤ 100000000) {s : Nat × Int} (e : stuckF ps 0 m (ordI ps) = some s) : appD F_shows_all_redeemed [.tuple (ps.map encP), .int m, .tuple [.str (Str.ofString "stuck"), .int s.1, .int s.2]] pt = some (.bool true, pt) := app_pure rfl fun pt => by
  unfold F_shows_all_redeemed; rw [den_ob]
  have hr := fun pt => redeemed_ap (pt := pt) h h0 h1
  unfold redD at hr
  rw [e] at hr
  simp only [stuckS] at hr
  have c1 : cutD [PyData.str (Str.ofString "stuck"), .int s.1, .int s.2] (some 1) none = [.int s.1, .int s.2] := cut_from _ 1
  have x1 : ∀ p, ev L_shows_all_redeemed cs none X_shows_all_redeemed_1 [some (.tuple (ps.map encP)), some (.int m), some (.tuple [.str (Str.ofString "stuck"), .int s.1, .int s.2]), some (.tuple [.str (Str.ofString "stuck"), .int s.1, .int s.2]), none, none] p = some (.list ([true, true].map .bool), p) := fun p =>
    lc_map (α := Int) (fun i => .tuple [.int i, .int i]) (fun _ => .bool true) [(s.1 : Int), s.2] (by simp [c1, zip2D]) (by simp) fun i _ => ⟨_, by simp; rfl, fun p => by simp⟩
  have e2 : Bi.fn .all [.list ([true, true].map .bool)] = some (.bool true) := all_bs
  simp only [List.map_cons, List.map_nil] at x1 e2
  simp [D_shows_all_redeemed, initE, psOf, hr, is_told3, x1, e2]
end K65

namespace K65
open PySem L2 Ev
variable {pt : Pt} {ps : List PI} {m : Int}
def owedS (ps : List PI) : List Int := isort (ps.map (·.1))
theorem many_loop (a0 : Sl) (a4 : Sl) : ∀ (l : List Int) (n m : Int) (a3 : Sl) (p : Pt),
    ∃ r, forF none (.nm 3) (evSs L_most_redeemed cs none B_most_redeemed_1) (l.map .int) [a0, .sh (.int m), .sh (.int n), a3, a4] p = some (r, p) ∧
      (r = .rt (.int (manyP n m l)) ∨ ∃ m' b3, r = .nx [a0, .sh (.int m'), .sh (.int (manyP n m l)), b3, a4])
  | [], n, m, a3, p => ⟨_, forF_nil, .inr ⟨m, a3, rfl⟩⟩
  | o :: l, n, m, a3, p => by
    rw [List.map_cons, forF_ob]
    unfold manyP
    by_cases z : m < o
    · rw [if_pos z]
      exact ⟨_, by simp [B_most_redeemed_1, z], .inl rfl⟩
    · rw [if_neg z]
      obtain ⟨r, k1, k2⟩ := many_loop a0 a4 l (n + 1) (m - o) (.sh (.int o)) p
      refine ⟨r, ?_, k2⟩
      simp [B_most_redeemed_1, z]
      simpa [B_most_redeemed_1] using k1
theorem most_redeemed_ap (h : Plg ps) (h0 : 0 ≤ m) (h1 : m ≤ 100000000) : appD F_most_redeemed [.tuple (ps.map encP), .int m] pt = some (.int (manyP 0 m (owedS ps)), pt) := app_pure rfl fun pt => by
  unfold F_most_redeemed; rw [den_ob]
  have e1 : ∀ a1 a2 a3 p, ev L_most_redeemed cs none X_most_redeemed_1 [some (.tuple (ps.map encP)), a1, a2, a3, none] p = some (.list ((ps.map (·.1)).map .int), p) := fun a1 a2 a3 p => by
    rw [List.map_map]
    exact lc_map encP _ ps (by simp) (szl' h.len) fun q _ => ⟨_, by simp [encP]; rfl, fun p => by simp⟩
  have s1 : Bi.fn .sorted [.list ((ps.map (·.1)).map .int)] = some (.list ((owedS ps).map .int)) := sorted_l
  obtain ⟨r, k1, k2⟩ := many_loop (.sh (.tuple (ps.map encP))) .no (owedS ps) 0 m .no pt
  simp [D_most_redeemed, initE, psOf, h, h0, h1, e1, s1, -List.map_map]
  rw [k1]
  rcases k2 with rfl | ⟨m', b3, rfl⟩ <;> simp
def IMade (ps : List PI) (s : Int × List Int) (E : SEn) : Prop := ∃ a3 a4, E = [.sh (.tuple (ps.map encP)), .sh (.int s.1), .ow (.list (s.2.map .int)), a3, a4, .no] ∧ s.2.length ≤ 41
theorem cand_len (h : Plg ps) : (candP ps).length ≤ 40 := by
  unfold candP; rw [psort_len, List.length_map]
  exact Nat.le_trans (List.length_filter_le _ _) (by simpa using h.hi)
theorem made_loop (h : Plg ps) (a5 : Sl) : ∀ (l : List PI) (M : Int) (A : List Int) (a3 a4 : Sl), (∀ r ∈ l, ∃ (k : Nat) (q : PI), ps[k]? = some q ∧ q.1 < q.2 ∧ r = (q.1, (k : Int))) → A.length + l.length ≤ 100 → ∀ p,
    ∃ b3 b4, forF none (.tp [.nm 3, .nm 4]) (evSs L_most_made cs none B_most_made_1) (l.map encP) [.sh (.tuple (ps.map encP)), .sh (.int M), .ow (.list (A.map .int)), a3, a4, a5] p = some (.nx [.sh (.tuple (ps.map encP)), .sh (.int (l.foldl (madeS ps) (M, A)).1), .ow (.list ((l.foldl (madeS ps) (M, A)).2.map .int)), b3, b4, a5], p)
  | [], M, A, a3, a4, _, _, p => ⟨a3, a4, forF_nil⟩
  | r :: l, M, A, a3, a4, hr, hl, p => by
    obtain ⟨k, q, hk, hq, rfl⟩ := hr r (.head _)
    have hkl := (List.getElem?_eq_some_iff.mp hk).1
    have e := atP_in h hkl
    have ek : atP ps (k : Int) = q := at_some hk
    rw [ek] at e
    rw [List.length_cons] at hl
    rw [List.map_cons, forF_ob, List.foldl_cons]
    simp only [encP] at e
    by_cases z : q.1 ≤ M
    · have eq : madeS ps (M, A) (q.1, (k : Int)) = (M + (q.2 - q.1), A ++ [(k : Int)]) := by
        unfold madeS; simp only; rw [if_pos z, ek]
      rw [eq]
      obtain ⟨b3, b4, k1⟩ := made_loop h a5 l (M + (q.2 - q.1)) (A ++ [(k : Int)]) (.sh (.int q.1)) (.sh (.int k)) (fun r hr' => hr r (.tail _ hr')) (by rw [List.length_append, List.length_singleton]; omega) p
      refine ⟨b3, b4, ?_⟩
      simp [encP, B_most_made_1, z, e, Ev.intAt, augD, ownL, show A.length ≤ 4000 by omega]
      simpa [B_most_made_1] using k1
    · have eq : madeS ps (M, A) (q.1, (k : Int)) = (M, A) := if_neg z
      rw [eq]
      obtain ⟨b3, b4, k1⟩ := made_loop h a5 l M A (.sh (.int q.1)) (.sh (.int k)) (fun r hr' => hr r (.tail _ hr')) (by omega) p
      refine ⟨b3, b4, ?_⟩
      simp [encP, B_most_made_1, z]
      simpa [B_most_made_1] using k1
def madeD (ps : List PI) (m : Int) : Dt := .tuple [.int (madeI ps m).1, .tuple ((madeI ps m).2.map .int)]
theorem most_made_ap (h : Plg ps) (h0 : 0 ≤ m) (h1 : m ≤ 100000000) : appD F_most_made [.tuple (ps.map encP), .int m] pt = some (madeD ps m, pt) := app_pure rfl fun pt => by
  unfold F_most_made; rw [den_ob]
  have hl := h.hi
  have hc := cand_len h
  have e1 : ∀ a1 a2 p, ev L_most_made cs none X_most_made_1 [some (.tuple (ps.map encP)), a1, a2, none, none, none] p = some (.list (((ps.zipIdx.filter fun q => decide (q.1.1 < q.1.2)).map fun q => (q.1.1, (q.2 : Int))).map encP), p) := fun a1 a2 p => by
    rw [List.map_map]
    exact lc_filter (fun q : PI × Nat => .tuple [.int (q.2 : Nat), encP q.1]) _ _ ps.zipIdx (by simp [enumD_pairs]) (szl' (by simp; omega)) fun q _ => ⟨_, by simp [encP]; rfl, fun p => ⟨by simp, fun _ => by simp [encP]⟩⟩
  have s1 : Bi.fn .sorted [.list (((ps.zipIdx.filter fun q => decide (q.1.1 < q.1.2)).map fun q => (q.1.1, (q.2 : Int))).map encP)] = some (.list ((candP ps).map encP)) := sorted_pl
  obtain ⟨b3, b4, k1⟩ := made_loop h .no (candP ps) m [] .no .no (fun r hr => cand_mem hr) (by simp; omega) pt
  have hm : madeI ps m = (candP ps).foldl (madeS ps) (m, []) := rfl
  rw [← hm] at k1
  unfold madeD
  simp only [List.map_nil] at k1
  simp [D_most_made, initE, psOf, h, h0, h1, e1, s1, k1, -List.map_map]
theorem sm_loop (h : Plg ps) (a2 a3 : Sl) (ha : okAt (some a3) = true) : ∀ (o : List Int) (m : Int) (a4 : Sl), (∀ i ∈ o, ∃ j : Nat, i = j ∧ j < ps.length) → ∀ p,
    ∃ r, forF none (.nm 4) (evSs L_shows_most_made cs none B_shows_most_made_1) (o.map .int) [.sh (.tuple (ps.map encP)), .sh (.int m), a2, a3, a4] p = some (r, p) ∧
      ((goes m (vals ps o) = false ∧ r = .rt (.bool false)) ∨ (goes m (vals ps o) = true ∧ ∃ b4, r = .nx [.sh (.tuple (ps.map encP)), .sh (.int (m + ((vals ps o).map del).sum)), a2, a3, b4]))
  | [], m, a4, _, p => ⟨_, forF_nil, .inr ⟨rfl, a4, by simp [vals]⟩⟩
  | i :: o, m, a4, hi, p => by
    obtain ⟨j, rfl, hj⟩ := hi i (.head _)
    have e := atP_in h hj
    rw [List.map_cons, forF_ob]
    have hv : vals ps ((j : Int) :: o) = atP ps (j : Int) :: vals ps o := rfl
    rw [hv, goes, List.map_cons, List.sum_cons, ← Int.add_assoc]
    simp only [encP] at e
    by_cases z : m < (atP ps (j : Int)).1
    · rw [decide_eq_false (by omega), Bool.false_and]
      exact ⟨_, by simp [B_shows_most_made_1, e, z], .inl ⟨rfl, rfl⟩⟩
    · rw [decide_eq_true (by omega), Bool.true_and]
      obtain ⟨r, k1, k2⟩ := sm_loop h a2 a3 ha o (m + del (atP ps (j : Int))) (.sh (.int j)) (fun x hx => hi x (.tail _ hx)) p
      refine ⟨r, ?_, k2⟩
      simp [B_shows_most_made_1, e, z, Ev.intAt, augD]
      simpa [B_shows_most_made_1, del] using k1
theorem shows_made_ap (h : Plg ps) (h0 : 0 ≤ m) (h1 : m ≤ 100000000) {B : List Int} (hB : ∀ i ∈ B, ∃ j : Nat, i = j ∧ j < ps.length) (hn : B.Nodup) (hl : B.length ≤ 40) :
    appD F_shows_most_made [.tuple (ps.map encP), .int m, .tuple [.int (madeI ps m).1, .tuple (B.map .int)]] pt = some (.bool (goes m (vals ps B) && decide (m + ((vals ps B).map del).sum = (madeI ps m).1)), pt) := app_pure rfl fun pt => by
  unfold F_shows_most_made; rw [den_ob]
  have hm := fun pt => most_made_ap (pt := pt) h h0 h1
  have e1 : (B.all fun i => decide (0 ≤ i) && decide (i ≤ (ps.length : Int) - 1)) = true := by
    rw [List.all_eq_true]
    intro i hi
    obtain ⟨k, rfl, hk⟩ := hB i hi
    simp; omega
  have e2 := slen_t (xs := B) (by omega)
  rw [sortU_len hn] at e2
  unfold madeD at hm
  generalize madeI ps m = R at *
  obtain ⟨r, k1, k2⟩ := sm_loop h (.sh (.tuple [.int R.1, .tuple (B.map .int)])) (.sh (.int R.1)) rfl B m .no hB pt
  simp [D_shows_most_made, initE, psOf, hm, show B.length ≤ 4000 by omega, e1, e2]
  rw [k1]
  rcases k2 with ⟨g, rfl⟩ | ⟨g, b4, rfl⟩ <;> rw [g] <;> simp
/-- one left out of what is made brings less -/
theorem bent_less {M : Int} {A : List Int} (hm : Made ps m M A) {k : Nat} (hk : k < A.length) : m + ((vals ps (A.take k ++ A.drop (k + 1))).map del).sum < M := by
  obtain ⟨j, q, e1, e2, e3⟩ := hm.at_ _ (List.getElem_mem hk)
  have hA : A = A.take k ++ A[k] :: A.drop (k + 1) := by rw [← List.drop_eq_getElem_cons hk, List.take_append_drop]
  rw [hm.end_]
  have e4 : ((vals ps A).map del).sum = ((vals ps (A.take k ++ A[k] :: A.drop (k + 1))).map del).sum := by rw [← hA]
  rw [e4, vals_app, vals_app]
  have e5 : vals ps (A[k] :: A.drop (k + 1)) = atP ps A[k] :: vals ps (A.drop (k + 1)) := rfl
  rw [e5, e1, at_some e2]
  simp only [List.map_append, List.map_cons, List.sum_append, List.sum_cons]
  unfold del; omega
end K65

/-! Ev, part Zf: rows of ints, alike or not; frozen slots. -/
namespace Ev
open PySem L2
theorem eqvAll_ints : ∀ xs ys : List Int, PyData.eqvAll (xs.map .int) (ys.map .int) = decide (xs = ys)
  | [], [] => by simp [PyData.eqvAll]
  | [], _ :: _ => by simp [PyData.eqvAll]
  | _ :: _, [] => by simp [PyData.eqvAll]
  | x :: xs, y :: ys => by
    rw [List.map_cons, List.map_cons, PyData.eqvAll, eqv_ii, eqvAll_ints xs ys]
    by_cases h : x = y <;> simp [h]
@[simp] theorem eq_intsL {xs ys : List Int} : cmpD .Eq (.list (xs.map .int)) (.list (ys.map .int)) = some (.bool (decide (xs = ys))) := by
  show eqD _ _ = _
  unfold eqD
  rw [if_pos ⟨shaped_intsL xs, shaped_intsL ys⟩, PyData.eqv, eqvAll_ints]
@[simp] theorem ne_intsL {xs ys : List Int} : cmpD .NotEq (.list (xs.map .int)) (.list (ys.map .int)) = some (.bool (!decide (xs = ys))) := by
  show neD _ _ = _
  unfold neD
  rw [if_pos ⟨shaped_intsL xs, shaped_intsL ys⟩, PyData.eqv, eqvAll_ints]
@[simp] theorem eq_intsT {xs ys : List Int} : cmpD .Eq (.tuple (xs.map .int)) (.tuple (ys.map .int)) = some (.bool (decide (xs = ys))) := by
  show eqD _ _ = _
  unfold eqD
  rw [if_pos ⟨shaped_ints xs, shaped_ints ys⟩, PyData.eqv, eqvAll_ints]
@[simp] theorem ne_intsT {xs ys : List Int} : cmpD .NotEq (.tuple (xs.map .int)) (.tuple (ys.map .int)) = some (.bool (!decide (xs = ys))) := by
  show neD _ _ = _
  unfold neD
  rw [if_pos ⟨shaped_ints xs, shaped_ints ys⟩, PyData.eqv, eqvAll_ints]
@[simp] theorem eq_nilT {xs : List Int} : cmpD .Eq (.tuple (xs.map .int)) (.tuple []) = some (.bool (decide (xs = []))) := eq_intsT (ys := [])
@[simp] theorem ne_nilT {xs : List Int} : cmpD .NotEq (.tuple (xs.map .int)) (.tuple []) = some (.bool (!decide (xs = []))) := ne_intsT (ys := [])
@[simp] theorem frzL_nil {E : SEn} : frzL [] E = E := (rfl)
@[simp] theorem frzL_cons {i : Nat} {l : List Nat} {E : SEn} : frzL (i :: l) E = frzL l (Ev.frzE i E) := (rfl)
theorem Sm.three {h b h' b' h'' b'' : Nat} {x y z : Dt} (s : Sm h b x) (t : Sm h' b' y) (u : Sm h'' b'' z) : Sm (max h (max h' h'') + 1) (3 * (max b (max b' b'') + 1)) (.tuple [x, y, z]) :=
  Sm.tuple (ds := [x, y, z]) fun d hd => by
    simp only [List.mem_cons, List.not_mem_nil, or_false] at hd
    rcases hd with rfl | rfl | rfl
    · exact s.mono (by omega) (by omega)
    · exact t.mono (by omega) (by omega)
    · exact u.mono (by omega) (by omega)
theorem fold_pE {β σ α : Type} {ps : Option Nat} {t : Tg} {body : Sn} {K : Sg × Pt → Option (β × Pt)} {ψ : β → Prop} {j : Nat} {E : SEn} {p : Pt} (I : σ → SEn → Prop) (enc : α → Dt) (step : σ → α → σ) (xs : List α) (s : σ) (hI : I s E)
    (h : ∀ x ∈ xs, ∀ s E p, I s E → ∃ E1, bindS ps t (enc x) E = some E1 ∧ ∃ r, body E1 p = some (r, p) ∧ Nx (I (step s x)) r)
    (hk : ∀ E, I (xs.foldl step s) E → Ends (K (.nx E, p)) j ψ) : Ends (Ev.ob (forF ps t body (xs.map enc) E p) K) j ψ := by
  obtain ⟨E2, e, hI⟩ := for_fold I enc step xs h s E p hI
  rw [e]; exact hk E2 hI
end Ev

namespace K65
open PySem L2 Ev
variable {pt : Pt} {ps : List PI} {m : Int}
theorem rng_lrg {n : Nat} (h : n ≤ 40) : lrgX false (.int 0) (.int n) = some (.list ((rngI n).map .int)) := by
  show lrgD false 0 _ = _
  unfold lrgD
  have e : ((n : Int) - 0).toNat = n := by omega
  rw [if_pos (by rw [e]; omega), e]
  simp [rngD, rngI]
theorem here_loop (h : Plg ps) (q2 q3 q4 q5 q6 q7 q8 q9 q10 q11 q12 q13 q15 q17 q18 q19 : Sl) : ∀ (o : List Int) (m : Int) (a16 : Sl), (∀ i ∈ o, ∃ j : Nat, i = j ∧ j < ps.length) → goes m (vals ps o) = true → ∀ p,
    ∃ b16, forF (some 0) (.nm 16) (evSs L_law_is_money_right cs (some 0) B_law_is_money_right_2) (o.map .int) [.no, .sh (.tuple (ps.map encP)), q2, q3, q4, q5, q6, q7, q8, q9, q10, q11, q12, q13, .sh (.int m), q15, a16, q17, q18, q19] p =
      some (.nx [.no, .sh (.tuple (ps.map encP)), q2, q3, q4, q5, q6, q7, q8, q9, q10, q11, q12, q13, .sh (.int (m + ((vals ps o).map del).sum)), q15, b16, q17, q18, q19], p)
  | [], m, a16, _, _, p => ⟨a16, by rw [List.map_nil, forF_nil]; simp [vals]⟩
  | i :: o, m, a16, hi, hg, p => by
    obtain ⟨j, rfl, hj⟩ := hi i (.head _)
    have e := atP_in h hj
    have hv : vals ps ((j : Int) :: o) = atP ps (j : Int) :: vals ps o := rfl
    rw [hv, goes, Bool.and_eq_true, decide_eq_true_eq] at hg
    rw [hv, List.map_cons, List.map_cons, forF_ob, List.sum_cons, ← Int.add_assoc]
    simp only [encP] at e
    have z : ¬ m < (atP ps (j : Int)).1 := by omega
    have e3 : m + (atP ps (j : Int)).2 - (atP ps (j : Int)).1 = m + del (atP ps (j : Int)) := by unfold del; omega
    obtain ⟨b16, k1⟩ := here_loop h q2 q3 q4 q5 q6 q7 q8 q9 q10 q11 q12 q13 q15 q17 q18 q19 o (m + del (atP ps (j : Int))) (.sh (.int j)) (fun x hx => hi x (.tail _ hx)) hg.2 p
    refine ⟨b16, ?_⟩
    simp [B_law_is_money_right_2, e, z, e3]
    simpa [B_law_is_money_right_2] using k1
def restI (n : Nat) (A : List Int) : List Nat := (List.range n).filter fun k : Nat => !decide ((k : Int) ∈ A)
def IMany (ps : List PI) (m : Int) (q3 q4 q5 q6 q7 q8 q9 : Sl) (s : Int × Int) (E : SEn) : Prop := ∃ a12, E = [.no, .sh (.tuple (ps.map encP)), .sh (.int m), q3, q4, q5, q6, q7, q8, q9, .sh (.int s.1), .sh (.int s.2), a12, .no, .no, .no, .no, .no, .no, .no]
theorem money_tail2 (h : Plg ps) (h0 : 0 ≤ m) (h1 : m ≤ 100000000) (q3 q4 q5 q6 q7 q8 q9 : Sl) (j : Nat) (p : Pt) (g : Gp (j + 1) p) :
    Ends (ob (evSs L_law_is_money_right cs (some 0) (D_law_is_money_right.body.drop 11) [.no, .sh (.tuple (ps.map encP)), .sh (.int m), q3, q4, q5, q6, q7, q8, q9, .sh (.int 0), .sh (.int m), .no, .no, .no, .no, .no, .no, .no, .no] p) endX) j (fun d => d = .bool true) := by
  have hlo := h.lo
  have hhi := h.hi
  have hx1 : ∀ a2 a3 a4 a5 a6 a7 a8 a9 a10 a11 a12 a13 a14 a15 a16 a17 a18 p, ev L_law_is_money_right cs (some 0) X_law_is_money_right_1 [none, some (.tuple (ps.map encP)), a2, a3, a4, a5, a6, a7, a8, a9, a10, a11, a12, a13, a14, a15, a16, a17, a18, none] p = some (.list ((ps.map (·.1)).map .int), p) := fun a2 a3 a4 a5 a6 a7 a8 a9 a10 a11 a12 a13 a14 a15 a16 a17 a18 p => by
    rw [List.map_map]
    exact lc_map encP _ ps (by simp) (szl' h.len) fun q _ => ⟨_, by simp [encP]; rfl, fun p => by simp⟩
  have hx2 : Bi.fn .sorted [.list ((ps.map (·.1)).map .int)] = some (.list ((owedS ps).map .int)) := sorted_l
  have hmr := fun pt => most_redeemed_ap (pt := pt) h h0 h1
  have hme : manyP 0 m (owedS ps) = (manyL (owedS ps) 0 m).1 := many_eq _ _ _ (isort_sorted _)
  have hmb := manyP_bnd (owedS ps) 0 m
  have hol : (owedS ps).length = ps.length := by unfold owedS; rw [isort_len, List.length_map]
  have hmm := fun pt => most_made_ap (pt := pt) h h0 h1
  have hM := made_ok h m
  have hsm := fun pt => shows_made_ap (pt := pt) h h0 h1 (B := (madeI ps m).2) (fun i hi => by
    obtain ⟨k, q, e1, e2, _⟩ := hM.at_ i hi
    exact ⟨k, e1, (List.getElem?_eq_some_iff.mp e2).1⟩) hM.nd hM.len
  have hsb := fun (B : List Int) (x : ∀ i ∈ B, ∃ j : Nat, i = j ∧ j < ps.length) (y : B.Nodup) (z : B.length ≤ 40) pt => shows_made_ap (pt := pt) h h0 h1 x y z
  unfold madeD at hmm
  generalize hMI : madeI ps m = R at *
  obtain ⟨M, A⟩ := R
  simp only at *
  have hA : ∀ i ∈ A, ∃ j : Nat, i = j ∧ j < ps.length := fun i hi => by
    obtain ⟨k, q, e1, e2, _⟩ := hM.at_ i hi
    exact ⟨k, e1, (List.getElem?_eq_some_iff.mp e2).1⟩
  have hrest : ∀ a2 a3 a4 a5 a6 a7 a8 a9 a10 a11 a12 a14 a15 a16 a17 a18 a19 p, ev L_law_is_money_right cs (some 0) X_law_is_money_right_2 [none, some (.tuple (ps.map encP)), a2, a3, a4, a5, a6, a7, a8, a9, a10, a11, a12, some (.tuple [.int M, .tuple (A.map .int)]), a14, a15, a16, a17, a18, a19] p = some (.list ((restI ps.length A).map fun k => .int (k : Nat)), p) := fun a2 a3 a4 a5 a6 a7 a8 a9 a10 a11 a12 a14 a15 a16 a17 a18 a19 p => by
    have hr : rngD 0 ps.length = (List.range ps.length).map fun k => PyData.int (k : Nat) := by simp [rngD]
    unfold restI
    exact lc_filter (fun k : Nat => .int (k : Nat)) _ _ (List.range ps.length) (by simp [rg1_i (j := (ps.length : Int)) (by omega), hr]) (szl' (by simp; omega)) fun k _ => ⟨_, by simp; rfl, fun p => ⟨by simp, fun _ => by simp⟩⟩
  have hany : ∀ a2 a3 a4 a5 a6 a7 a8 a9 a10 a11 a12 a13 a16 a17 a18 a19 p, ev L_law_is_money_right cs (some 0) X_law_is_money_right_3 [none, some (.tuple (ps.map encP)), a2, a3, a4, a5, a6, a7, a8, a9, a10, a11, a12, a13, some (.int M), some (.list ((restI ps.length A).map fun k => .int (k : Nat))), a16, a17, a18, a19] p = some (.list (((restI ps.length A).map fun _ => false).map .bool), p) := fun a2 a3 a4 a5 a6 a7 a8 a9 a10 a11 a12 a13 a16 a17 a18 a19 p => by
    rw [List.map_map]
    refine lc_map (fun k : Nat => .int (k : Nat)) _ (restI ps.length A) (by simp) (szl' (by unfold restI; exact Nat.le_trans (List.length_filter_le _ _) (by simp; omega))) fun k hk => ⟨_, by simp; rfl, fun p => ?_⟩
    obtain ⟨hk1, hk2⟩ := List.mem_filter.mp (show k ∈ (List.range ps.length).filter _ from hk)
    have hkl := List.mem_range.mp hk1
    have hkn : ¬ ((k : Int) ∈ A) := by simpa using hk2
    have e := atP_in h hkl
    have eq : atP ps (k : Int) = ps[k] := at_some (List.getElem?_eq_getElem hkl)
    have hmx := hM.max k ps[k] (List.getElem?_eq_getElem hkl)
    rw [eq] at e
    generalize ps[k] = q at *
    simp only [encP] at e
    by_cases z : q.1 < q.2
    · have z2 : ¬ q.1 ≤ M := by
        rcases hmx z with y | y
        · exact absurd y hkn
        · omega
      simp [e, z, z2]
    · simp [e, z]
  have hanyf : ∀ l : List Nat, (l.map fun _ => false).any id = false := fun l => by simp
  have hMe := hM.end_
  have hgo := hM.go
  have hsl := slen_t (xs := A) (by have := hM.len; omega)
  rw [sortU_len hM.nd] at hsl
  simp [D_law_is_money_right, hx1, hx2, -List.map_map]
  refine fold_pE (IMany ps m q3 q4 q5 q6 q7 q8 q9) PyData.int (fun (s : Int × Int) o => if o ≤ s.2 then (s.1 + 1, s.2 - o) else s) (owedS ps) (0, m) ⟨.no, rfl⟩ (fun o _ s E p hI => ?_) (fun E hI => ?_)
  · obtain ⟨a12, rfl⟩ := hI
    refine ⟨_, by simp; rfl, ?_⟩
    by_cases z : o ≤ s.2
    · simp [B_law_is_money_right_1, z]
      exact .nx ⟨_, rfl⟩
    · simp [B_law_is_money_right_1, z]
      exact .nx ⟨_, rfl⟩
  have hI : IMany ps m q3 q4 q5 q6 q7 q8 q9 (manyL (owedS ps) 0 m) E := hI
  obtain ⟨a12, rfl⟩ := hI
  have hrp : Bi.fn .repr [.int (manyP 0 m (owedS ps))] = some (.str (PyData.shown (.int (manyP 0 m (owedS ps))))) := (Sm.int (by omega) (by omega)).repr (by decide) (by decide)
  rw [← hme]
  obtain ⟨b16, k1⟩ := here_loop h (.sh (.int m)) q3 q4 q5 q6 q7 q8 q9 (.sh (.int (manyP 0 m (owedS ps)))) (.sh (.int (manyL (owedS ps) 0 m).2)) a12 (.sh (.tuple [.int M, .tuple (A.map .int)])) (.sh (.list ((restI ps.length A).map fun k => .int (k : Nat)))) .no .no .no A m .no hA hgo p
  rw [← hMe] at k1
  generalize hrs : restI ps.length A = rs at *
  have hf := hanyf rs
  generalize rs.map (fun _ => false) = fs at *
  simp [hmr, hrp, hmm, hrest, k1, hsl, hsm, hgo, ← hMe, hany, hf]
  by_cases hA0 : A = []
  · have e0 : M = m := by rw [hMe, hA0]; simp [vals]
    simp [hA0, e0]
    exact .ret (g.less (by omega)) rfl
  · have hAl : 1 ≤ A.length := List.length_pos_iff.mpr hA0
    have hAm := hM.len
    simp [hA0]
    refine Draws.ob (take_dr (n := (A.length : Int)) (by omega) (lt2000 (by omega))) g j (by omega) fun d p ⟨k, hd, k0, k1⟩ g => ?_
    subst hd
    obtain ⟨k, rfl⟩ : ∃ q : Nat, k = q := ⟨k.toNat, by omega⟩
    have hk : k < A.length := by omega
    obtain ⟨i, q, e1, e2, e3⟩ := hM.at_ _ (List.getElem_mem hk)
    have hil := (List.getElem?_eq_some_iff.mp e2).1
    have ek : atI (A.map PyData.int) (k : Int) = some (.int (i : Nat)) := by rw [← e1]; exact atI_int (List.getElem?_eq_getElem hk)
    have ep := atP_in h hil
    rw [at_some e2] at ep
    simp only [encP] at ep
    have hne : ¬ q.1 = q.2 := by omega
    have c1 := cut_to (A.map PyData.int) k
    have c2 : cutD (A.map PyData.int) (some ((k : Int) + 1)) none = (A.map PyData.int).drop (k + 1) := cut_from _ (k + 1)
    have eb : (A.map PyData.int).take k ++ (A.map PyData.int).drop (k + 1) = (A.take k ++ A.drop (k + 1)).map .int := by simp
    have n1 : ((A.map PyData.int).take k).length + ((A.map PyData.int).drop (k + 1)).length ≤ 4000 := by rw [List.length_take, List.length_drop, List.length_map]; omega
    have hls := bent_less hM hk
    have sub : ∀ x ∈ A.take k ++ A.drop (k + 1), x ∈ A := fun x hx => by
      rcases List.mem_append.mp hx with hx | hx
      · exact List.mem_of_mem_take hx
      · exact List.mem_of_mem_drop hx
    have hA2 : A = A.take k ++ A[k] :: A.drop (k + 1) := by rw [← List.drop_eq_getElem_cons hk, List.take_append_drop]
    have hbn : (A.take k ++ A.drop (k + 1)).Nodup := by
      have hn := hM.nd
      rw [hA2] at hn
      exact hn.sublist (List.Sublist.append_left (List.sublist_cons_self _ _) _)
    have hbl : (A.take k ++ A.drop (k + 1)).length ≤ 40 := by rw [List.length_append, List.length_take, List.length_drop]; omega
    have hsb' := fun pt => hsb _ (fun x hx => hA x (sub x hx)) hbn hbl pt
    have hd : ¬ m + ((vals ps (A.take k ++ A.drop (k + 1))).map del).sum = M := by omega
    rw [decide_eq_false hd, Bool.and_false] at hsb'
    generalize A.take k ++ A.drop (k + 1) = bent at *
    simp [ek, ep, hne, c1, c2, eb, n1, hsb', -List.map_take, -List.map_drop, -List.length_take, -List.length_drop, -List.length_map]
    exact .ret g rfl
theorem money_tail (h : Plg ps) (h0 : 0 ≤ m) (h1 : m ≤ 100000000) (q4 q5 : Sl) (j : Nat) (p : Pt) (g : Gp (j + 3) p) :
    Ends (ob (evSs L_law_is_money_right cs (some 0) (D_law_is_money_right.body.drop 4) [.no, .sh (.tuple (ps.map encP)), .sh (.int m), .sh (.int (leastI ps)), q4, q5, .no, .no, .no, .no, .no, .no, .no, .no, .no, .no, .no, .no, .no, .no] p) endX) j (fun d => d = .bool true) := by
  have hlo := h.lo
  have hhi := h.hi
  have hb := fun pt => lbest_ap (pt := pt) h
  have ho := ord_ok (ps := ps)
  have hol := ho.len
  have hbest := fun (o' : List Int) => goes_best (ps := ps) (m := m) (o := o')
  have hleast := least_iff (ps := ps) (m := m) h0
  generalize hO : ordI ps = o at *
  simp [D_law_is_money_right, hb]
  refine Draws.ob (take_dr (n := (o.length : Int)) (by omega) (lt2000 (by omega))) g (j + 2) (by omega) fun d p ⟨a, hd, a0, a1⟩ g => ?_
  subst hd
  obtain ⟨a, rfl⟩ : ∃ q : Nat, a = q := ⟨a.toNat, by omega⟩
  have ha : a < o.length := by omega
  simp
  refine Draws.ob (take_dr (n := (o.length : Int)) (by omega) (lt2000 (by omega))) g (j + 1) (by omega) fun d p ⟨b, hd, b0, b1⟩ g => ?_
  subst hd
  obtain ⟨b, rfl⟩ : ∃ q : Nat, b = q := ⟨b.toNat, by omega⟩
  have hbl : b < o.length := by omega
  have ea : atI (o.map PyData.int) (a : Int) = some (.int o[a]) := atI_int (List.getElem?_eq_getElem ha)
  have eb : atI (o.map PyData.int) (b : Int) = some (.int o[b]) := atI_int (List.getElem?_eq_getElem hbl)
  have s1 : setD (.list (o.map PyData.int)) (.int a) (.int o[b]) = some (.list ((o.set a o[b]).map .int)) := setD_int ha
  have s2 : setD (.list ((o.set a o[b]).map PyData.int)) (.int b) (.int o[a]) = some (.list (((o.set a o[b]).set b o[a]).map .int)) := setD_int (by rw [List.length_set]; exact hbl)
  have hs := ho.swap ha hbl
  generalize o[a] = oa at *
  generalize o[b] = ob_ at *
  generalize o.set a ob_ = o1 at *
  generalize o1.set b oa = o' at *
  have hst := fun pt => law_stuck_l (pt := pt) (m := m) h hs.mem
  have hst0 := stuck_none (ps := ps) o' 0 m
  have hdg := fun pt => does_go_ap (pt := pt) h h0 h1 hs
  have hsh := fun pt => shows_order (pt := pt) h h0 h1 hs
  have hbad : goes m (vals ps o') = true → ¬ m < leastI ps := fun hg => by
    have := hleast.mpr (hbest _ hs.p hg)
    omega
  have hx1 : ∀ a2 a3 a4 a5 a6 a7 a8 a9 a10 a11 a12 a13 a14 a15 a16 a17 a18 p, ev L_law_is_money_right cs (some 0) X_law_is_money_right_1 [none, some (.tuple (ps.map encP)), a2, a3, a4, a5, a6, a7, a8, a9, a10, a11, a12, a13, a14, a15, a16, a17, a18, none] p = some (.list ((ps.map (·.1)).map .int), p) := fun a2 a3 a4 a5 a6 a7 a8 a9 a10 a11 a12 a13 a14 a15 a16 a17 a18 p => by
    rw [List.map_map]
    exact lc_map encP _ ps (by simp) (szl' h.len) fun q _ => ⟨_, by simp [encP]; rfl, fun p => by simp⟩
  have hx2 : Bi.fn .sorted [.list ((ps.map (·.1)).map .int)] = some (.list ((owedS ps).map .int)) := sorted_l
  have hmr := fun pt => most_redeemed_ap (pt := pt) h h0 h1
  have R := money_tail2 h h0 h1 (.sh (.int (leastI ps))) q4 q5 (.sh (.list (o'.map .int))) (.sh (.int a)) (.sh (.int b)) (.sh (.bool (goes m (vals ps o')))) j p (g.less (by omega))
  simp [D_law_is_money_right] at R
  cases hg : goes m (vals ps o') with
  | false =>
    rw [hg] at hst0 hdg hsh R
    simp [ea, eb, ownAt, s1, s2, Ev.frzE, hst, hst0, hdg, hsh, -List.map_set]
    exact R
  | true =>
    have hbd := hbad hg
    rw [hg] at hst0 hdg hsh R
    simp [ea, eb, ownAt, s1, s2, Ev.frzE, hst, hst0, hdg, hsh, hbd, -List.map_set]
    exact R
end K65

namespace K65
open PySem L2 Ev
variable {pt : Pt} {ps : List PI} {m : Int}
theorem money_dr (h : Plg ps) (h0 : 0 ≤ m) (h1 : m ≤ 100000000) : Draws F_law_is_money_right [.tuple (ps.map encP), .int m, .int (leastI ps)] 3 (fun d => d = .bool true) := fun j p g => by
  rw [app_pot rfl]; unfold F_law_is_money_right; rw [den_ob]
  have hhi := h.hi
  have hb := fun pt => lbest_ap (pt := pt) h
  have ho := ord_ok (ps := ps)
  have hr := fun pt => redeemed_ap (pt := pt) h h0 h1
  have hls := fun pt => law_stuck_l (pt := pt) (m := m) h ho.mem
  have hlt := fun pt => law_stuck_t (pt := pt) (m := m) h ho.mem
  have hso := fun pt => shows_order (pt := pt) h h0 h1 ho
  have hn := stuck_none (ps := ps) (ordI ps) 0 m
  have hl := least_iff (ps := ps) (m := m) h0
  have hsort := ho.sort
  have hlrg := rng_lrg hhi
  cases e : stuckF ps 0 m (ordI ps) with
  | none =>
    rw [e] at hn hls hlt
    have hg : goes m (vals ps (ordI ps)) = true := hn.symm
    have hle : leastI ps ≤ m := hl.mpr hg
    have hrd : redD ps m = .tuple [.str (Str.ofString "order"), .tuple ((ordI ps).map .int)] := by unfold redD; rw [e]; rfl
    rw [hrd] at hr
    rw [hg] at hso
    have R := money_tail h h0 h1 (.sh (.tuple [.str (Str.ofString "order"), .tuple ((ordI ps).map .int)])) (.sh .none) j p g
    simp [D_law_is_money_right, hb] at R
    simp [D_law_is_money_right, initE, psOf, hb, hr, hls, hlt, hso, stD, hle, hsort, hlrg]
    exact R
  | some s =>
    rw [e] at hn hls hlt
    have hg : goes m (vals ps (ordI ps)) = false := hn.symm
    have hle : ¬ leastI ps ≤ m := fun z => by rw [hl.mp z] at hg; cases hg
    have hrd : redD ps m = .tuple [.str (Str.ofString "stuck"), .int s.1, .int s.2] := by unfold redD; rw [e]; rfl
    rw [hrd] at hr
    have hss := fun pt => shows_stuck (pt := pt) h h0 h1 e
    have hsb := stuck_bnd h (ordI ps) 0 m 200000000 ho.mem h0 (by have := ho.len; omega) s e
    have hol := ho.len
    have hrp : Bi.fn .repr [.tuple [.str (Str.ofString "stuck"), .int s.1, .int s.2]] = some (.str (PyData.shown (.tuple [.str (Str.ofString "stuck"), .int s.1, .int s.2]))) :=
      (Sm.three ((Sm.str (x := Str.ofString "stuck") (by decide +kernel) (by decide +kernel)).mono (Nat.le_refl _) (by decide +kernel : _ ≤ 100)) (Sm.int (i := (s.1 : Int)) (by omega) (by omega)) (Sm.int (i := s.2) (by omega) (by omega))).repr (by decide) (by decide)
    have R := money_tail h h0 h1 (.sh (.tuple [.str (Str.ofString "stuck"), .int s.1, .int s.2])) (.sh (.tuple [.int s.1, .int s.2])) j p g
    simp [D_law_is_money_right, hb] at R
    have hst : stD (some s) = .tuple [.int s.1, .int s.2] := rfl
    simp [D_law_is_money_right, initE, psOf, hb, hr, hls, hss, hst, hle, hrp]
    exact R
theorem goes_big {K : Int} (hK : 0 ≤ K) (l : List PI) : ∀ (m : Int), (∀ q ∈ l, 0 ≤ q.1 ∧ q.1 ≤ K ∧ 0 ≤ q.2 ∧ q.2 ≤ K) → (l.length : Int) * K ≤ m → goes m l = true := by
  induction l with
  | nil => intro m _ _; rfl
  | cons q l ih =>
    intro m h hm
    have hq := h q (.head _)
    have e : ((l.length + 1 : Nat) : Int) * K = l.length * K + K := by rw [Int.natCast_add, Int.add_mul]; simp
    rw [List.length_cons, e] at hm
    have hn : 0 ≤ (l.length : Int) * K := Int.mul_nonneg (by omega) hK
    rw [goes, decide_eq_true (by omega), Bool.true_and]
    exact ih _ (fun r hr => h r (.tail _ hr)) (by unfold del; omega)
theorem least_bnd (h : Plg ps) : 0 ≤ leastI ps ∧ leastI ps ≤ 40000000 := by
  refine ⟨need_nn _, (least_iff (by decide)).mpr (goes_big (K := 1000000) (by decide) _ _ (fun q hq => h.all q ((vals_perm ord_perm).mem_iff.mp hq)) ?_)⟩
  rw [(vals_perm (ps := ps) ord_perm).length_eq]
  have := h.hi; omega
theorem swap_plg (h : Plg ps) : Plg (swapL ps) := ⟨by unfold swapL; rw [List.length_map]; exact h.lo, by unfold swapL; rw [List.length_map]; exact h.hi, fun q hq => by
  obtain ⟨r, hr, rfl⟩ := List.mem_map.mp hq
  have := h.all r hr; simp only; omega⟩
theorem sortU_le : ∀ {l : List Int}, (sortU l).length ≤ l.length
  | [] => Nat.le_refl _
  | x :: l => by
    have h1 : ∀ l : List Int, (insU x l).length ≤ l.length + 1 := fun l => by
      induction l with
      | nil => exact Nat.le_refl _
      | cons y l ih =>
        unfold insU
        split
        · exact Nat.le_refl _
        · split
          · simp
          · rw [List.length_cons, List.length_cons]; omega
    show (insU x (sortU l)).length ≤ _
    have := h1 (sortU l)
    have := sortU_le (l := l)
    rw [List.length_cons]; omega
theorem bnd_set {l : List PI} {k : Nat} {v : PI} (h : ∀ q ∈ l, 0 ≤ q.1 ∧ q.1 ≤ 1000000 ∧ 0 ≤ q.2 ∧ q.2 ≤ 1000000) (hv : 0 ≤ v.1 ∧ v.1 ≤ 1000000 ∧ 0 ≤ v.2 ∧ v.2 ≤ 1000000) : ∀ q ∈ l.set k v, 0 ≤ q.1 ∧ q.1 ≤ 1000000 ∧ 0 ≤ q.2 ∧ q.2 ≤ 1000000 := fun q hq => by
  rcases List.mem_or_eq_of_mem_set hq with h1 | rfl
  · exact h q h1
  · exact hv
theorem ix_neg {n k : Nat} (h0 : 0 < k) (h : k ≤ n) : ixN n (-(k : Int)) = some (n - k) := by
  unfold ixN
  rw [if_neg (by omega), if_pos (by omega)]
  congr 1; omega
def IBuild (top : Int) (i : Nat) (E : SEn) : Prop := ∃ (l : List PI) (a3 a9 a10 : Sl), E = [.no, .ow (.list (l.map encP)), .sh (.int top), a3, .no, .no, .no, .no, .no, a9, a10] ∧ l.length = i ∧ ∀ q ∈ l, 0 ≤ q.1 ∧ q.1 ≤ 1000000 ∧ 0 ≤ q.2 ∧ q.2 ≤ 1000000
def IAll (ps : List PI) (q : List Sl) (_ : Nat) (E : SEn) : Prop := ∃ a8, E = [.no, .sh (.tuple (ps.map encP))] ++ q ++ [a8] ++ [.no, .no] ∧ q.length = 6
theorem build_body {top : Int} (t0 : 0 < top) (t1 : top ≤ 1000001) (i : Nat) (hi40 : i < 41) (l : List PI) (a3 a9 a10 : Sl) (hl : l.length = i) (hb : ∀ q ∈ l, 0 ≤ q.1 ∧ q.1 ≤ 1000000 ∧ 0 ≤ q.2 ∧ q.2 ≤ 1000000) (j : Nat) (p : Pt) (g : Gp (j + 4) p) :
    Ends (evSs L_law_right cs (some 0) B_law_right_1 [.no, .ow (.list (l.map encP)), .sh (.int top), .sh (.int i), .no, .no, .no, .no, .no, a9, a10] p) j (Nx (IBuild top (i + 1))) := by
  have w6 : powOk 10 6 = true := by decide +kernel
  have d2 : divOk 2 = true := div_ok 2 (by decide) (by decide) (by decide)
  simp [B_law_right_1]
  refine Draws.ob (take_dr t0 (lt2000 (by omega))) g (j + 3) (by omega) fun d p ⟨o, hd, o0, o1⟩ g => ?_
  subst hd
  simp
  refine Draws.ob (take_dr t0 (lt2000 (by omega))) g (j + 2) (by omega) fun d p ⟨r, hd, r0, r1⟩ g => ?_
  subst hd
  simp [d2, w6]
  refine Draws.ob (of_dr (by simp) (szl' (by simp))) g (j + 1) (by omega) fun d p hd g => ?_
  obtain ⟨w, rfl, w0, w1⟩ : ∃ w : Int, d = .int w ∧ 0 ≤ w ∧ w ≤ 1000000 := by
    simp at hd
    rcases hd with rfl | rfl | rfl | rfl <;> exact ⟨_, rfl, by omega, by omega⟩
  simp [ownL, show l.length ≤ 4000 by omega]
  have hb2 : ∀ q ∈ l ++ [(o, w)], 0 ≤ q.1 ∧ q.1 ≤ 1000000 ∧ 0 ≤ q.2 ∧ q.2 ≤ 1000000 := fun q hq => by
    rcases List.mem_append.mp hq with hq | hq
    · exact hb q hq
    · cases List.mem_singleton.mp hq; simp only; omega
  have hl2 : (l ++ [(o, w)]).length = i + 1 := by simp [hl]
  have em : l.map encP ++ [.tuple [.int o, .int w]] = (l ++ [(o, w)]).map encP := by simp [encP]
  rw [em]
  generalize l ++ [(o, w)] = z at hb2 hl2 ⊢
  by_cases h0 : 0 < i
  · simp [h0]
    refine Draws.ob (take_dr (n := 5) (by decide) (lt2000 (by decide))) g j (by omega) fun d p ⟨r2, hd, _, _⟩ g => ?_
    subst hd
    by_cases h5 : r2 = 0
    · have hk : z.length - 2 < z.length := by omega
      have e1 : atI (z.map encP) (-2) = some (encP z[z.length - 2]) := by
        have := ix_neg (n := z.length) (k := 2) (by decide) (by omega)
        unfold atI
        rw [List.length_map, show (-2 : Int) = -((2 : Nat) : Int) from rfl, this]
        show (z.map encP)[z.length - 2]? = _
        rw [List.getElem?_map, List.getElem?_eq_getElem hk]; rfl
      have e2 : ∀ v : PI, setD (.list (z.map encP)) (.int (-1)) (encP v) = some (.list ((z.set (z.length - 1) v).map encP)) := fun v => by
        have := ix_neg (n := z.length) (k := 1) (by decide) (by omega)
        show (ixN _ _).map _ = _
        rw [List.length_map, show (-1 : Int) = -((1 : Nat) : Int) from rfl, this]
        simp only [Option.map_some]
        rw [List.map_set]
      simp [h5, e1, e2, ownAt, -List.map_set]
      exact .ret g (.nx ⟨_, _, _, _, rfl, by rw [List.length_set]; omega, bnd_set hb2 (hb2 _ (List.getElem_mem _))⟩)
    · simp [h5]
      exact .ret g (.nx ⟨_, _, _, _, rfl, by omega, hb2⟩)
  · simp [h0]
    exact .ret (g.less (by omega)) (.nx ⟨_, _, _, _, rfl, by omega, hb2⟩)
end K65

namespace K65
open PySem L2 Ev
variable {pt : Pt} {ps : List PI} {m : Int}
def ISome (ps : List PI) (q2 q3 q4 q5 q6 q7 : Sl) (_ : Nat) (E : SEn) : Prop := ∃ a8 a9 a10, E = [.no, .sh (.tuple (ps.map encP)), q2, q3, q4, q5, q6, q7, a8, a9, a10]
theorem right_dr : Draws F_law_right [] 400 (fun d => d = .bool true) := fun j p g => by
  rw [app_pot rfl]; unfold F_law_right; rw [den_ob]
  have w6 : powOk 10 6 = true := by decide +kernel
  have w8 : powOk 10 8 = true := by decide +kernel
  simp [D_law_right, initE, psOf, w6]
  refine Draws.ob (of_dr (by simp) (szl' (by simp))) g (j + 399) (by omega) fun d p hd g => ?_
  obtain ⟨top, rfl, t0, t1⟩ : ∃ w : Int, d = .int w ∧ 0 < w ∧ w ≤ 1000001 := by
    simp at hd
    rcases hd with rfl | rfl | rfl <;> exact ⟨_, rfl, by omega, by omega⟩
  simp
  refine Draws.ob (take_dr (n := 21) (by decide) (lt2000 (by decide))) g (j + 398) (by omega) fun d p ⟨r, hd, r0, r1⟩ g => ?_
  subst hd
  obtain ⟨n, hn⟩ : ∃ n : Nat, (20 + r).toNat = n := ⟨_, rfl⟩
  simp [rg1_i (j := 20 + r) (by omega), hn]
  refine for_then (IBuild top) 4 _ g (j + 20) (by rw [rngD_len]; omega) ⟨[], _, _, _, rfl, rfl, fun y h => nomatch h⟩ (fun i d E p j hd hI g => ?_) (fun E2 p hI g => ?_)
  · obtain ⟨l, a3, a9, a10, rfl, hl, hb⟩ := hI
    obtain ⟨hi, rfl⟩ := rngD_at hd
    refine ⟨_, by simp; rfl, ?_⟩
    exact build_body t0 t1 i (by omega) l a3 a9 a10 hl hb j p g
  · obtain ⟨ps, a3, a9, a10, rfl, hl, hb⟩ := hI
    rw [rngD_len] at hl
    have h : Plg ps := ⟨by omega, by omega, hb⟩
    have hb2 : ∀ q ∈ ps, 0 ≤ q.1 ∧ 0 ≤ q.2 := fun q hq => ⟨(hb q hq).1, (hb q hq).2.2.1⟩
    have hll := fun pt => lawleast_ap (pt := pt) h
    have hle := fun pt => least_ap (pt := pt) h
    have hls := fun pt => least_ap (pt := pt) (swap_plg h)
    rw [least_swap hb2 (fun z => by rw [z] at hl; simp at hl; omega)] at hls
    rw [← least_law hb2] at hll
    have lb := least_bnd h
    have hrp : Bi.fn .repr [.int (leastI ps)] = some (.str (PyData.shown (.int (leastI ps)))) := (Sm.int (by omega) (by omega)).repr (by decide) (by decide)
    have e1 : ∀ a2 a3 a4 a5 a6 a7 a8 a9 a10 p, ev L_law_right cs (some 0) X_law_right_1 [none, some (.tuple (ps.map encP)), a2, a3, a4, a5, a6, a7, a8, a9, a10] p = some (.list ((swapL ps).map encP), p) := fun a2 a3 a4 a5 a6 a7 a8 a9 a10 p => by
      unfold swapL
      rw [List.map_map]
      exact lc_map encP _ ps (by simp) (szl' h.len) fun q _ => ⟨_, by simp [encP]; rfl, fun p => by simp [encP]⟩
    have e2 : ∀ a2 a3 a4 a5 a6 a7 a8 a9 a10 p, ev L_law_right cs (some 0) X_law_right_2 [none, some (.tuple (ps.map encP)), a2, a3, a4, a5, a6, a7, a8, a9, a10] p = some (.list ((ps.map del).map .int), p) := fun a2 a3 a4 a5 a6 a7 a8 a9 a10 p => by
      rw [List.map_map]
      exact lc_map encP _ ps (by simp) (szl' h.len) fun q _ => ⟨_, by simp [encP]; rfl, fun p => by simp [del]⟩
    have hmd := fun (m : Int) (x : 0 ≤ m) (y : m ≤ 100000000) => money_dr h x y
    generalize leastI ps = L at *
    simp [Ev.frzE, hll, hle, hls, hrp, e1, e2, w8, -List.map_map]
    refine Draws.ob (take_dr t0 (lt2000 (by omega))) g (j + 19) (by omega) fun d p ⟨x1, hd, x2, x3⟩ g => ?_
    subst hd
    simp [w8]
    refine Draws.ob (take_dr (n := 100000000) (by decide) (lt2000 (by decide))) g (j + 18) (by omega) fun d p ⟨x4, hd, x5, x6⟩ g => ?_
    subst hd
    have hss : sortSetD (.list [.int L, .int (max 0 (L - 1)), .int (L + 1), .int x1, .int x4]) = some (.list ((sortU [L, max 0 (L - 1), L + 1, x1, x4]).map .int)) := ssort_ints (xs := [L, max 0 (L - 1), L + 1, x1, x4]) (by simp)
    have hsl : (sortU [L, max 0 (L - 1), L + 1, x1, x4]).length ≤ 5 := Nat.le_trans sortU_le (by simp)
    have hsm : ∀ x ∈ sortU [L, max 0 (L - 1), L + 1, x1, x4], 0 ≤ x ∧ x ≤ 100000000 := fun x hx => by
      rw [sortU_mem] at hx
      simp only [List.mem_cons, List.not_mem_nil, or_false] at hx
      rcases hx with rfl | rfl | rfl | rfl | rfl <;> omega
    generalize sortU [L, max 0 (L - 1), L + 1, x1, x4] = S at *
    simp [hss]
    refine for_then (ISome ps _ _ _ _ _ _) 3 _ g j (by rw [List.length_map]; omega) ⟨_, _, _, rfl⟩ (fun i d E p j hd hI g => ?_) (fun E2 p hI g => ?_)
    · obtain ⟨a8, a9, a10, rfl⟩ := hI
      obtain ⟨x, hx, rfl⟩ := List.mem_map.mp (List.mem_of_getElem? hd)
      have hxb := hsm x hx
      refine ⟨_, by simp; rfl, ?_⟩
      simp [B_law_right_2, Ev.frzE]
      refine Draws.ob (hmd x hxb.1 hxb.2) g j (by omega) fun d p hd g => ?_
      subst hd
      simp
      exact .ret g (.nx ⟨_, _, _, rfl⟩)
    · obtain ⟨a8, a9, a10, rfl⟩ := hI
      simp
      exact .ret g rfl
def ILaw (ns : List Int) (E : SEn) : Prop := ∃ a1 a2 : Sl, E = [.sh (.list (ns.map .int)), a1, a2]
theorem den_law : ∀ ns : List Int, ns.length ≤ 63 → ∃ pt', F_law.den [.list (ns.map PyData.int)] (0, 0, 0) = some (.bool true, pt') := fun ns hn => by
  refine ⟨(0, 0, 0), ?_⟩
  unfold F_law; rw [den_ob]
  obtain ⟨m, hm, e⟩ := cells_ok (cs := cs) (ns := ns) (k := 3) hn (by decide) (by decide)
  have hc : ∀ p, appD F_law_cells [.list (ns.map .int), .int 3] p = some (.list ((List.range m).map fun i => .int (i : Nat)), p) := fun p => app_pure rfl e
  simp [D_law, initE, psOf, hc]
  obtain ⟨E2, e2, a1, a2, rfl⟩ := cells_loop (fs := L_law) (cs := cs) (t := .nm 1) (i := 2) (S := [0, 1]) (a := .call 1 (.cons (.var 0) (.cons (.var 1) .nil)))
    (b := B_law_1) (ns := ns) (n := 0) (ILaw ns) m hm (fun k E p hk hI => by
    obtain ⟨a1, a2, rfl⟩ := hI
    refine ⟨_, by simp; rfl, ?_⟩
    obtain ⟨q, e1, g⟩ := pot_ok (cs := cs) (ns := ns) (k := k) hn hk
    have hp : ∀ p, appD F_law_pot [.list (ns.map .int), .int k] p = some (.list [.int q.1, .int q.2.1, .int q.2.2], p) := fun p => app_pure rfl e1
    refine ⟨q, g, by simp [potIn_ob, hp, pot3], ?_⟩
    simp [B_law_1]
    refine Draws.ob right_dr (g.less (by decide : 800 ≤ 2 ^ 39)) 400 (by decide) fun d p hd g => ?_
    subst hd
    simp
    refine Draws.ob right_dr g 0 (by decide) fun d p hd g => ?_
    subst hd
    simp
    exact .ret g (.nx ⟨_, _, rfl⟩)) [.sh (.list (ns.map .int)), .no, .no] (0, 0, 0) ⟨_, _, rfl⟩
  simp [e2]
end K65

open PySem PySem.W PyProof.Rows
set_option maxHeartbeats 0 in
theorem PySem.Challenge.cw_eachtheirown_k65_whole_forty_pledges_one_holds : PySem.Challenge.rw_eachtheirown_k65_whole_forty_pledges_one.Holds := by
  w_on; o_law; k_head; (case hw => w_witness2)
  k_fill
  refine Ev.walk_ofG (l := PySem.Challenge.rw_eachtheirown_k65_whole_forty_pledges_one) (n := 63) (k := 8) (x := Str.ofString "script") (G := K65.F_law) rfl (by decide) rfl ⟨rfl, by decide, by decide⟩ (fun w h Y => PySem.W.kIn_of Y) ?F rfl K65.den_law
  case F =>
    intro w mg fa h KX G hmg
    refine' K65.all_mk hmg ?a0 ?a1 ?a2 ?a3 ?a4 ?a5 ?a6 ?a7 ?a8 ?a9 ?a10 ?a11 ?a12 ?a13 ?a14 ?a15 ?a16 ?a17 ?a18 ?a19 ?a20 ?a21 ?a22 ?a23 ?a24 ?a25 ?a26 ?c0 ?c1 ?c2 ?c3 ?c4 ?c5 ?hb
    (case a0 => (refine' Ev.funAt_mk ?a ?l ?c ?k; (case a => k_is); (case l => k_is); (case c => k_is); (case k => k_is)))
    (case a1 => (refine' Ev.funAt_mk ?a ?l ?c ?k; (case a => k_is); (case l => k_is); (case c => k_is); (case k => k_is)))
    (case a2 => (refine' Ev.funAt_mk ?a ?l ?c ?k; (case a => k_is); (case l => k_is); (case c => k_is); (case k => k_is)))
    (case a3 => (refine' Ev.funAt_mk ?a ?l ?c ?k; (case a => k_is); (case l => k_is); (case c => k_is); (case k => k_is)))
    (case a4 => (refine' Ev.funAt_mk ?a ?l ?c ?k; (case a => k_is); (case l => k_is); (case c => k_is); (case k => k_is)))
    (case a5 => (refine' Ev.funAt_mk ?a ?l ?c ?k; (case a => k_is); (case l => k_is); (case c => k_is); (case k => k_is)))
    (case a6 => (refine' Ev.funAt_mk ?a ?l ?c ?k; (case a => k_is); (case l => k_is); (case c => k_is); (case k => k_is)))
    (case a7 => (refine' Ev.funAt_mk ?a ?l ?c ?k; (case a => k_is); (case l => k_is); (case c => k_is); (case k => k_is)))
    (case a8 => (refine' Ev.funAt_mk ?a ?l ?c ?k; (case a => k_is); (case l => k_is); (case c => k_is); (case k => k_is)))
    (case a9 => (refine' Ev.funAt_mk ?a ?l ?c ?k; (case a => k_is); (case l => k_is); (case c => k_is); (case k => k_is)))
    (case a10 => (refine' Ev.funAt_mk ?a ?l ?c ?k; (case a => k_is); (case l => k_is); (case c => k_is); (case k => k_is)))
    (case a11 => (refine' Ev.funAt_mk ?a ?l ?c ?k; (case a => k_is); (case l => k_is); (case c => k_is); (case k => k_is)))
    (case a12 => (refine' Ev.funAt_mk ?a ?l ?c ?k; (case a => k_is); (case l => k_is); (case c => k_is); (case k => k_is)))
    (case a13 => (refine' Ev.funAt_mk ?a ?l ?c ?k; (case a => k_is); (case l => k_is); (case c => k_is); (case k => k_is)))
    (case a14 => (refine' Ev.funAt_mk ?a ?l ?c ?k; (case a => k_is); (case l => k_is); (case c => k_is); (case k => k_is)))
    (case a15 => (refine' Ev.funAt_mk ?a ?l ?c ?k; (case a => k_is); (case l => k_is); (case c => k_is); (case k => k_is)))
    (case a16 => (refine' Ev.funAt_mk ?a ?l ?c ?k; (case a => k_is); (case l => k_is); (case c => k_is); (case k => k_is)))
    (case a17 => (refine' Ev.funAt_mk ?a ?l ?c ?k; (case a => k_is); (case l => k_is); (case c => k_is); (case k => k_is)))
    (case a18 => (refine' Ev.funAt_mk ?a ?l ?c ?k; (case a => k_is); (case l => k_is); (case c => k_is); (case k => k_is)))
    (case a19 => (refine' Ev.funAt_mk ?a ?l ?c ?k; (case a => k_is); (case l => k_is); (case c => k_is); (case k => k_is)))
    (case a20 => (refine' Ev.funAt_mk ?a ?l ?c ?k; (case a => k_is); (case l => k_is); (case c => k_is); (case k => k_is)))
    (case a21 => (refine' Ev.funAt_mk ?a ?l ?c ?k; (case a => k_is); (case l => k_is); (case c => k_is); (case k => k_is)))
    (case a22 => (refine' Ev.funAt_mk ?a ?l ?c ?k; (case a => k_is); (case l => k_is); (case c => k_is); (case k => k_is)))
    (case a23 => (refine' Ev.funAt_mk ?a ?l ?c ?k; (case a => k_is); (case l => k_is); (case c => k_is); (case k => k_is)))
    (case a24 => (refine' Ev.funAt_mk ?a ?l ?c ?k; (case a => k_is); (case l => k_is); (case c => k_is); (case k => k_is)))
    (case a25 => (refine' Ev.funAt_mk ?a ?l ?c ?k; (case a => k_is); (case l => k_is); (case c => k_is); (case k => k_is)))
    (case a26 => (refine' Ev.funAt_mk ?a ?l ?c ?k; (case a => k_is); (case l => k_is); (case c => k_is); (case k => k_is)))
    (case c0 => (refine' Ev.csAt_int ?z; (case z => k_is)))
    (case c1 => (refine' Ev.csAt_int ?z; (case z => k_is)))
    (case c2 => (refine' Ev.csAt_int ?z; (case z => k_is)))
    (case c3 => (refine' Ev.csAt_str ?z; (case z => k_is)))
    (case c4 => (refine' Ev.csAt_str ?z; (case z => k_is)))
    (case c5 => (refine' Ev.csAt_int ?z; (case z => k_is)))
    (case hb => (refine' ⟨?_, ?_, ?_, ?_, ?_, ?_, ?_, ?_, ?_, ?_, ?_, ?_, ?_, ?_, ?_, ?_, ?_, ?_, ?_, ?_, trivial⟩ <;> k_is))

