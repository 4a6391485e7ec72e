import PyProof.Rows.All
import Wide.All
import OpenK.AllK
import Wide.FinOn
import HandS.ForMost
import HandS.TupAny
import HandS.Wide
import HandS.Style
import HandS.Text
import KE.KRevSl
import HandS.Defaults
import HandS.Words
import HandS.Ends
import HandS.NoneIn
import HandS.Iter
import HandS.IsInst
import HandS.Deep
import HandS.Zip
import HandS.SortInts
import HandS.Sort
import HandS.TupMul
import KE.DataMinMax
import KE.GoesEnum
import HandS.Conv
import HandS.More
import KE.DatumOrd
import HandS.SortKw
import HandS.DictComp
import HandS.Small
import KE.KDictLaws
import HandS.SetFor
import HandS.Strs
import PyProof.Rows.SetFrom
import PyProof.SetRoads
import KE.DataFind
import KE.KUnpackStar
import PyProof.Rows.RegBound
import PySem.Challenge.RW_tiltpits_k43_ends_of_channels
set_option autoImplicit false
set_option hygiene false
set_option Elab.async false
set_option linter.all false
set_option maxRecDepth 100000
set_option maxHeartbeats 8000000
/-! Pv1: data over the abstract heap with owners. -/
namespace Pv
open PySem PySem.Spec PyProof.Rows L2

abbrev D := PyData
abbrev Fg := PySem.W.Frag
abbrev Sg := L2.St
/-- who may write at an address: nobody (it is read alone), somebody beyond this frame, the slot i (at a place of its tree), the t-th value in hand -/
inductive Ow where
  | shr | far | own (i : Nat) (p : List Nat) | tmp (t : Nat) (p : List Nat)
  deriving DecidableEq
abbrev Om := Addr → Ow

def KL (K : Fg) (a : Addr) (xs : List V) : Prop :=
  ∃ (o : Obj) (its : Array Value) (n : Nat), K.lookup a = some o ∧ o.cls = .type "list" ∧ o.dict = none ∧ o.data = .seq its n ∧ its.size ≤ sizeLine ∧ Vals xs its.toList
def KT (K : Fg) (a : Addr) (xs : List V) : Prop :=
  ∃ (o : Obj) (its : Array Value) (n : Nat), K.lookup a = some o ∧ o.cls = .type "tuple" ∧ o.data = .seq its n ∧ its.size ≤ sizeLine ∧ Vals xs its.toList
def SL (ω : Om) (H : Hp) (a : Addr) (xs : List V) : Prop := H a = some (.lst xs) ∧ ω a = .shr
def SU (K : Fg) (ω : Om) (H : Hp) (a : Addr) (xs : List V) : Prop := (H a = some (.tup xs) ∧ ω a = .shr) ∨ KT K a xs
/-- the script: a list that is known, not tracked as a plain one; as data it's told by a form of its own -/
def SC (K : Fg) (ω : Om) (H : Hp) (a : Addr) (xs : List V) : Prop := (Rd H a (.lst xs) ∧ ω a = .shr) ∨ KL K a xs
def scrD (ns : List Int) : D := .dict (ns.map fun n => (PyData.none, PyData.int n))
def isScr (kvs : List (D × D)) : Bool := match kvs with
  | (.bool _, _) :: _ => false
  | _ => true
theorem isScr_map (ns : List Int) : isScr (ns.map fun n => (PyData.none, PyData.int n)) = true := by cases ns <;> rfl
/-- a dict whose keys are ints, told by a form of its own -/
def dctD (es : List (Int × D)) : D := .dict ((.bool true, .none) :: es.map fun p => (.int p.1, p.2))
/-- its values -/
inductive DVal (ω : Om) (H : Hp) : V → D → Prop
  | bl (b : Bool) : DVal ω H (.bl b) (.bool b)
  | int (i : Int) : DVal ω H (.int i) (.int i)
  | il {a : Addr} {ns : List Int} : SL ω H a (ns.map V.int) → DVal ω H (.ref a) (.list (ns.map PyData.int))
inductive DPs (ω : Om) (H : Hp) : List (Key × V) → List (Int × D) → Prop
  | nil : DPs ω H [] []
  | cons {i : Int} {v : V} {d : D} {kvs : List (Key × V)} {es : List (Int × D)} : DVal ω H v d → DPs ω H kvs es → DPs ω H ((.inl i, v) :: kvs) ((i, d) :: es)
theorem SL.seq {K : Fg} {ω : Om} {H : Hp} {a : Addr} {xs : List V} (h : SL ω H a xs) : SqL K H a xs := .inl (.inl h.1)
theorem SU.seq {K : Fg} {ω : Om} {H : Hp} {a : Addr} {xs : List V} (h : SU K ω H a xs) : SqT K H a xs := h.elim (fun h => .inl (.inl h.1)) .inr
theorem SC.seq {K : Fg} {ω : Om} {H : Hp} {a : Addr} {xs : List V} (h : SC K ω H a xs) : SqL K H a xs := h.elim (fun h => .inl h.1) .inr

mutual
inductive Rp (K : Fg) (ω : Om) (H : Hp) : V → D → Prop
  | non : Rp K ω H .non .none
  | bl (b : Bool) : Rp K ω H (.bl b) (.bool b)
  | int (i : Int) : Rp K ω H (.int i) (.int i)
  | str (x : Str) : Rp K ω H (.str x) (.str x)
  | lst {a : Addr} {xs : List V} {ds : List D} : SL ω H a xs → RpAll K ω H xs ds → Rp K ω H (.ref a) (.list ds)
  | tup {a : Addr} {xs : List V} {ds : List D} : SU K ω H a xs → RpAll K ω H xs ds → Rp K ω H (.ref a) (.tuple ds)
  | scr {a : Addr} {ns : List Int} : SC K ω H a (ns.map V.int) → Rp K ω H (.ref a) (scrD ns)
  | dct {a : Addr} {kvs : List (Key × V)} {es : List (Int × D)} : H a = some (.dK kvs) → ω a = .shr → DPs ω H kvs es → Rp K ω H (.ref a) (dctD es)
inductive RpAll (K : Fg) (ω : Om) (H : Hp) : List V → List D → Prop
  | nil : RpAll K ω H [] []
  | cons {v : V} {vs : List V} {d : D} {ds : List D} : Rp K ω H v d → RpAll K ω H vs ds → RpAll K ω H (v :: vs) (d :: ds)
end

/-- all that is tracked and no slot's own is kept -/
def Step (ω : Om) (H : Hp) (ω' : Om) (H' : Hp) : Prop := ∀ a o, H a = some o → (∃ i p, ω a = .own i p) ∨ (H' a = some o ∧ ω' a = ω a)
/-- all that is tracked is kept -/
def Grow (ω : Om) (H : Hp) (ω' : Om) (H' : Hp) : Prop := ∀ a o, H a = some o → H' a = some o ∧ ω' a = ω a
/-- .. as far as it is read -/
def Sh (ω : Om) (H : Hp) (ω' : Om) (H' : Hp) : Prop := ∀ a o, H a = some o → ω a = .shr → H' a = some o ∧ ω' a = .shr
def Free (ω : Om) (T : Nat) : Prop := ∀ a t p, ω a = .tmp t p → t < T

theorem Step.refl {ω : Om} {H : Hp} : Step ω H ω H := fun _ _ h => .inr ⟨h, rfl⟩
theorem Grow.refl {ω : Om} {H : Hp} : Grow ω H ω H := fun _ _ h => ⟨h, rfl⟩
theorem Grow.step {ω ω' : Om} {H H' : Hp} (g : Grow ω H ω' H') : Step ω H ω' H' := fun a o h => .inr (g a o h)
theorem Step.sh {ω ω' : Om} {H H' : Hp} (g : Step ω H ω' H') : Sh ω H ω' H' := fun a o h e => by
  rcases g a o h with ⟨i, p, q⟩ | ⟨q, z⟩
  · rw [e] at q; cases q
  · exact ⟨q, z.trans e⟩
theorem Step.trans {ω ω1 ω2 : Om} {H H1 H2 : Hp} (a : Step ω H ω1 H1) (b : Step ω1 H1 ω2 H2) : Step ω H ω2 H2 := fun c o h => by
  rcases a c o h with q | ⟨q, z⟩
  · exact .inl q
  · rcases b c o q with ⟨i, p, r⟩ | ⟨r, y⟩
    · exact .inl ⟨i, p, z ▸ r⟩
    · exact .inr ⟨r, y.trans z⟩
theorem Grow.trans {ω ω1 ω2 : Om} {H H1 H2 : Hp} (a : Grow ω H ω1 H1) (b : Grow ω1 H1 ω2 H2) : Grow ω H ω2 H2 := fun c o h => by
  obtain ⟨q, z⟩ := a c o h
  obtain ⟨r, y⟩ := b c o q
  exact ⟨r, y.trans z⟩

section
variable {K : Fg} {ω ω' : Om} {H H' : Hp}
theorem SL.sh {a : Addr} {xs : List V} (h : SL ω H a xs) (g : Sh ω H ω' H') : SL ω' H' a xs := g a _ h.1 h.2
theorem SU.sh {a : Addr} {xs : List V} (h : SU K ω H a xs) (g : Sh ω H ω' H') : SU K ω' H' a xs := by
  rcases h with ⟨h, e⟩ | h
  · exact .inl (g a _ h e)
  · exact .inr h
theorem SC.sh {a : Addr} {xs : List V} (h : SC K ω H a xs) (g : Sh ω H ω' H') : SC K ω' H' a xs := by
  rcases h with ⟨h | ⟨o, h⟩, e⟩ | h
  · obtain ⟨q, z⟩ := g a _ h e
    exact .inl ⟨.inl q, z⟩
  · obtain ⟨q, z⟩ := g a _ h e
    exact .inl ⟨.inr ⟨o, q⟩, z⟩
  · exact .inr h
theorem DVal.sh (g : Sh ω H ω' H') {v : V} {d : D} (h : DVal ω H v d) : DVal ω' H' v d := by
  cases h with
  | bl b => exact .bl b
  | int i => exact .int i
  | il h => exact .il (h.sh g)
theorem DPs.sh (g : Sh ω H ω' H') : ∀ {kvs : List (Key × V)} {es : List (Int × D)}, DPs ω H kvs es → DPs ω' H' kvs es
  | _, _, .nil => .nil
  | _, _, .cons h t => .cons (h.sh g) (DPs.sh g t)
mutual
theorem Rp.sh (g : Sh ω H ω' H') : ∀ (d : D) (v : V), Rp K ω H v d → Rp K ω' H' v d
  | .none, _, h => by cases h; exact .non
  | .bool b, _, h => by cases h; exact .bl b
  | .int i, _, h => by cases h; exact .int i
  | .str x, _, h => by cases h; exact .str x
  | .list ds, _, h => by
    cases h with
    | lst hs ha => exact .lst (hs.sh g) (RpAll.sh g ds _ ha)
  | .tuple ds, _, h => by
    cases h with
    | tup hs ha => exact .tup (hs.sh g) (RpAll.sh g ds _ ha)
  | .dict _, _, h => by
    cases h with
    | scr hs => exact .scr (hs.sh g)
    | dct h1 h2 h3 =>
      obtain ⟨q1, q2⟩ := g _ _ h1 h2
      exact .dct q1 q2 (h3.sh g)
theorem RpAll.sh (g : Sh ω H ω' H') : ∀ (ds : List D) (vs : List V), RpAll K ω H vs ds → RpAll K ω' H' vs ds
  | [], _, h => by cases h; exact .nil
  | d :: ds, _, h => by
    cases h with
    | cons h1 h2 => exact .cons (Rp.sh g d _ h1) (RpAll.sh g ds _ h2)
end
mutual
theorem Rp.dp : ∀ (d : D) (v : V), d.canLay0 = true → Rp K ω H v d → Dp K H v d
  | .none, _, _, h => by cases h; exact .non
  | .bool b, _, _, h => by cases h; exact .bl b
  | .int i, _, _, h => by cases h; exact .int i
  | .str x, _, _, h => by cases h; exact .str x
  | .list ds, _, z, h => by
    cases h with
    | lst hs ha => exact .lst hs.seq (RpAll.dp ds _ (by simpa [PyData.canLay0] using z) ha)
  | .tuple ds, _, z, h => by
    cases h with
    | tup hs ha => exact .tup hs.seq (RpAll.dp ds _ (by simpa [PyData.canLay0] using z) ha)
  | .dict _, _, z, h => by simp [PyData.canLay0] at z
theorem RpAll.dp : ∀ (ds : List D) (vs : List V), PyData.canLayAll0 ds = true → RpAll K ω H vs ds → DpAll K H vs ds
  | [], _, _, h => by cases h; exact .nil
  | d :: ds, _, z, h => by
    have z' : d.canLay0 = true ∧ PyData.canLayAll0 ds = true := by simpa [PyData.canLayAll0] using z
    cases h with
    | cons h1 h2 => exact .cons (Rp.dp d _ z'.1 h1) (RpAll.dp ds _ z'.2 h2)
end
theorem RpAll.length : ∀ {vs : List V} {ds : List D}, RpAll K ω H vs ds → vs.length = ds.length
  | [], [], _ => rfl
  | [], _ :: _, h => nomatch h
  | _ :: _, [], h => nomatch h
  | _ :: vs, _ :: ds, .cons _ h => by rw [List.length_cons, List.length_cons, RpAll.length h]
theorem RpAll.get : ∀ {vs : List V} {ds : List D} {i : Nat} {v : V} {d : D}, RpAll K ω H vs ds → vs[i]? = some v → ds[i]? = some d → Rp K ω H v d
  | _, _, 0, _, _, .cons h _, e1, e2 => by
    have e1' := Option.some.inj e1
    have e2' := Option.some.inj e2
    subst e1'; subst e2'; exact h
  | _, _, i + 1, _, _, .cons _ h, e1, e2 => RpAll.get (i := i) h (by simpa using e1) (by simpa using e2)
  | _, _, 0, _, _, .nil, e1, _ => by simp at e1
  | _, _, _ + 1, _, _, .nil, e1, _ => by simp at e1
theorem RpAll.of_get : ∀ {vs : List V} {ds : List D}, vs.length = ds.length → (∀ (i : Nat) (v : V) (d : D), vs[i]? = some v → ds[i]? = some d → Rp K ω H v d) → RpAll K ω H vs ds
  | [], [], _, _ => .nil
  | [], _ :: _, e, _ => by cases e
  | _ :: _, [], e, _ => by cases e
  | v :: vs, d :: ds, e, h => .cons (h 0 v d rfl rfl) (RpAll.of_get (Nat.succ.inj e) fun i w c e1 e2 => h (i + 1) w c (by simpa using e1) (by simpa using e2))
theorem RpAll.at_ {vs : List V} {ds : List D} {i : Nat} {d : D} (h : RpAll K ω H vs ds) (e : ds[i]? = some d) : ∃ v, vs[i]? = some v ∧ Rp K ω H v d := by
  have hl := h.length
  obtain ⟨q, _⟩ := List.getElem?_eq_some_iff.mp e
  have q' : i < vs.length := by omega
  exact ⟨vs[i], List.getElem?_eq_getElem q', h.get (List.getElem?_eq_getElem q') e⟩
theorem RpAll.append : ∀ {vs ws : List V} {ds es : List D}, RpAll K ω H vs ds → RpAll K ω H ws es → RpAll K ω H (vs ++ ws) (ds ++ es)
  | _, _, _, _, .nil, s => s
  | _, _, _, _, .cons h t, s => .cons h (RpAll.append t s)
theorem RpAll.take : ∀ {vs : List V} {ds : List D} (n : Nat), RpAll K ω H vs ds → RpAll K ω H (vs.take n) (ds.take n)
  | _, _, 0, _ => .nil
  | _, _, _ + 1, .nil => .nil
  | _, _, n + 1, .cons h t => .cons h (RpAll.take n t)
theorem RpAll.drop : ∀ {vs : List V} {ds : List D} (n : Nat), RpAll K ω H vs ds → RpAll K ω H (vs.drop n) (ds.drop n)
  | _, _, 0, h => h
  | _, _, _ + 1, .nil => .nil
  | _, _, n + 1, .cons _ t => RpAll.drop n t
theorem RpAll.reverse : ∀ {vs : List V} {ds : List D}, RpAll K ω H vs ds → RpAll K ω H vs.reverse ds.reverse
  | _, _, .nil => .nil
  | _, _, .cons h t => by
    rw [List.reverse_cons, List.reverse_cons]
    exact (RpAll.reverse t).append (.cons h .nil)
theorem RpAll.eraseIdx : ∀ {vs : List V} {ds : List D} (n : Nat), RpAll K ω H vs ds → RpAll K ω H (vs.eraseIdx n) (ds.eraseIdx n)
  | _, _, _, .nil => by rw [List.eraseIdx_nil, List.eraseIdx_nil]; exact .nil
  | _, _, 0, .cons _ t => t
  | _, _, n + 1, .cons h t => .cons h (RpAll.eraseIdx n t)
theorem RpAll.set {w : V} {c : D} (q : Rp K ω H w c) : ∀ {vs : List V} {ds : List D} (n : Nat), RpAll K ω H vs ds → RpAll K ω H (vs.set n w) (ds.set n c)
  | _, _, _, .nil => .nil
  | _, _, 0, .cons _ t => .cons q t
  | _, _, n + 1, .cons h t => .cons h (RpAll.set q n t)
theorem RpAll.ints : ∀ (ns : List Int), RpAll K ω H (ns.map V.int) (ns.map PyData.int)
  | [] => .nil
  | n :: ns => .cons (.int n) (RpAll.ints ns)
theorem RpAll.of_ints : ∀ {vs : List V} (ns : List Int), RpAll K ω H vs (ns.map PyData.int) → vs = ns.map V.int
  | _, [], h => by cases h; rfl
  | _, n :: ns, h => by
    cases h with
    | cons h1 h2 => cases h1; rw [RpAll.of_ints ns h2]; rfl
theorem RpAll.of_bools : ∀ {vs : List V} (ns : List Bool), RpAll K ω H vs (ns.map PyData.bool) → vs = ns.map V.bl
  | _, [], h => by cases h; rfl
  | _, n :: ns, h => by
    cases h with
    | cons h1 h2 => cases h1; rw [RpAll.of_bools ns h2]; rfl
theorem RpAll.of_strs : ∀ {vs : List V} (ns : List Str), RpAll K ω H vs (ns.map PyData.str) → vs = ns.map V.str
  | _, [], h => by cases h; rfl
  | _, n :: ns, h => by
    cases h with
    | cons h1 h2 => cases h1; rw [RpAll.of_strs ns h2]; rfl
end

/-! ### scalars, values that nobody may write at -/
mutual
/-- no list in it -/
def imm : D → Bool
  | .none => true | .bool _ => true | .int _ => true | .str _ => true
  | .list _ => false
  | .tuple ds => immAll ds
  | .dict _ => false
def immAll : List D → Bool
  | [] => true
  | d :: ds => imm d && immAll ds
end
/-- a tree of k levels of lists that one owner may write at; the rest is shared -/
def OwR (K : Fg) (ω : Om) (H : Hp) : Nat → (List Nat → Ow) → List Nat → V → D → Prop
  | 0, _, _, v, d => Rp K ω H v d
  | k + 1, o, p, v, d => (imm d = true ∧ Rp K ω H v d) ∨
      (∃ (a : Addr) (vs : List V) (ds : List D), v = .ref a ∧ d = .list ds ∧ H a = some (.lst vs) ∧ ω a = o p ∧ vs.length = ds.length ∧
        ∀ (j : Nat) (v' : V) (d' : D), vs[j]? = some v' → ds[j]? = some d' → OwR K ω H k o (p ++ [j]) v' d') ∨
      ∃ (a : Addr) (kvs : List (Key × V)) (es : List (Int × D)), v = .ref a ∧ d = dctD es ∧ H a = some (.dK kvs) ∧ ω a = o p ∧ DPs ω H kvs es
section
variable {K : Fg} {ω ω' : Om} {H H' : Hp}
/-- kept, under another map of owners -/
theorem OwR.go {o o' : List Nat → Ow} (g : Sh ω H ω' H') (h2 : ∀ a u p, H a = some u → ω a = o p → H' a = some u ∧ ω' a = o' p) : ∀ (k : Nat) (p : List Nat) (v : V) (d : D), OwR K ω H k o p v d → OwR K ω' H' k o' p v d
  | 0, _, v, d, h => Rp.sh g d v h
  | k + 1, p, v, d, h => by
    rcases h with ⟨i, h⟩ | ⟨a, vs, ds, e1, e2, h1, e3, el, hc⟩ | ⟨a, kvs, es, e1, e2, h1, e3, hp⟩
    · exact .inl ⟨i, Rp.sh g d v h⟩
    · obtain ⟨q1, q2⟩ := h2 a _ p h1 e3
      exact .inr (.inl ⟨a, vs, ds, e1, e2, q1, q2, el, fun j v' d' z1 z2 => OwR.go g h2 k _ v' d' (hc j v' d' z1 z2)⟩)
    · obtain ⟨q1, q2⟩ := h2 a _ p h1 e3
      exact .inr (.inr ⟨a, kvs, es, e1, e2, q1, q2, hp.sh g⟩)
/-- given up: it is shared from then on -/
theorem OwR.fz {o : List Nat → Ow} (g : Sh ω H ω' H') (h2 : ∀ a u p, H a = some u → ω a = o p → H' a = some u ∧ ω' a = .shr) : ∀ (k : Nat) (p : List Nat) (v : V) (d : D), OwR K ω H k o p v d → Rp K ω' H' v d
  | 0, _, v, d, h => Rp.sh g d v h
  | k + 1, p, v, d, h => by
    rcases h with ⟨i, h⟩ | ⟨a, vs, ds, e1, e2, h1, e3, el, hc⟩ | ⟨a, kvs, es, e1, e2, h1, e3, hp⟩
    · exact Rp.sh g d v h
    · obtain ⟨q1, q2⟩ := h2 a _ p h1 e3
      subst e1; subst e2
      exact .lst ⟨q1, q2⟩ (RpAll.of_get el fun j v' d' z1 z2 => OwR.fz g h2 k _ v' d' (hc j v' d' z1 z2))
    · obtain ⟨q1, q2⟩ := h2 a _ p h1 e3
      subst e1; subst e2
      exact .dct q1 q2 (hp.sh g)
theorem DpAll.of_get : ∀ {vs : List V} {ds : List D}, vs.length = ds.length → (∀ (i : Nat) (v : V) (d : D), vs[i]? = some v → ds[i]? = some d → Dp K H v d) → DpAll K H vs ds
  | [], [], _, _ => .nil
  | [], _ :: _, e, _ => by cases e
  | _ :: _, [], e, _ => by cases e
  | v :: vs, d :: ds, e, h => .cons (h 0 v d rfl rfl) (DpAll.of_get (Nat.succ.inj e) fun i w c e1 e2 => h (i + 1) w c (by simpa using e1) (by simpa using e2))
theorem canLay_all : ∀ {ds : List D} {i : Nat} {d : D}, PyData.canLayAll0 ds = true → ds[i]? = some d → d.canLay0 = true
  | [], _, _, _, e => by simp at e
  | c :: ds, 0, d, h, e => by
    have h' : c.canLay0 = true ∧ PyData.canLayAll0 ds = true := by simpa [PyData.canLayAll0] using h
    have e' := Option.some.inj e
    subst e'; exact h'.1
  | c :: ds, i + 1, d, h, e => by
    have h' : c.canLay0 = true ∧ PyData.canLayAll0 ds = true := by simpa [PyData.canLayAll0] using h
    exact canLay_all (i := i) h'.2 (by simpa using e)
theorem OwR.dp {o : List Nat → Ow} : ∀ (k : Nat) (p : List Nat) (v : V) (d : D), d.canLay0 = true → OwR K ω H k o p v d → Dp K H v d
  | 0, _, v, d, z, h => Rp.dp d v z h
  | k + 1, p, v, d, z, h => by
    rcases h with ⟨i, h⟩ | ⟨a, vs, ds, e1, e2, h1, e3, el, hc⟩ | ⟨a, kvs, es, e1, e2, h1, e3, hp⟩
    · exact Rp.dp d v z h
    · subst e1; subst e2
      exact .lst (.inl (.inl h1)) (DpAll.of_get el fun j v' d' z1 z2 => OwR.dp k _ v' d' (canLay_all (by simpa [PyData.canLay0] using z) z2) (hc j v' d' z1 z2))
    · subst e2; simp [dctD, PyData.canLay0] at z
end

/-! ### what the slots hold -/
structure Cell where
  k : Nat
  d : D
abbrev Env := List (Option Cell)
abbrev sh (d : D) : Cell := ⟨0, d⟩
abbrev ow (d : D) : Cell := ⟨1, d⟩
/-- a value in hand: a new one of so many levels (0: shared), or the one of the slot i, which stays the slot's own -/
inductive Res where
  | v (k : Nat) (d : D)
  | b (i k : Nat) (d : D)
def Res.d : Res → D
  | .v _ d => d
  | .b _ _ d => d
structure Rel (K : Fg) (ω : Om) (env : Env) (σ : Sg) (H : Hp) : Prop where
  len : σ.length = env.length
  cell : ∀ i c, env[i]? = some (some c) → ∃ v, σ[i]? = some (some v) ∧ OwR K ω H c.k (Ow.own i) [] v c.d
def ResR (K : Fg) (ω : Om) (H : Hp) (σ : Sg) (env : Env) (T : Nat) (v : V) : Res → Prop
  | .v k d => OwR K ω H k (Ow.tmp T) [] v d
  | .b i k d => env[i]? = some (some ⟨k, d⟩) ∧ σ[i]? = some (some v)
/-- a value that may be looked at: shared, or some owner's -/
def Vw (K : Fg) (ω : Om) (H : Hp) (v : V) (r : Res) : Prop := match r with
  | .v _ d => Rp K ω H v d
  | .b i k d => OwR K ω H k (Ow.own i) [] v d
theorem Vw.dp {K : Fg} {ω : Om} {H : Hp} {v : V} {r : Res} (h : Vw K ω H v r) (z : r.d.canLay0 = true) : Dp K H v r.d := by
  cases r with
  | v k d => exact Rp.dp d v z h
  | b i k d => exact OwR.dp k _ v d z h
section
variable {K : Fg} {ω ω' : Om} {H H' : Hp} {env : Env} {σ : Sg}
theorem Rel.grow (R : Rel K ω env σ H) (g : Grow ω H ω' H') : Rel K ω' env σ H' := by
  refine ⟨R.len, fun i c e => ?_⟩
  obtain ⟨v, q, h⟩ := R.cell i c e
  refine ⟨v, q, OwR.go g.step.sh (fun a u p z1 z2 => ?_) _ _ _ _ h⟩
  obtain ⟨y1, y2⟩ := g a u z1
  exact ⟨y1, y2.trans z2⟩
theorem ResR.step {T T' : Nat} {v : V} {k : Nat} {d : D} (h : ResR K ω H σ env T v (.v k d)) (g : Step ω H ω' H') : ResR K ω' H' σ env T v (.v k d) := by
  refine OwR.go g.sh (fun a u p z1 z2 => ?_) _ _ _ _ h
  rcases g a u z1 with ⟨i, q, y⟩ | ⟨y1, y2⟩
  · rw [z2] at y; cases y
  · exact ⟨y1, y2.trans z2⟩
end
/-! ### owners by another name -/
def ren (ρ : Ow → Ow) (ω : Om) : Om := fun a => ρ (ω a)
/-- the values in hand from T on are given up -/
def gcO (T : Nat) : Ow → Ow
  | .tmp t p => if T ≤ t then .shr else .tmp t p
  | o => o
abbrev gc (T : Nat) (ω : Om) : Om := ren (gcO T) ω
theorem gc_free {ω : Om} {T : Nat} : Free (gc T ω) T := fun a t p e => by
  unfold gc ren at e
  cases q : ω a with
  | tmp t' p' =>
    rw [q] at e
    have e' : (if T ≤ t' then Ow.shr else .tmp t' p') = .tmp t p := e
    by_cases hT : T ≤ t'
    · rw [if_pos hT] at e'; cases e'
    · rw [if_neg hT] at e'; cases e'; omega
  | _ => rw [q] at e; cases e
section
variable {K : Fg} {ω ω' ω0 : Om} {H H' H0 : Hp} {env : Env} {σ : Sg} {T : Nat} {v : V}
theorem gc_sh : Sh ω H (gc T ω) H := fun a o h e => ⟨h, by show gcO T (ω a) = _; rw [e]; rfl⟩
theorem Rel.gc (R : Rel K ω env σ H) (T : Nat) : Rel K (gc T ω) env σ H := by
  refine ⟨R.len, fun i c e => ?_⟩
  obtain ⟨v, q, h⟩ := R.cell i c e
  exact ⟨v, q, OwR.go gc_sh (fun a u p z1 z2 => ⟨z1, by show gcO T (ω a) = _; rw [z2]; rfl⟩) _ _ _ _ h⟩
theorem Step.gc (g : Step ω0 H0 ω H) (f : Free ω0 T) : Step ω0 H0 (gc T ω) H := fun a o h => by
  rcases g a o h with q | ⟨q, z⟩
  · exact .inl q
  · refine .inr ⟨q, ?_⟩
    show gcO T (ω a) = _
    rw [z]
    cases y : ω0 a with
    | tmp t p =>
      have := f a t p y
      show (if T ≤ t then Ow.shr else .tmp t p) = _
      rw [if_neg (by omega)]
    | _ => rfl
theorem ResR.gc {T' : Nat} {r : Res} (h : ResR K ω H σ env T' v r) (R : Rel K ω env σ H) (hT : T ≤ T') : Vw K (gc T ω) H v r := by
  cases r with
  | v k d =>
    refine OwR.fz gc_sh (fun a u p z1 z2 => ⟨z1, ?_⟩) _ _ _ _ h
    show gcO T (ω a) = _
    rw [z2]
    show (if T ≤ T' then Ow.shr else _) = _
    rw [if_pos hT]
  | b i k d =>
    obtain ⟨e1, e2⟩ := h
    obtain ⟨v', q, h⟩ := R.cell i _ e1
    rw [e2] at q
    have q' := Option.some.inj (Option.some.inj q)
    subst q'
    exact OwR.go gc_sh (fun a u p z1 z2 => ⟨z1, by show gcO T (ω a) = _; rw [z2]; rfl⟩) _ _ _ _ h
end
end Pv

/-! Pv2: readings over data: expressions, tests, arguments; names, constants, operators. -/
namespace Pv
open PySem PySem.Spec PyProof.Rows L2

abbrev FE := Env → (Res → Env → Prop) → Prop
abbrev FT := Env → (Bool → Env → Prop) → Prop
abbrev FA := Env → (List Res → Env → Prop) → Prop

def SndE (K : Fg) (t : TE) (f : FE) : Prop := ∀ (ω : Om) (T : Nat) (env : Env) (σ : Sg) (H : Hp) (R : Res → Env → Prop) (Q : VK), Rel K ω env σ H → Free ω T → f env R →
  (∀ v H' ω' env' r, Rel K ω' env' σ H' → Step ω H ω' H' → Free ω' (T + 1) → ResR K ω' H' σ env' T v r → R r env' → Q v H') → t σ H Q
def SndT (K : Fg) (t : TT) (f : FT) : Prop := ∀ (ω : Om) (T : Nat) (env : Env) (σ : Sg) (H : Hp) (R : Bool → Env → Prop) (Q : Bool → Hp → Prop), Rel K ω env σ H → Free ω T → f env R →
  (∀ b H' ω' env', Rel K ω' env' σ H' → Step ω H ω' H' → Free ω' T → R b env' → Q b H') → t σ H Q
def ResAll (K : Fg) (ω : Om) (H : Hp) (σ : Sg) (env : Env) : Nat → List V → List Res → Prop
  | _, [], [] => True
  | T, v :: vs, r :: rs => ResR K ω H σ env T v r ∧ ResAll K ω H σ env (T + 1) vs rs
  | _, _, _ => False
def SndA (K : Fg) (t : TA) (f : FA) : Prop := ∀ (ω : Om) (T : Nat) (env : Env) (σ : Sg) (H : Hp) (R : List Res → Env → Prop) (Q : List V → Hp → Prop), Rel K ω env σ H → Free ω T → f env R →
  (∀ vs H' ω' env' rs, Rel K ω' env' σ H' → Step ω H ω' H' → Free ω' (T + rs.length) → ResAll K ω' H' σ env' T vs rs → R rs env' → Q vs H') → t σ H Q
structure SE (X : Cx) (e : Expr) (f : FE) : Prop where
  ex : ∃ t : TE, PE X e t ∧ SndE X.K t f
structure STs (X : Cx) (e : Expr) (f : FT) : Prop where
  ex : ∃ t : TT, PT X e t ∧ SndT X.K t f
structure STw (X : Cx) (e : Expr) (f : FT) : Prop where
  ex : ∃ t : TT, PW X e t ∧ SndT X.K t f
structure SA (X : Cx) (es : List Expr) (f : FA) : Prop where
  ex : ∃ t : TA, PA X es t ∧ SndA X.K t f

/-- a value of a slot's own is still as it was seen -/
def okb (env : Env) : Res → Prop
  | .v _ _ => True
  | .b i k d => env[i]? = some (some ⟨k, d⟩)
@[simp] theorem okb_v {env : Env} {k : Nat} {d : D} : okb env (.v k d) = True := rfl
@[simp] theorem okb_b {env : Env} {i k : Nat} {d : D} : okb env (.b i k d) = (env[i]? = some (some ⟨k, d⟩)) := rfl
@[simp] theorem Res.d_v {k : Nat} {d : D} : (Res.v k d).d = d := rfl
@[simp] theorem Res.d_b {i k : Nat} {d : D} : (Res.b i k d).d = d := rfl

/-! ### names, constants -/
def getC (env : Env) (i : Nat) : Option Cell := match env[i]? with
  | some c => c
  | none => none
theorem getC_some {env : Env} {i : Nat} {c : Cell} (h : getC env i = some c) : env[i]? = some (some c) := by
  unfold getC at h
  cases e : env[i]? with
  | none => rw [e] at h; cases h
  | some o => rw [e] at h; rw [show o = some c from h]
theorem getC_of {env : Env} {i : Nat} {c : Cell} (h : env[i]? = some (some c)) : getC env i = some c := by unfold getC; rw [h]
/-- a name that is looked at -/
def fVar (i : Nat) : FE := fun env R => match getC env i with
  | some ⟨0, d⟩ => R (.v 0 d) env
  | some ⟨k + 1, d⟩ => R (.b i (k + 1) d) env
  | none => False
/-- .. whose value is given up to whoever has it -/
def fFz (i : Nat) : FE := fun env R => match getC env i with
  | some c => R (.v 0 c.d) (env.set i (some (sh c.d)))
  | none => False
/-- .. whose value goes away from it -/
def fMv (i : Nat) : FE := fun env R => match getC env i with
  | some c => R (.v c.k c.d) (env.set i none)
  | none => False
def fC (d : D) : FE := fun env R => R (.v 0 d) env

section
variable {K : Fg}
theorem snd_var (i : Nat) : SndE K (tVar i) (fVar i) := by
  intro ω T env σ H R Q rel fr h q
  unfold fVar at h
  cases hc : getC env i with
  | none => rw [hc] at h; exact h.elim
  | some c =>
    obtain ⟨k, d⟩ := c
    rw [hc] at h
    obtain ⟨v, hv, ho⟩ := rel.cell i _ (getC_some hc)
    refine ⟨v, hv, ?_⟩
    cases k with
    | zero =>
      have ho' : Rp K ω H v d := ho
      exact q v H ω env (.v 0 d) rel Step.refl (fun a t p e => Nat.lt_succ_of_lt (fr a t p e)) ho' h
    | succ k => exact q v H ω env (.b i (k + 1) d) rel Step.refl (fun a t p e => Nat.lt_succ_of_lt (fr a t p e)) ⟨getC_some hc, hv⟩ h
def fzO (i : Nat) : Ow → Ow
  | .own j p => if j = i then .shr else .own j p
  | o => o
theorem snd_fz (i : Nat) : SndE K (tVar i) (fFz i) := by
  intro ω T env σ H R Q rel fr h0 q
  obtain ⟨c, hc, hR⟩ : ∃ c : Cell, env[i]? = some (some c) ∧ R (.v 0 c.d) (env.set i (some (sh c.d))) := by
    unfold fFz at h0
    cases hc : getC env i with
    | none => rw [hc] at h0; exact h0.elim
    | some c => rw [hc] at h0; exact ⟨c, getC_some hc, h0⟩
  obtain ⟨v, hv, ho⟩ := rel.cell i c hc
  have gsh : Sh ω H (ren (fzO i) ω) H := fun a o h e => ⟨h, by show fzO i (ω a) = _; rw [e]; rfl⟩
  have rp : Rp K (ren (fzO i) ω) H v c.d := OwR.fz gsh (fun a u p z1 z2 => ⟨z1, by
    show fzO i (ω a) = _
    rw [z2]
    show (if i = i then Ow.shr else _) = _
    rw [if_pos rfl]⟩) _ _ _ _ ho
  refine ⟨v, hv, q v H (ren (fzO i) ω) _ (.v 0 c.d) ⟨by rw [List.length_set]; exact rel.len, fun j c' e => ?_⟩ (fun a o h => ?_) (fun a t p e => ?_) rp hR⟩
  · by_cases hj : i = j
    · subst hj
      have hlt : i < env.length := (List.getElem?_eq_some_iff.mp hc).1
      rw [List.getElem?_set_self hlt] at e
      cases e
      exact ⟨v, hv, rp⟩
    · rw [List.getElem?_set_ne hj] at e
      obtain ⟨v', hv', ho'⟩ := rel.cell j c' e
      refine ⟨v', hv', OwR.go gsh (fun a u p z1 z2 => ⟨z1, ?_⟩) _ _ _ _ ho'⟩
      show fzO i (ω a) = _
      rw [z2]
      show (if j = i then Ow.shr else _) = _
      rw [if_neg (fun z => hj z.symm)]
  · show _ ∨ (_ ∧ fzO i (ω a) = ω a)
    cases y : ω a with
    | own j p => exact .inl ⟨j, p, rfl⟩
    | _ => exact .inr ⟨h, rfl⟩
  · have e' : fzO i (ω a) = .tmp t p := e
    cases y : ω a with
    | own j p' =>
      rw [y] at e'
      have e2 : (if j = i then Ow.shr else .own j p') = .tmp t p := e'
      by_cases hj : j = i
      · rw [if_pos hj] at e2; cases e2
      · rw [if_neg hj] at e2; cases e2
    | tmp t' p' =>
      rw [y] at e'
      cases e'
      exact Nat.lt_succ_of_lt (fr a _ _ y)
    | shr => rw [y] at e'; cases e'
    | far => rw [y] at e'; cases e'
def mvO (i T : Nat) : Ow → Ow
  | .own j p => if j = i then .tmp T p else .own j p
  | o => o
theorem snd_mv (i : Nat) : SndE K (tVar i) (fMv i) := by
  intro ω T env σ H R Q rel fr h0 q
  obtain ⟨c, hc, hR⟩ : ∃ c : Cell, env[i]? = some (some c) ∧ R (.v c.k c.d) (env.set i none) := by
    unfold fMv at h0
    cases hc : getC env i with
    | none => rw [hc] at h0; exact h0.elim
    | some c => rw [hc] at h0; exact ⟨c, getC_some hc, h0⟩
  obtain ⟨v, hv, ho⟩ := rel.cell i c hc
  have gsh : Sh ω H (ren (mvO i T) ω) H := fun a o h e => ⟨h, by show mvO i T (ω a) = _; rw [e]; rfl⟩
  refine ⟨v, hv, q v H (ren (mvO i T) ω) _ (.v c.k c.d) ⟨by rw [List.length_set]; exact rel.len, fun j c' e => ?_⟩ (fun a o h => ?_) (fun a t p e => ?_) (OwR.go (o := Ow.own i) gsh (fun a u p z1 z2 => ⟨z1, ?_⟩) _ _ _ _ ho) hR⟩
  · have hj : i ≠ j := fun z => by
      subst z
      have hlt : i < env.length := (List.getElem?_eq_some_iff.mp hc).1
      rw [List.getElem?_set_self hlt] at e
      cases e
    rw [List.getElem?_set_ne hj] at e
    obtain ⟨v', hv', ho'⟩ := rel.cell j c' e
    refine ⟨v', hv', OwR.go gsh (fun a u p z1 z2 => ⟨z1, ?_⟩) _ _ _ _ ho'⟩
    show mvO i T (ω a) = _
    rw [z2]
    show (if j = i then _ else _) = _
    rw [if_neg (fun z => hj z.symm)]
  · show _ ∨ (_ ∧ mvO i T (ω a) = ω a)
    cases y : ω a with
    | own j p => exact .inl ⟨j, p, rfl⟩
    | _ => exact .inr ⟨h, rfl⟩
  · have e' : mvO i T (ω a) = .tmp t p := e
    cases y : ω a with
    | own j p' =>
      rw [y] at e'
      have e2 : (if j = i then Ow.tmp T p' else .own j p') = .tmp t p := e'
      by_cases hj : j = i
      · rw [if_pos hj] at e2; cases e2; exact Nat.lt_succ_self _
      · rw [if_neg hj] at e2; cases e2
    | tmp t' p' =>
      rw [y] at e'
      cases e'
      exact Nat.lt_succ_of_lt (fr a _ _ y)
    | shr => rw [y] at e'; cases e'
    | far => rw [y] at e'; cases e'
  · show mvO i T (ω a) = _
    rw [z2]
    show (if i = i then _ else _) = _
    rw [if_pos rfl]
theorem Free.up {ω : Om} {T n : Nat} (h : Free ω T) : Free ω (T + n) := fun a t p e => by have := h a t p e; omega
theorem snd_c {v : V} {d : D} (h : ∀ (ω : Om) (H : Hp), Rp K ω H v d) : SndE K (tC v) (fC d) := by
  intro ω T env σ H R Q rel fr hR q
  exact q v H ω env (.v 0 d) rel Step.refl fr.up (h ω H) hR
end
section
variable {X : Cx}
theorem se_var (i : Nat) {x : Str} {pos : Pos} (hN : X.N[i]? = some x := by rfl) (hv : Vis X.env.scope x := by first | exact Or.inl rfl | exact Or.inr (Or.inl rfl) | exact Or.inr (Or.inr rfl)) (hd : (x == ("__debug__" : Str)) = false := by decide)
    (hcd : (x == ("__classdict__" : Str)) = false := by decide) : SE X (.Name x pos) (fVar i) := ⟨_, pe_var hN hv hd hcd, snd_var i⟩
theorem se_fz (i : Nat) {x : Str} {pos : Pos} (hN : X.N[i]? = some x := by rfl) (hv : Vis X.env.scope x := by first | exact Or.inl rfl | exact Or.inr (Or.inl rfl) | exact Or.inr (Or.inr rfl)) (hd : (x == ("__debug__" : Str)) = false := by decide)
    (hcd : (x == ("__classdict__" : Str)) = false := by decide) : SE X (.Name x pos) (fFz i) := ⟨_, pe_var hN hv hd hcd, snd_fz i⟩
theorem se_mv (i : Nat) {x : Str} {pos : Pos} (hN : X.N[i]? = some x := by rfl) (hv : Vis X.env.scope x := by first | exact Or.inl rfl | exact Or.inr (Or.inl rfl) | exact Or.inr (Or.inr rfl)) (hd : (x == ("__debug__" : Str)) = false := by decide)
    (hcd : (x == ("__classdict__" : Str)) = false := by decide) : SE X (.Name x pos) (fMv i) := ⟨_, pe_var hN hv hd hcd, snd_mv i⟩
theorem se_int {i j pos} : SE X (.Constant (.int i) j pos) (fC (.int i)) := ⟨_, pe_int, snd_c fun _ _ => .int i⟩
theorem se_bl {b j pos} : SE X (.Constant (.bool b) j pos) (fC (.bool b)) := ⟨_, pe_bl, snd_c fun _ _ => .bl b⟩
theorem se_non {j pos} : SE X (.Constant .none j pos) (fC .none) := ⟨_, pe_non, snd_c fun _ _ => .non⟩
theorem se_str {x j pos} : SE X (.Constant (.str x) j pos) (fC (.str x)) := ⟨_, pe_str, snd_c fun _ _ => .str x⟩
/-- a module's constant -/
def KD (K : Fg) (u : Value) (d : D) : Prop := ∃ v : V, RelV v u ∧ ∀ (ω : Om) (H : Hp), Rp K ω H v d
theorem se_glob {x : Str} {u : Value} {d : D} {pos : Pos} (hm : X.mg x = some u) (h : KD X.K u d) (hg : Gl X x := by rfl) (hd : (x == ("__debug__" : Str)) = false := by decide) : SE X (.Name x pos) (fC d) := by
  obtain ⟨v, r, hv⟩ := h
  exact ⟨_, pe_glob hg hm r hd, snd_c hv⟩
end

/-! ### arguments -/
def fNil : FA := fun env R => R [] env
/-- a borrowed value as it stands by now -/
def refr (e : Env) : Res → Option Res
  | .v k d => some (.v k d)
  | .b i _ _ => match getC e i with
    | some c => some (.b i c.k c.d)
    | none => none
def fCons (fa : FE) (fr : FA) : FA := fun env R => fa env fun r e1 => fr e1 fun rs e2 => match refr e2 r with
  | some r' => R (r' :: rs) e2
  | none => False
section
variable {K : Fg}
theorem snd_nil : SndA K tNil fNil := by
  intro ω T env σ H R Q rel fr hR q
  exact q [] H ω env [] rel Step.refl fr trivial hR
theorem snd_cons {ta : TE} {tr : TA} {fa : FE} {fr : FA} (ha : SndE K ta fa) (hr : SndA K tr fr) : SndA K (tCons ta tr) (fCons fa fr) := by
  intro ω T env σ H R Q rel fre hR q
  refine ha ω T env σ H _ _ rel fre hR fun v H1 ω1 e1 r rel1 st1 fr1 rr1 h1 => ?_
  refine hr ω1 (T + 1) e1 σ H1 _ _ rel1 fr1 h1 fun vs H2 ω2 e2 rs rel2 st2 fr2 rr2 h2 => ?_
  have go : ∀ r', ResR K ω2 H2 σ e2 T v r' → R (r' :: rs) e2 → Q (v :: vs) H2 := fun r' hr' hR' =>
    q (v :: vs) H2 ω2 e2 (r' :: rs) rel2 (st1.trans st2) (by rw [List.length_cons, show T + (rs.length + 1) = T + 1 + rs.length by omega]; exact fr2) ⟨hr', rr2⟩ hR'
  cases r with
  | v k d => exact go _ (ResR.step (T' := T) rr1 st2) h2
  | b i k d =>
    have h3 : (match (match getC e2 i with | some c => some (Res.b i c.k c.d) | none => none) with | some r' => R (r' :: rs) e2 | none => False) := h2
    cases hc : getC e2 i with
    | none => rw [hc] at h3; exact h3.elim
    | some c =>
      rw [hc] at h3
      exact go (.b i c.k c.d) ⟨getC_some hc, rr1.2⟩ h3
end
section
variable {X : Cx}
theorem sa_nil : SA X [] fNil := ⟨_, pa_nil, snd_nil⟩
theorem sa_cons {e : Expr} {es : List Expr} {fa : FE} {fr : FA} (ha : SE X e fa) (hr : SA X es fr) (hs : starEach (e :: es) X.env = (false, eval e X.env) :: starEach es X.env := by rfl) : SA X (e :: es) (fCons fa fr) := by
  obtain ⟨t, p, s⟩ := ha.ex
  obtain ⟨u, p', s'⟩ := hr.ex
  exact ⟨_, pa_cons p p' hs, snd_cons s s'⟩
end

/-! ### operations on values -/
abbrev KC := Nat → D → Prop
abbrev O1 := Res → KC → Prop
abbrev O2 := Res → Res → KC → Prop
abbrev ON := List Res → KC → Prop
def VwAll (K : Fg) (ω : Om) (H : Hp) : List V → List Res → Prop
  | [], [] => True
  | v :: vs, r :: rs => Vw K ω H v r ∧ VwAll K ω H vs rs
  | _, _ => False
/-- what an operation brings: the heap grew, and a value in hand -/
def Out (K : Fg) (ω : Om) (T : Nat) (H : Hp) (R : KC) (Q : VK) : Prop := ∀ v H' ω' k d, Grow ω H ω' H' → Free ω' (T + 1) → OwR K ω' H' k (Ow.tmp T) [] v d → R k d → Q v H'
def SndO1 (K : Fg) (r : V → Hp → VK → Prop) (o : O1) : Prop := ∀ ω T H x r1 (R : KC) (Q : VK), Free ω T → Vw K ω H x r1 → o r1 R → Out K ω T H R Q → r x H Q
def SndO2 (K : Fg) (r : R2) (o : O2) : Prop := ∀ ω T H x y r1 r2 (R : KC) (Q : VK), Free ω T → Vw K ω H x r1 → Vw K ω H y r2 → o r1 r2 R → Out K ω T H R Q → r x y H Q
def SndON (K : Fg) (r : List V → Hp → VK → Prop) (o : ON) : Prop := ∀ ω T H xs rs (R : KC) (Q : VK), Free ω T → VwAll K ω H xs rs → o rs R → Out K ω T H R Q → r xs H Q
/-- an operation that is looked at as a whole -/
@[irreducible] def ap1 (o : O1) (r : Res) (R : KC) : Prop := o r R
@[irreducible] def ap2 (o : O2) (r1 r2 : Res) (R : KC) : Prop := o r1 r2 R
@[irreducible] def apN (o : ON) (rs : List Res) (R : KC) : Prop := o rs R
/-- data that are looked at as a whole -/
@[irreducible] def ovr (o : D → Prop) (d : D) : Prop := o d
@[irreducible] def ovr2 (o : D → D → Prop) (d d' : D) : Prop := o d d'
theorem ap1_eq {o : O1} {r : Res} {R : KC} : ap1 o r R = o r R := by unfold ap1; rfl
theorem ap2_eq {o : O2} {r1 r2 : Res} {R : KC} : ap2 o r1 r2 R = o r1 r2 R := by unfold ap2; rfl
theorem apN_eq {o : ON} {rs : List Res} {R : KC} : apN o rs R = o rs R := by unfold apN; rfl
theorem ovr_eq {o : D → Prop} {d : D} : ovr o d = o d := by unfold ovr; rfl
theorem ovr2_eq {o : D → D → Prop} {d d' : D} : ovr2 o d d' = o d d' := by unfold ovr2; rfl
theorem ap1_op {o : O1} {r : Res} {R : KC} (h : o r R) : ap1 o r R := by rw [ap1_eq]; exact h
theorem ap2_op {o : O2} {r1 r2 : Res} {R : KC} (h : o r1 r2 R) : ap2 o r1 r2 R := by rw [ap2_eq]; exact h
theorem apN_op {o : ON} {rs : List Res} {R : KC} (h : o rs R) : apN o rs R := by rw [apN_eq]; exact h
theorem ovr_op {o : D → Prop} {d : D} (h : o d) : ovr o d := by rw [ovr_eq]; exact h
theorem ovr2_op {o : D → D → Prop} {d d' : D} (h : o d d') : ovr2 o d d' := by rw [ovr2_eq]; exact h
theorem ap1_cl {o : O1} {r : Res} {R : KC} (h : ap1 o r R) : o r R := by rw [ap1_eq] at h; exact h
theorem ap2_cl {o : O2} {r1 r2 : Res} {R : KC} (h : ap2 o r1 r2 R) : o r1 r2 R := by rw [ap2_eq] at h; exact h
theorem apN_cl {o : ON} {rs : List Res} {R : KC} (h : apN o rs R) : o rs R := by rw [apN_eq] at h; exact h
theorem ovr_cl {o : D → Prop} {d : D} (h : ovr o d) : o d := by rw [ovr_eq] at h; exact h
theorem ovr2_cl {o : D → D → Prop} {d d' : D} (h : ovr2 o d d') : o d d' := by rw [ovr2_eq] at h; exact h
def fOp1 (o : O1) (fa : FE) : FE := fun env R => fa env fun r e => ap1 o r fun k d => R (.v k d) e
def fOp2 (o : O2) (fa fb : FE) : FE := fun env R => fa env fun r1 e1 => fb e1 fun r2 e2 => okb e2 r1 ∧ ap2 o r1 r2 fun k d => R (.v k d) e2
def fOpN (o : ON) (fa : FA) : FE := fun env R => fa env fun rs e => apN o rs fun k d => R (.v k d) e
section
variable {K : Fg} {ω : Om} {T : Nat} {H : Hp} {R : KC} {Q : VK}
theorem Out.same (q : Out K ω T H R Q) (fr : Free ω T) {v : V} {d : D} (h : Rp K ω H v d) (hR : R 0 d) : Q v H := q v H ω 0 d Grow.refl fr.up h hR
theorem Out.bl (q : Out K ω T H R Q) (fr : Free ω T) {b : Bool} (hR : R 0 (.bool b)) : Q (.bl b) H := q.same fr (.bl b) hR
theorem Out.int (q : Out K ω T H R Q) (fr : Free ω T) {b : Int} (hR : R 0 (.int b)) : Q (.int b) H := q.same fr (.int b) hR
theorem Out.str (q : Out K ω T H R Q) (fr : Free ω T) {b : Str} (hR : R 0 (.str b)) : Q (.str b) H := q.same fr (.str b) hR
theorem Out.non (q : Out K ω T H R Q) (fr : Free ω T) (hR : R 0 .none) : Q .non H := q.same fr .non hR
def putO (p : Addr) (o : Ow) (ω : Om) : Om := fun a => if a = p then o else ω a
theorem putO_same {p : Addr} {o : Ow} {ω : Om} : putO p o ω p = o := by unfold putO; rw [if_pos rfl]
theorem putO_ne {p a : Addr} {o : Ow} {ω : Om} (h : a ≠ p) : putO p o ω a = ω a := by unfold putO; rw [if_neg h]
theorem put_grow {p : Addr} {o : Ow} {u : HO} (hp : H p = none) : Grow ω H (putO p o ω) (upd H p u) := fun a x h => by
  have n := ne_of_none h hp
  exact ⟨by rw [upd_ne n]; exact h, putO_ne n⟩
theorem put_free {p : Addr} {l : List Nat} (fr : Free ω T) : Free (putO p (.tmp T l) ω) (T + 1) := fun a t q e => by
  by_cases h : a = p
  · subst h; rw [putO_same] at e; cases e; exact Nat.lt_succ_self _
  · rw [putO_ne h] at e; exact Nat.lt_succ_of_lt (fr a t q e)
theorem put_free0 {p : Addr} (fr : Free ω T) : Free (putO p .shr ω) (T + 1) := fun a t q e => by
  by_cases h : a = p
  · subst h; rw [putO_same] at e; cases e
  · rw [putO_ne h] at e; exact Nat.lt_succ_of_lt (fr a t q e)
/-- a new list of shared items -/
theorem Out.lst (q : Out K ω T H R Q) (fr : Free ω T) {p : Addr} (hp : H p = none) {vs : List V} {ds : List D} (h : RpAll K ω H vs ds) (hR : R 1 (.list ds)) : Q (.ref p) (upd H p (.lst vs)) := by
  refine q _ _ (putO p (.tmp T []) ω) 1 _ (put_grow hp) (put_free fr) (.inr (.inl ⟨p, vs, ds, rfl, rfl, upd_same, putO_same, h.length, fun j v' d' z1 z2 => ?_⟩)) hR
  exact Rp.sh (put_grow hp).step.sh _ _ (h.get z1 z2)
/-- a new tuple -/
theorem Out.tup (q : Out K ω T H R Q) (fr : Free ω T) {p : Addr} (hp : H p = none) {vs : List V} {ds : List D} (h : RpAll K ω H vs ds) (hR : R 0 (.tuple ds)) : Q (.ref p) (upd H p (.tup vs)) := by
  refine q _ _ (putO p .shr ω) 0 _ (put_grow hp) (put_free0 fr) (.tup (.inl ⟨upd_same, putO_same⟩) ?_) hR
  exact RpAll.sh (put_grow hp).step.sh _ _ h
end
section
variable {K : Fg}
theorem Step.grow {ω ω1 ω2 : Om} {H H1 H2 : Hp} (a : Step ω H ω1 H1) (b : Grow ω1 H1 ω2 H2) : Step ω H ω2 H2 := a.trans b.step
/-- behind an operation -/
theorem out_of {ω0 ω : Om} {T : Nat} {H0 H : Hp} {env : Env} {σ : Sg} {R : Res → Env → Prop} {Q : VK} (rel : Rel K ω env σ H) (st : Step ω0 H0 ω H)
    (q : ∀ v H' ω' env' r, Rel K ω' env' σ H' → Step ω0 H0 ω' H' → Free ω' (T + 1) → ResR K ω' H' σ env' T v r → R r env' → Q v H') : Out K ω T H (fun k d => R (.v k d) env) Q :=
  fun v H' ω' k d g fr' h hR => q v H' ω' env (.v k d) (rel.grow g) (st.grow g) fr' h hR
theorem snd_op1 {r : V → Hp → VK → Prop} {o : O1} {ta : TE} {fa : FE} (ho : SndO1 K r o) (ha : SndE K ta fa) : SndE K (tUn r ta) (fOp1 o fa) := by
  intro ω T env σ H R Q rel fre hR q
  refine ha ω T env σ H _ _ rel fre hR fun v H1 ω1 e1 r1 rel1 st1 fr1 rr1 h1 => ?_
  exact ho (gc T ω1) T H1 v r1 _ Q gc_free (rr1.gc rel1 (Nat.le_refl _)) (ap1_cl h1) (out_of (rel1.gc T) (st1.gc fre) q)
theorem two_ops {ta tb : TE} {fa fb : FE} (ha : SndE K ta fa) (hb : SndE K tb fb) {ω : Om} {T : Nat} {env : Env} {σ : Sg} {H : Hp} {G : Res → Res → Env → Prop} {W : V → V → Hp → Prop} (rel : Rel K ω env σ H) (fre : Free ω T)
    (h : fa env fun r1 e1 => fb e1 fun r2 e2 => okb e2 r1 ∧ G r1 r2 e2)
    (q : ∀ x y H' ω' e' r1 r2, Rel K ω' e' σ H' → Step ω H ω' H' → Free ω' T → Vw K ω' H' x r1 → Vw K ω' H' y r2 → G r1 r2 e' → W x y H') : ta σ H fun x H1 => tb σ H1 fun y H2 => W x y H2 := by
  refine ha ω T env σ H _ _ rel fre h fun v H1 ω1 e1 r1 rel1 st1 fr1 rr1 h1 => ?_
  refine hb ω1 (T + 1) e1 σ H1 _ _ rel1 fr1 h1 fun u H2 ω2 e2 r2 rel2 st2 fr2 rr2 h2 => ?_
  have rr1' : ResR K ω2 H2 σ e2 T v r1 := by
    cases r1 with
    | v k d => exact ResR.step (T' := T) rr1 st2
    | b i k d => exact ⟨h2.1, rr1.2⟩
  exact q v u H2 (gc T ω2) e2 r1 r2 (rel2.gc T) ((st1.trans st2).gc fre) gc_free (rr1'.gc rel2 (Nat.le_refl _)) (rr2.gc rel2 (Nat.le_succ _)) h2.2
theorem snd_op2 {r : R2} {o : O2} {ta tb : TE} {fa fb : FE} (ho : SndO2 K r o) (ha : SndE K ta fa) (hb : SndE K tb fb) : SndE K (tOp r ta tb) (fOp2 o fa fb) := by
  intro ω T env σ H R Q rel fre hR q
  refine two_ops (G := fun r1 r2 e2 => ap2 o r1 r2 fun k d => R (.v k d) e2) ha hb rel fre hR fun x y H2 ω2 e2 r1 r2 rel2 st2 fr2 v1 v2 h2 => ?_
  exact ho ω2 T H2 x y r1 r2 _ Q fr2 v1 v2 (ap2_cl h2) (out_of rel2 st2 q)
theorem ResAll.gc {ω : Om} {H : Hp} {env : Env} {σ : Sg} {T0 : Nat} (R : Rel K ω env σ H) : ∀ {vs : List V} {rs : List Res} {T : Nat}, T0 ≤ T → ResAll K ω H σ env T vs rs → VwAll K (gc T0 ω) H vs rs
  | [], [], _, _, _ => trivial
  | [], _ :: _, _, _, h => h.elim
  | _ :: _, [], _, _, h => h.elim
  | _ :: _, _ :: _, _, hT, h => ⟨ResR.gc h.1 R hT, ResAll.gc R (Nat.le_succ_of_le hT) h.2⟩
theorem snd_opN {r : List V → Hp → VK → Prop} {o : ON} {ta : TA} {fa : FA} (ho : SndON K r o) (ha : SndA K ta fa) : SndE K (fun σ H Q => ta σ H fun vs H1 => r vs H1 Q) (fOpN o fa) := by
  intro ω T env σ H R Q rel fre hR q
  refine ha ω T env σ H _ _ rel fre hR fun vs H1 ω1 e1 rs rel1 st1 fr1 rr1 h1 => ?_
  exact ho (gc T ω1) T H1 vs rs _ Q gc_free (rr1.gc rel1 (Nat.le_refl _)) (apN_cl h1) (out_of (rel1.gc T) (st1.gc fre) q)
end
end Pv

/-! Pv3: operators, comparisons, tests. -/
namespace Pv
open PySem PySem.Spec PyProof.Rows L2

/-- its items are shared -/
def flat : Res → Prop
  | .v _ _ => True
  | .b _ k _ => k ≤ 1
section
variable {K : Fg} {ω : Om} {H : Hp} {v : V} {r : Res}
theorem Vw.int (h : Vw K ω H v r) {i : Int} (e : r.d = .int i) : v = .int i := by
  have d := h.dp (by rw [e]; rfl)
  rw [e] at d; cases d; rfl
theorem Vw.bl (h : Vw K ω H v r) {i : Bool} (e : r.d = .bool i) : v = .bl i := by
  have d := h.dp (by rw [e]; rfl)
  rw [e] at d; cases d; rfl
theorem Vw.non (h : Vw K ω H v r) (e : r.d = .none) : v = .non := by
  have d := h.dp (by rw [e]; rfl)
  rw [e] at d; cases d; rfl
theorem Rp.str_ {s : Str} (h : Rp K ω H v (.str s)) : v = .str s := by cases h; rfl
theorem Vw.str (h : Vw K ω H v r) {i : Str} (e : r.d = .str i) : v = .str i := by
  cases r with
  | v k d =>
    have e' : d = .str i := e
    have h' : Rp K ω H v d := h
    rw [e'] at h'; exact h'.str_
  | b j k d =>
    have e' : d = .str i := e
    have h' : OwR K ω H k (Ow.own j) [] v d := h
    rw [e'] at h'
    cases k with
    | zero => exact Rp.str_ h'
    | succ k =>
      rcases h' with ⟨_, h'⟩ | ⟨_, _, _, _, e2, _⟩ | ⟨_, _, _, _, e2, _⟩
      · exact h'.str_
      · cases e2
      · cases e2
theorem Vw.lst (h : Vw K ω H v r) (s : flat r) {ds : List D} (e : r.d = .list ds) : ∃ a vs, v = .ref a ∧ H a = some (.lst vs) ∧ RpAll K ω H vs ds := by
  cases r with
  | v k d =>
    have e' : d = .list ds := e
    have h' : Rp K ω H v d := h
    rw [e'] at h'
    cases h' with
    | lst hs ha => exact ⟨_, _, rfl, hs.1, ha⟩
  | b j k d =>
    have e' : d = .list ds := e
    have h' : OwR K ω H k (Ow.own j) [] v d := h
    rw [e'] at h'
    cases k with
    | zero =>
      have h2 : Rp K ω H v (.list ds) := h'
      cases h2 with
      | lst hs ha => exact ⟨_, _, rfl, hs.1, ha⟩
    | succ k =>
      have s' : k + 1 ≤ 1 := s
      have k0 : k = 0 := by omega
      subst k0
      rcases h' with ⟨z, _⟩ | ⟨a, vs, ds', e1, e2, h1, _, el, hc⟩ | ⟨_, _, _, _, e2, _⟩
      · cases z
      · cases e2
        exact ⟨a, vs, e1, h1, RpAll.of_get el hc⟩
      · cases e2
theorem Rp.tup_ {ds : List D} (h : Rp K ω H v (.tuple ds)) : ∃ a vs, v = .ref a ∧ SqT K H a vs ∧ RpAll K ω H vs ds := by
  cases h with
  | tup hs ha => exact ⟨_, _, rfl, hs.seq, ha⟩
theorem Vw.tup (h : Vw K ω H v r) {ds : List D} (e : r.d = .tuple ds) : ∃ a vs, v = .ref a ∧ SqT K H a vs ∧ RpAll K ω H vs ds := by
  cases r with
  | v k d =>
    have e' : d = .tuple ds := e
    have h' : Rp K ω H v d := h
    rw [e'] at h'; exact h'.tup_
  | b j k d =>
    have e' : d = .tuple ds := e
    have h' : OwR K ω H k (Ow.own j) [] v d := h
    rw [e'] at h'
    cases k with
    | zero => exact Rp.tup_ h'
    | succ k =>
      rcases h' with ⟨_, h'⟩ | ⟨_, _, _, _, e2, _⟩ | ⟨_, _, _, _, e2, _⟩
      · exact h'.tup_
      · cases e2
      · cases e2
theorem Vw.rpT (h : Vw K ω H v r) {ds : List D} (e : r.d = .tuple ds) : Rp K ω H v (.tuple ds) := by
  cases r with
  | v k d =>
    have e' : d = .tuple ds := e
    have h' : Rp K ω H v d := h
    rw [e'] at h'; exact h'
  | b j k d =>
    have e' : d = .tuple ds := e
    have h' : OwR K ω H k (Ow.own j) [] v d := h
    rw [e'] at h'
    cases k with
    | zero => exact h'
    | succ k =>
      rcases h' with ⟨_, h'⟩ | ⟨_, _, _, _, e2, _⟩ | ⟨_, _, _, _, e2, _⟩
      · exact h'
      · cases e2
      · cases e2
theorem Rp.scr_ {ns : List Int} (h : Rp K ω H v (scrD ns)) : ∃ a, v = .ref a ∧ SqL K H a (ns.map V.int) := by
  generalize e : scrD ns = d at h
  cases h with
  | scr hs =>
    have e2 := PyData.dict.inj e
    have inj : ∀ (as bs : List Int), (as.map fun n => (PyData.none, PyData.int n)) = (bs.map fun n => (PyData.none, PyData.int n)) → as = bs := by
      intro as
      induction as with
      | nil => intro bs q; cases bs with
        | nil => rfl
        | cons _ _ => cases q
      | cons a as ih => intro bs q; cases bs with
        | nil => cases q
        | cons b bs =>
          rw [List.map_cons, List.map_cons] at q
          have q1 := (List.cons.inj q).1
          have q2 := (List.cons.inj q).2
          have q3 : a = b := PyData.int.inj (Prod.mk.inj q1).2
          rw [q3, ih bs q2]
    have e3 := inj _ _ e2
    subst e3
    exact ⟨_, rfl, hs.seq⟩
  | dct _ _ _ =>
    have e2 := congrArg isScr (PyData.dict.inj e)
    rw [isScr_map] at e2
    cases e2
  | _ => cases e
end

/-! ### arithmetic -/
def dAdd (f1 f2 : Prop) (R : KC) : D → D → Prop
  | .int i, .int j => R 0 (.int (i + j))
  | .str x, .str y => x.length + y.length ≤ sizeLine ∧ R 0 (.str (x ++ y))
  | .list xs, .list ys => (f1 ∧ f2 ∧ xs.length + ys.length ≤ sizeLine) ∧ R 1 (.list (xs ++ ys))
  | .tuple xs, .tuple ys => xs.length + ys.length ≤ sizeLine ∧ R 0 (.tuple (xs ++ ys))
  | _, _ => False
def oAdd : O2 := fun r1 r2 R => dAdd (flat r1) (flat r2) R r1.d r2.d
/-- two ints, under C -/
def dInt (C : Int → Int → Prop) (g : Int → Int → D) (R : KC) : D → D → Prop
  | .int i, .int j => C i j ∧ R 0 (g i j)
  | _, _ => False
def dInt0 (g : Int → Int → D) (R : KC) : D → D → Prop
  | .int i, .int j => R 0 (g i j)
  | _, _ => False
def oSub : O2 := fun r1 r2 R => dInt0 (fun i j => .int (i - j)) R r1.d r2.d
/-- a factor below 2 ^ 64 -/
def oMul : O2 := fun r1 r2 R => dInt CMul (fun i j => .int (i * j)) R r1.d r2.d
def oMulW : O2 := fun r1 r2 R => dInt CMulW (fun i j => .int (i * j)) R r1.d r2.d
def oDiv : O2 := fun r1 r2 R => dInt CDivW (fun i j => .int (i / j)) R r1.d r2.d
def oMod : O2 := fun r1 r2 R => dInt (fun _ j => 0 < j) (fun i j => .int (i % j)) R r1.d r2.d
def oPow : O2 := fun r1 r2 R => dInt CPow (fun i j => .int (i ^ j.toNat)) R r1.d r2.d
def oLt : O2 := fun r1 r2 R => dInt0 (fun i j => .bool (decide (i < j))) R r1.d r2.d
def oLe : O2 := fun r1 r2 R => dInt0 (fun i j => .bool (decide (i ≤ j))) R r1.d r2.d
def oGt : O2 := fun r1 r2 R => dInt0 (fun i j => .bool (decide (j < i))) R r1.d r2.d
def oGe : O2 := fun r1 r2 R => dInt0 (fun i j => .bool (decide (j ≤ i))) R r1.d r2.d
section
variable {K : Fg} {X : Cx}
theorem dInt0_ex {g : Int → Int → D} {R : KC} {d e : D} (h : dInt0 g R d e) : ∃ i j, d = .int i ∧ e = .int j ∧ R 0 (g i j) := by
  cases d <;> cases e <;> first
    | exact h.elim
    | exact ⟨_, _, rfl, rfl, h⟩
theorem dInt_ex {C : Int → Int → Prop} {g : Int → Int → D} {R : KC} {d e : D} (h : dInt C g R d e) : ∃ i j, d = .int i ∧ e = .int j ∧ C i j ∧ R 0 (g i j) := by
  cases d <;> cases e <;> first
    | exact h.elim
    | exact ⟨_, _, rfl, rfl, h⟩
theorem so_int {C : Int → Int → Prop} {g : Int → Int → Int} : SndO2 K (rI C fun i j => .int (g i j)) (fun r1 r2 R => dInt C (fun i j => .int (g i j)) R r1.d r2.d) := by
  intro ω T H x y r1 r2 R Q fr v1 v2 h q
  obtain ⟨i, j, e1, e2, c, hR⟩ := dInt_ex h
  exact ⟨i, j, v1.int e1, v2.int e2, c, q.int fr hR⟩
theorem so_int0 {g : Int → Int → Int} : SndO2 K (rI0 fun i j => .int (g i j)) (fun r1 r2 R => dInt0 (fun i j => .int (g i j)) R r1.d r2.d) := by
  intro ω T H x y r1 r2 R Q fr v1 v2 h q
  obtain ⟨i, j, e1, e2, hR⟩ := dInt0_ex h
  exact ⟨i, j, v1.int e1, v2.int e2, q.int fr hR⟩
theorem so_bl0 {g : Int → Int → Bool} : SndO2 K (rI0 fun i j => .bl (g i j)) (fun r1 r2 R => dInt0 (fun i j => .bool (g i j)) R r1.d r2.d) := by
  intro ω T H x y r1 r2 R Q fr v1 v2 h q
  obtain ⟨i, j, e1, e2, hR⟩ := dInt0_ex h
  exact ⟨i, j, v1.int e1, v2.int e2, q.bl fr hR⟩
theorem so_add : SndO2 X.K (fun x y H Q => ((rI0 fun i j => V.int (i + j)) x y H Q ∨ (∃ i j, x = .str i ∧ y = .str j ∧ i.length + j.length ≤ sizeLine ∧ Q (.str (i ++ j)) H)) ∨ (rCat x y H Q ∨ rCatA X.K x y H Q)) oAdd := by
  intro ω T H x y r1 r2 R Q fr v1 v2 h q
  have h' : dAdd (flat r1) (flat r2) R r1.d r2.d := h
  generalize e1 : r1.d = d1 at h'
  generalize e2 : r2.d = d2 at h'
  cases d1 <;> cases d2 <;> first
    | exact h'.elim
    | skip
  · exact .inl (.inl ⟨_, _, v1.int e1, v2.int e2, q.int fr h'⟩)
  · exact .inl (.inr ⟨_, _, v1.str e1, v2.str e2, h'.1, q.str fr h'.2⟩)
  · obtain ⟨⟨f1, f2, hl⟩, hR⟩ := h'
    obtain ⟨a, vs, rfl, ha, pa⟩ := v1.lst f1 e1
    obtain ⟨b, ws, rfl, hb, pb⟩ := v2.lst f2 e2
    refine .inr (.inl ⟨a, b, vs, ws, rfl, rfl, ha, hb, by rw [pa.length, pb.length]; exact hl, fun p hp => q.lst fr hp (pa.append pb) hR⟩)
  · obtain ⟨hl, hR⟩ := h'
    have w1 := v1.rpT e1
    have w2 := v2.rpT e2
    obtain ⟨a, vs, rfl, ha, pa⟩ := v1.tup e1
    obtain ⟨b, ws, rfl, hb, pb⟩ := v2.tup e2
    refine .inr (.inr ⟨a, b, vs, ws, rfl, rfl, ha, hb, by rw [pa.length, pb.length]; exact hl, fun z => ?_, fun z1 z2 => ?_, fun z1 z2 p hp => q.tup fr hp (pa.append pb) hR⟩)
    · subst z
      cases pa
      exact q.same fr w2 hR
    · subst z2
      cases pb
      rw [List.append_nil] at hR
      exact q.same fr w1 hR
theorem op_add_all : OpR X (binaryOp .Add) (fun x y H Q => ((rI0 fun i j => V.int (i + j)) x y H Q ∨ (∃ i j, x = .str i ∧ y = .str j ∧ i.length + j.length ≤ sizeLine ∧ Q (.str (i ++ j)) H)) ∨ (rCat x y H Q ∨ rCatA X.K x y H Q)) :=
  OpR.or (OpR.or op_add op_add_str) (OpR.or op_cat op_catA)
variable {a b : Expr} {fa fb : FE} {pos : Pos}
theorem se_op {op : Operator} {r : R2} {o : O2} (ho : OpR X (binaryOp op) r) (so : SndO2 X.K r o) (ha : SE X a fa) (hb : SE X b fb) : SE X (.BinOp a op b pos) (fOp2 o fa fb) := by
  obtain ⟨t, p, s⟩ := ha.ex
  obtain ⟨u, p', s'⟩ := hb.ex
  exact ⟨_, pe_op ho p p', snd_op2 so s s'⟩
theorem se_add (ha : SE X a fa) (hb : SE X b fb) : SE X (.BinOp a .Add b pos) (fOp2 oAdd fa fb) := se_op op_add_all so_add ha hb
theorem se_sub (ha : SE X a fa) (hb : SE X b fb) : SE X (.BinOp a .Sub b pos) (fOp2 oSub fa fb) := se_op op_sub so_int0 ha hb
theorem se_mul (ha : SE X a fa) (hb : SE X b fb) : SE X (.BinOp a .Mult b pos) (fOp2 oMul fa fb) := se_op op_mul so_int ha hb
theorem se_mulW (ha : SE X a fa) (hb : SE X b fb) : SE X (.BinOp a .Mult b pos) (fOp2 oMulW fa fb) := se_op op_mulW so_int ha hb
theorem se_div (ha : SE X a fa) (hb : SE X b fb) : SE X (.BinOp a .FloorDiv b pos) (fOp2 oDiv fa fb) := se_op op_fdivW so_int ha hb
theorem se_mod (ha : SE X a fa) (hb : SE X b fb) : SE X (.BinOp a .Mod b pos) (fOp2 oMod fa fb) := se_op op_mod so_int ha hb
theorem se_pow (ha : SE X a fa) (hb : SE X b fb) : SE X (.BinOp a .Pow b pos) (fOp2 oPow fa fb) := se_op op_pow so_int ha hb
/-- -x of an int -/
def dNeg (R : KC) : D → Prop
  | .int i => R 0 (.int (-i))
  | _ => False
def oNeg : O1 := fun r R => dNeg R r.d
theorem se_neg (ha : SE X a fa) : SE X (.UnaryOp .USub a pos) (fOp1 oNeg fa) := by
  obtain ⟨t, p, s⟩ := ha.ex
  refine ⟨_, pe_un un_neg p, snd_op1 (fun ω T H x r1 R Q fr v1 h q => ?_) s⟩
  have h' : dNeg R r1.d := h
  generalize e1 : r1.d = d1 at h'
  cases d1 <;> first
    | exact h'.elim
    | exact ⟨_, v1.int e1, q.int fr h'⟩
end

/-! ### comparisons -/
/-- data that == looks through -/
abbrev shp (d : D) : Prop := SeqAt.shaped d = true
def dEq (p : Bool → Bool) (R : KC) : D → D → Prop
  | .int i, .int j => R 0 (.bool (p (decide (i = j))))
  | .str i, .str j => R 0 (.bool (p (decide (i = j))))
  | .bool i, .bool j => R 0 (.bool (p (decide (i = j))))
  | d, e => shp d ∧ shp e ∧ R 0 (.bool (p (PyData.eqv d e)))
def oEq : O2 := fun r1 r2 R => dEq (fun b => b) R r1.d r2.d
def oNe : O2 := fun r1 r2 R => dEq (fun b => !b) R r1.d r2.d
/-- is None, is not None -/
def isNone : D → Bool
  | .none => true
  | _ => false
def oIsN : O2 := fun r1 r2 R => r2.d = .none ∧ R 0 (.bool (isNone r1.d))
def oNotN : O2 := fun r1 r2 R => r2.d = .none ∧ R 0 (.bool (!isNone r1.d))
section
variable {X : Cx} {a b c : Expr} {fa fb fc : FE} {pos : Pos}
theorem hu64 {A : Around} {k : Nat} (hr : Room k A) : A.units + 64 < cLine := by have := hr.un; omega
theorem so_eq : SndO2 X.K (fun x y H Q => rEq x y H Q ∨ rEqD X.K x y H Q) oEq := by
  intro ω T H x y r1 r2 R Q fr v1 v2 h q
  have h' : dEq (fun b => b) R r1.d r2.d := h
  have gen : shp r1.d ∧ shp r2.d ∧ R 0 (.bool (PyData.eqv r1.d r2.d)) → rEq x y H Q ∨ rEqD X.K x y H Q := fun ⟨s1, s2, hR⟩ =>
    .inr ⟨r1.d, r2.d, v1.dp (SeqAt.canLay_of_shaped s1), v2.dp (SeqAt.canLay_of_shaped s2), s1, s2, q.bl fr hR⟩
  generalize e1 : r1.d = d1 at h' gen
  generalize e2 : r2.d = d2 at h' gen
  cases d1 <;> cases d2 <;> first
    | exact gen h'
    | (refine .inl ⟨?_, ?_⟩
       · first
           | (rw [v1.int e1, v2.int e2]; rfl)
           | (rw [v1.str e1, v2.str e2]; rfl)
           | (rw [v1.bl e1, v2.bl e2]; rfl)
       · first
           | (rw [v1.int e1, v2.int e2]; have := q.bl fr h'; simpa using this)
           | (rw [v1.str e1, v2.str e2]; have := q.bl fr h'; simpa using this)
           | (rw [v1.bl e1, v2.bl e2]; have := q.bl fr h'; simpa using this))
theorem so_ne : SndO2 X.K (fun x y H Q => rNe x y H Q ∨ rNeD X.K x y H Q) oNe := by
  intro ω T H x y r1 r2 R Q fr v1 v2 h q
  have h' : dEq (fun b => !b) R r1.d r2.d := h
  have gen : shp r1.d ∧ shp r2.d ∧ R 0 (.bool (!PyData.eqv r1.d r2.d)) → rNe x y H Q ∨ rNeD X.K x y H Q := fun ⟨s1, s2, hR⟩ =>
    .inr ⟨r1.d, r2.d, v1.dp (SeqAt.canLay_of_shaped s1), v2.dp (SeqAt.canLay_of_shaped s2), s1, s2, q.bl fr hR⟩
  generalize e1 : r1.d = d1 at h' gen
  generalize e2 : r2.d = d2 at h' gen
  cases d1 <;> cases d2 <;> first
    | exact gen h'
    | (refine .inl ⟨?_, ?_⟩
       · first
           | (rw [v1.int e1, v2.int e2]; rfl)
           | (rw [v1.str e1, v2.str e2]; rfl)
           | (rw [v1.bl e1, v2.bl e2]; rfl)
       · first
           | (rw [v1.int e1, v2.int e2]; have := q.bl fr h'; simpa using this)
           | (rw [v1.str e1, v2.str e2]; have := q.bl fr h'; simpa using this)
           | (rw [v1.bl e1, v2.bl e2]; have := q.bl fr h'; simpa using this))
theorem Vw.isN {K : Fg} {ω : Om} {H : Hp} {v : V} {r : Res} (h : Vw K ω H v r) : decide (v = .non) = isNone r.d := by
  have rp : ∀ d : D, Rp K ω H v d → decide (v = .non) = isNone d := fun d h => by cases h <;> simp [isNone, Pv.scrD, Pv.dctD]
  cases r with
  | v k d => exact rp d h
  | b j k d =>
    have h' : OwR K ω H k (Ow.own j) [] v d := h
    cases k with
    | zero => exact rp d h'
    | succ k =>
      rcases h' with ⟨_, h'⟩ | ⟨_, _, _, e1, e2, _⟩ | ⟨_, _, _, e1, e2, _⟩
      · exact rp d h'
      · subst e1 e2; simp [isNone]
      · subst e1 e2; simp [isNone, dctD]
theorem so_isN {K : Fg} : SndO2 K (fun x y H Q => y = .non ∧ Q (.bl (decide (x = .non))) H) oIsN := by
  intro ω T H x y r1 r2 R Q fr v1 v2 h q
  exact ⟨v2.non h.1, q.bl fr (by rw [v1.isN]; exact h.2)⟩
theorem so_notN {K : Fg} : SndO2 K (fun x y H Q => y = .non ∧ Q (.bl (!decide (x = .non))) H) oNotN := by
  intro ω T H x y r1 r2 R Q fr v1 v2 h q
  exact ⟨v2.non h.1, q.bl fr (by rw [v1.isN]; exact h.2)⟩
theorem se_cmp {op : CmpOp} {r : R2} {o : O2} (ho : OpR X (compareOp op) r) (so : SndO2 X.K r o) (ha : SE X a fa) (hb : SE X b fb) (hm : behindInMarks op b = false := by first | exact nobehind _ (by decide) (by decide) | rfl) : SE X (.Compare a [op] [b] pos) (fOp2 o fa fb) := by
  obtain ⟨t, p, s⟩ := ha.ex
  obtain ⟨u, p', s'⟩ := hb.ex
  exact ⟨_, pe_cmpR ho p p' hm, snd_op2 so s s'⟩
theorem se_lt (ha : SE X a fa) (hb : SE X b fb) : SE X (.Compare a [.Lt] [b] pos) (fOp2 oLt fa fb) := se_cmp op_lt so_bl0 ha hb
theorem se_le (ha : SE X a fa) (hb : SE X b fb) : SE X (.Compare a [.LtE] [b] pos) (fOp2 oLe fa fb) := se_cmp op_le so_bl0 ha hb
theorem se_gt (ha : SE X a fa) (hb : SE X b fb) : SE X (.Compare a [.Gt] [b] pos) (fOp2 oGt fa fb) := se_cmp op_gt so_bl0 ha hb
theorem se_ge (ha : SE X a fa) (hb : SE X b fb) : SE X (.Compare a [.GtE] [b] pos) (fOp2 oGe fa fb) := se_cmp op_ge so_bl0 ha hb
theorem se_eq {k : Nat} (hr : Room k X.A) (ha : SE X a fa) (hb : SE X b fb) : SE X (.Compare a [.Eq] [b] pos) (fOp2 oEq fa fb) := se_cmp (OpR.or op_eq (op_eqD (hu64 hr))) so_eq ha hb
theorem se_ne {k : Nat} (hr : Room k X.A) (ha : SE X a fa) (hb : SE X b fb) : SE X (.Compare a [.NotEq] [b] pos) (fOp2 oNe fa fb) := se_cmp (OpR.or op_ne (op_neD (hu64 hr))) so_ne ha hb
theorem se_isN (ha : SE X a fa) (hb : SE X b fb) : SE X (.Compare a [.Is] [b] pos) (fOp2 oIsN fa fb) := se_cmp op_isN so_isN ha hb
theorem se_notN (ha : SE X a fa) (hb : SE X b fb) : SE X (.Compare a [.IsNot] [b] pos) (fOp2 oNotN fa fb) := se_cmp op_notN so_notN ha hb
end

/-! ### tests -/
def dB (R : Bool → Prop) : D → Prop
  | .bool b => R b
  | _ => False
def fTst (fa : FE) : FT := fun env R => fa env fun r e => dB (fun b => R b e) r.d
def fAnd (f g : FT) : FT := fun env R => f env fun b e => match b with
  | true => g e R
  | false => R false e
def fOr (f g : FT) : FT := fun env R => f env fun b e => match b with
  | true => R true e
  | false => g e R
def fNot (f : FT) : FT := fun env R => f env fun b e => R (!b) e
/-- and, or, not as values (of truths) -/
def fAndV (f g : FE) : FE := fun env R => f env fun r e => dB (fun b => match b with
  | true => g e R
  | false => R (.v 0 (.bool false)) e) r.d
def fOrV (f g : FE) : FE := fun env R => f env fun r e => dB (fun b => match b with
  | true => R (.v 0 (.bool true)) e
  | false => g e R) r.d
def fNotV (f : FE) : FE := fun env R => f env fun r e => dB (fun b => R (.v 0 (.bool (!b))) e) r.d
def fIf (c : FT) (f g : FE) : FE := fun env R => c env fun b e => match b with
  | true => f e R
  | false => g e R
section
variable {K : Fg}
theorem dB_ex {R : Bool → Prop} {d : D} (h : dB R d) : ∃ b, d = .bool b ∧ R b := by
  cases d <;> first
    | exact h.elim
    | exact ⟨_, rfl, h⟩
theorem ResR.bl {ω : Om} {H : Hp} {σ : Sg} {env : Env} {T : Nat} {v : V} {r : Res} {b : Bool} (R : Rel K ω env σ H) (h : ResR K ω H σ env T v r) (e : r.d = .bool b) : v = .bl b := Vw.bl (h.gc R (Nat.le_refl _)) e
theorem snd_tst {t : TE} {f : FE} (h : SndE K t f) : SndT K (fun σ H Q => t σ H fun x H' => ∃ k, x = .bl k ∧ Q k H') (fTst f) := by
  intro ω T env σ H R Q rel fr hR q
  refine h ω T env σ H _ _ rel fr hR fun v H1 ω1 e1 r rel1 st1 fr1 rr1 h1 => ?_
  obtain ⟨b, e, hb⟩ := dB_ex h1
  exact ⟨b, rr1.bl rel1 e, q b H1 (gc T ω1) e1 (rel1.gc T) (st1.gc fr) gc_free hb⟩
theorem snd_and {t u : TT} {f g : FT} (h : SndT K t f) (h' : SndT K u g) : SndT K (tAnd t u) (fAnd f g) := by
  intro ω T env σ H R Q rel fr hR q
  refine h ω T env σ H _ _ rel fr hR fun b H1 ω1 e1 rel1 st1 fr1 h1 => ?_
  cases b with
  | true => exact h' ω1 T e1 σ H1 R Q rel1 fr1 h1 fun b H2 ω2 e2 rel2 st2 fr2 h2 => q b H2 ω2 e2 rel2 (st1.trans st2) fr2 h2
  | false => exact q false H1 ω1 e1 rel1 st1 fr1 h1
theorem snd_or {t u : TT} {f g : FT} (h : SndT K t f) (h' : SndT K u g) : SndT K (tOr t u) (fOr f g) := by
  intro ω T env σ H R Q rel fr hR q
  refine h ω T env σ H _ _ rel fr hR fun b H1 ω1 e1 rel1 st1 fr1 h1 => ?_
  cases b with
  | true => exact q true H1 ω1 e1 rel1 st1 fr1 h1
  | false => exact h' ω1 T e1 σ H1 R Q rel1 fr1 h1 fun b H2 ω2 e2 rel2 st2 fr2 h2 => q b H2 ω2 e2 rel2 (st1.trans st2) fr2 h2
theorem snd_not {t : TT} {f : FT} (h : SndT K t f) : SndT K (tNot t) (fNot f) := by
  intro ω T env σ H R Q rel fr hR q
  exact h ω T env σ H _ _ rel fr hR fun b H1 ω1 e1 rel1 st1 fr1 h1 => q (!b) H1 ω1 e1 rel1 st1 fr1 h1
theorem snd_andV {t u : TE} {f g : FE} (h : SndE K t f) (h' : SndE K u g) : SndE K (tAndV t u) (fAndV f g) := by
  intro ω T env σ H R Q rel fr hR q
  refine h ω T env σ H _ _ rel fr hR fun v H1 ω1 e1 r rel1 st1 fr1 rr1 h1 => ?_
  obtain ⟨b, e, hb⟩ := dB_ex h1
  refine ⟨b, rr1.bl rel1 e, ?_⟩
  cases b with
  | true => exact h' (gc T ω1) T e1 σ H1 R Q (rel1.gc T) gc_free hb fun v H2 ω2 e2 r rel2 st2 fr2 rr2 h2 => q v H2 ω2 e2 r rel2 ((st1.gc fr).trans st2) fr2 rr2 h2
  | false => exact q (.bl false) H1 ω1 e1 (.v 0 (.bool false)) rel1 st1 fr1 (Rp.bl false) hb
theorem snd_orV {t u : TE} {f g : FE} (h : SndE K t f) (h' : SndE K u g) : SndE K (tOrV t u) (fOrV f g) := by
  intro ω T env σ H R Q rel fr hR q
  refine h ω T env σ H _ _ rel fr hR fun v H1 ω1 e1 r rel1 st1 fr1 rr1 h1 => ?_
  obtain ⟨b, e, hb⟩ := dB_ex h1
  refine ⟨b, rr1.bl rel1 e, ?_⟩
  cases b with
  | false => exact h' (gc T ω1) T e1 σ H1 R Q (rel1.gc T) gc_free hb fun v H2 ω2 e2 r rel2 st2 fr2 rr2 h2 => q v H2 ω2 e2 r rel2 ((st1.gc fr).trans st2) fr2 rr2 h2
  | true => exact q (.bl true) H1 ω1 e1 (.v 0 (.bool true)) rel1 st1 fr1 (Rp.bl true) hb
theorem snd_notV {t : TE} {f : FE} (h : SndE K t f) : SndE K (tNotV t) (fNotV f) := by
  intro ω T env σ H R Q rel fr hR q
  refine h ω T env σ H _ _ rel fr hR fun v H1 ω1 e1 r rel1 st1 fr1 rr1 h1 => ?_
  obtain ⟨b, e, hb⟩ := dB_ex h1
  exact ⟨b, rr1.bl rel1 e, q (.bl (!b)) H1 ω1 e1 (.v 0 (.bool (!b))) rel1 st1 fr1 (Rp.bl _) hb⟩
theorem snd_if {c : TT} {t u : TE} {fc : FT} {f g : FE} (hc : SndT K c fc) (h : SndE K t f) (h' : SndE K u g) : SndE K (tIf c t u) (fIf fc f g) := by
  intro ω T env σ H R Q rel fr hR q
  refine hc ω T env σ H _ _ rel fr hR fun b H1 ω1 e1 rel1 st1 fr1 h1 => ?_
  cases b with
  | true => exact h ω1 T e1 σ H1 R Q rel1 fr1 h1 fun v H2 ω2 e2 r rel2 st2 fr2 rr2 h2 => q v H2 ω2 e2 r rel2 (st1.trans st2) fr2 rr2 h2
  | false => exact h' ω1 T e1 σ H1 R Q rel1 fr1 h1 fun v H2 ω2 e2 r rel2 st2 fr2 rr2 h2 => q v H2 ω2 e2 r rel2 (st1.trans st2) fr2 rr2 h2
end
section
variable {X : Cx} {a b e : Expr} {rest : List Expr} {fa fb : FE} {ga gb : FT} {pos : Pos}
/-- an expression whose value is a truth, as a test -/
theorem st_val (h : SE X e fa) (he : ∀ whole, isTrue e X.env whole = (do let v ← whole; standAt e.pos; holding [v] (truthy v)) := by intro _; rfl) : STs X e (fTst fa) := by
  obtain ⟨t, p, s⟩ := h.ex
  exact ⟨_, pt_val p he, snd_tst s⟩
theorem st_cmp {op : CmpOp} {r : R2} {o : O2} (ho : OpR X (compareOp op) r) (so : SndO2 X.K r o) (ha : SE X a fa) (hb : SE X b fb) (hm : behindInMarks op b = false := by first | exact nobehind _ (by decide) (by decide) | rfl) : STs X (.Compare a [op] [b] pos) (fTst (fOp2 o fa fb)) := by
  obtain ⟨t, p, s⟩ := ha.ex
  obtain ⟨u, p', s'⟩ := hb.ex
  exact ⟨_, pt_cmpR ho p p' hm, snd_tst (snd_op2 so s s')⟩
theorem st_lt (ha : SE X a fa) (hb : SE X b fb) : STs X (.Compare a [.Lt] [b] pos) (fTst (fOp2 oLt fa fb)) := st_cmp op_lt so_bl0 ha hb
theorem st_le (ha : SE X a fa) (hb : SE X b fb) : STs X (.Compare a [.LtE] [b] pos) (fTst (fOp2 oLe fa fb)) := st_cmp op_le so_bl0 ha hb
theorem st_gt (ha : SE X a fa) (hb : SE X b fb) : STs X (.Compare a [.Gt] [b] pos) (fTst (fOp2 oGt fa fb)) := st_cmp op_gt so_bl0 ha hb
theorem st_ge (ha : SE X a fa) (hb : SE X b fb) : STs X (.Compare a [.GtE] [b] pos) (fTst (fOp2 oGe fa fb)) := st_cmp op_ge so_bl0 ha hb
theorem st_eq {k : Nat} (hr : Room k X.A) (ha : SE X a fa) (hb : SE X b fb) : STs X (.Compare a [.Eq] [b] pos) (fTst (fOp2 oEq fa fb)) := st_cmp (OpR.or op_eq (op_eqD (hu64 hr))) so_eq ha hb
theorem st_ne {k : Nat} (hr : Room k X.A) (ha : SE X a fa) (hb : SE X b fb) : STs X (.Compare a [.NotEq] [b] pos) (fTst (fOp2 oNe fa fb)) := st_cmp (OpR.or op_ne (op_neD (hu64 hr))) so_ne ha hb
theorem st_isN (ha : SE X a fa) (hb : SE X b fb) : STs X (.Compare a [.Is] [b] pos) (fTst (fOp2 oIsN fa fb)) := st_cmp op_isN so_isN ha hb
theorem st_notN (ha : SE X a fa) (hb : SE X b fb) : STs X (.Compare a [.IsNot] [b] pos) (fTst (fOp2 oNotN fa fb)) := st_cmp op_notN so_notN ha hb
theorem st_of (h : STw X e ga) : STs X e ga := by
  obtain ⟨t, p, s⟩ := h.ex
  exact ⟨t, p.pt, s⟩
theorem st_and1 (ha : STs X a ga) : STw X (.BoolOp .And [a] pos) ga := by
  obtain ⟨t, p, s⟩ := ha.ex
  exact ⟨_, pw_and1 p, s⟩
theorem st_or1 (ha : STs X a ga) : STw X (.BoolOp .Or [a] pos) ga := by
  obtain ⟨t, p, s⟩ := ha.ex
  exact ⟨_, pw_or1 p, s⟩
theorem st_and (ha : STs X a ga) (hb : STw X (.BoolOp .And (b :: rest) pos) gb) : STw X (.BoolOp .And (a :: b :: rest) pos) (fAnd ga gb) := by
  obtain ⟨t, p, s⟩ := ha.ex
  obtain ⟨u, p', s'⟩ := hb.ex
  exact ⟨_, pw_and p p', snd_and s s'⟩
theorem st_or (ha : STs X a ga) (hb : STw X (.BoolOp .Or (b :: rest) pos) gb) : STw X (.BoolOp .Or (a :: b :: rest) pos) (fOr ga gb) := by
  obtain ⟨t, p, s⟩ := ha.ex
  obtain ⟨u, p', s'⟩ := hb.ex
  exact ⟨_, pw_or p p', snd_or s s'⟩
theorem st_not (ha : STs X a ga) : STs X (.UnaryOp .Not a pos) (fNot ga) := by
  obtain ⟨t, p, s⟩ := ha.ex
  exact ⟨_, pt_not p, snd_not s⟩
theorem se_one {op} (ha : SE X a fa) : SE X (.BoolOp op [a] pos) fa := by
  obtain ⟨t, p, s⟩ := ha.ex
  exact ⟨_, pe_one p, s⟩
theorem se_and (ha : SE X a fa) (hb : SE X (.BoolOp .And (b :: rest) pos) fb) : SE X (.BoolOp .And (a :: b :: rest) pos) (fAndV fa fb) := by
  obtain ⟨t, p, s⟩ := ha.ex
  obtain ⟨u, p', s'⟩ := hb.ex
  exact ⟨_, pe_and p p', snd_andV s s'⟩
theorem se_or (ha : SE X a fa) (hb : SE X (.BoolOp .Or (b :: rest) pos) fb) : SE X (.BoolOp .Or (a :: b :: rest) pos) (fOrV fa fb) := by
  obtain ⟨t, p, s⟩ := ha.ex
  obtain ⟨u, p', s'⟩ := hb.ex
  exact ⟨_, pe_or p p', snd_orV s s'⟩
theorem se_not (ha : SE X a fa) : SE X (.UnaryOp .Not a pos) (fNotV fa) := by
  obtain ⟨t, p, s⟩ := ha.ex
  exact ⟨_, pe_not p, snd_notV s⟩
theorem se_if {c : Expr} {gc : FT} (hc : STs X c gc) (ha : SE X a fa) (hb : SE X b fb) : SE X (.IfExp c a b pos) (fIf gc fa fb) := by
  obtain ⟨r, p0, s0⟩ := hc.ex
  obtain ⟨t, p, s⟩ := ha.ex
  obtain ⟨u, p', s'⟩ := hb.ex
  exact ⟨_, pe_ifExp p0 p p', snd_if s0 s s'⟩
end
end Pv

/-! Pv4: displays, subscripts, slices, built-in calls. -/
namespace Pv
open PySem PySem.Spec PyProof.Rows L2

/-! ### [..], (..) -/
def dsOf (rs : List Res) : List D := rs.map Res.d
def noB : List Res → Prop
  | [] => True
  | .v _ _ :: rs => noB rs
  | .b _ _ _ :: _ => False
def oLst : ON := fun rs R => (noB rs ∧ rs.length ≤ sizeLine) ∧ R 1 (.list (dsOf rs))
def oTup : ON := fun rs R => (noB rs ∧ rs.length ≤ sizeLine) ∧ R 0 (.tuple (dsOf rs))
section
variable {K : Fg} {X : Cx} {ω : Om} {H : Hp}
theorem VwAll.rp : ∀ {vs : List V} {rs : List Res}, VwAll K ω H vs rs → noB rs → RpAll K ω H vs (dsOf rs)
  | [], [], _, _ => .nil
  | [], _ :: _, h, _ => h.elim
  | _ :: _, [], h, _ => h.elim
  | _ :: _, .v k d :: _, h, n => .cons h.1 (VwAll.rp h.2 n)
  | _ :: _, .b _ _ _ :: _, _, n => n.elim
theorem VwAll.length : ∀ {vs : List V} {rs : List Res}, VwAll K ω H vs rs → vs.length = rs.length
  | [], [], _ => rfl
  | [], _ :: _, h => h.elim
  | _ :: _, [], h => h.elim
  | _ :: vs, _ :: rs, h => by rw [List.length_cons, List.length_cons, VwAll.length h.2]
theorem so_lst : SndON K (fun xs H Q => xs.length ≤ sizeLine ∧ ∀ p, H p = none → Q (.ref p) (upd H p (.lst xs))) oLst := by
  intro ω T H xs rs R Q fr va h q
  exact ⟨by rw [va.length]; exact h.1.2, fun p hp => q.lst fr hp (va.rp h.1.1) h.2⟩
theorem so_tup : SndON K (fun xs H Q => xs.length ≤ sizeLine ∧ ∀ p, H p = none → Q (.ref p) (upd H p (.tup xs))) oTup := by
  intro ω T H xs rs R Q fr va h q
  exact ⟨by rw [va.length]; exact h.1.2, fun p hp => q.tup fr hp (va.rp h.1.1) h.2⟩
variable {es : List Expr} {fa : FA} {pos : Pos}
theorem se_lst (ha : SA X es fa) : SE X (.List es pos) (fOpN oLst fa) := by
  obtain ⟨t, p, s⟩ := ha.ex
  exact ⟨_, pe_lst p, snd_opN so_lst s⟩
theorem se_tup {k} (ha : SA X es fa) : SE X (.Tuple es k pos) (fOpN oTup fa) := by
  obtain ⟨t, p, s⟩ := ha.ex
  exact ⟨_, pe_tup p, snd_opN so_tup s⟩
end

/-! ### built-in functions by name -/
def at1 (o : O1) : ON := fun rs R => match rs with
  | [r] => o r R
  | _ => False
def at2 (o : O2) : ON := fun rs R => match rs with
  | [r, r'] => o r r' R
  | _ => False
section
variable {K : Fg}
theorem so_at1 {r : V → Hp → VK → Prop} {o : O1} (h : SndO1 K r o) : SndON K (fun xs H Q => ∃ x, xs = [x] ∧ r x H Q) (at1 o) := by
  intro ω T H xs rs R Q fr va h' q
  match xs, rs, va, h' with
  | [x], [r1], va, h' => exact ⟨x, rfl, h ω T H x r1 R Q fr va.1 h' q⟩
  | [], [_], va, _ => exact va.elim
  | _ :: _ :: _, [_], va, _ => exact va.2.elim
theorem so_at2 {r : R2} {o : O2} (h : SndO2 K r o) : SndON K (fun xs H Q => ∃ x y, xs = [x, y] ∧ r x y H Q) (at2 o) := by
  intro ω T H xs rs R Q fr va h' q
  match xs, rs, va, h' with
  | [x, y], [r1, r2], va, h' => exact ⟨x, y, rfl, h ω T H x y r1 r2 R Q fr va.1 va.2.1 h' q⟩
  | [], [_, _], va, _ => exact va.elim
  | [_], [_, _], va, _ => exact va.2.elim
  | _ :: _ :: _ :: _, [_, _], va, _ => exact va.2.2.elim
end
section
variable {X : Cx} {e : Expr} {es : List Expr} {fa : FA} {x : Str} {p pos : Pos}
theorem se_callB {id : String} {r : List V → Hp → VK → Prop} {o : ON} (hc : CallR X (.builtin id) r) (so : SndON X.K r o) (hv : bootBuiltins x = some (.builtin id)) (hm : X.mg x = none) (ha : SA X (e :: es) fa) (hg : Gl X x := by rfl) (hn : x ≠ "__name__" := by decide) (hdb : (x == ("__debug__" : Str)) = false := by decide)
    (he : starEach (e :: es) X.env = (false, eval e X.env) :: starEach es X.env := by rfl) (hpl : (backTo pos (starEach es X.env)).any (·.1) = false := by rfl) : SE X (.Call (.Name x p) (e :: es) [] pos) (fOpN o fa) := by
  obtain ⟨t, q, s⟩ := ha.ex
  exact ⟨_, pe_callB hc hg hm hv q hn hdb he hpl, snd_opN so s⟩
theorem se_callTy {id : String} {r : List V → Hp → VK → Prop} {o : ON} (hc : CallR X (.type id) r) (so : SndON X.K r o) (hv : bootBuiltins x = some (.type id)) (hm : X.mg x = none) (ha : SA X (e :: es) fa) (hg : Gl X x := by rfl) (hn : x ≠ "__name__" := by decide) (hdb : (x == ("__debug__" : Str)) = false := by decide)
    (he : starEach (e :: es) X.env = (false, eval e X.env) :: starEach es X.env := by rfl) (hpl : (backTo pos (starEach es X.env)).any (·.1) = false := by rfl) : SE X (.Call (.Name x p) (e :: es) [] pos) (fOpN o fa) := by
  obtain ⟨t, q, s⟩ := ha.ex
  exact ⟨_, pe_callTy hc hg hm hv q hn hdb he hpl, snd_opN so s⟩
theorem cimp {u : Value} {r r' : List V → Hp → VK → Prop} (h : CallR X u r) (hi : ∀ xs H Q, r' xs H Q → r xs H Q) : CallR X u r' := fun pins s σ H xs us Q I rv q => h pins s σ H xs us Q I rv (hi _ _ _ q)
end

/-! ### len, list, tuple -/
theorem Rp.dict_ {K : Fg} {ω : Om} {H : Hp} {v : V} {kvs : List (D × D)} (hk : isScr kvs = true) (h : Rp K ω H v (.dict kvs)) : ∃ (a : Addr) (ns : List Int), v = .ref a ∧ kvs = (ns.map fun n => (PyData.none, PyData.int n)) ∧ SqL K H a (ns.map V.int) := by
  generalize e : PyData.dict kvs = d at h
  cases h with
  | scr hs => exact ⟨_, _, rfl, PyData.dict.inj e, hs.seq⟩
  | dct _ _ _ =>
    have e2 := congrArg isScr (PyData.dict.inj e)
    rw [hk] at e2
    cases e2
  | _ => cases e
theorem Vw.dict {K : Fg} {ω : Om} {H : Hp} {v : V} {r : Res} (h : Vw K ω H v r) {kvs : List (D × D)} (hk : isScr kvs = true) (e : r.d = .dict kvs) : ∃ (a : Addr) (ns : List Int), v = .ref a ∧ kvs = (ns.map fun n => (PyData.none, PyData.int n)) ∧ SqL K H a (ns.map V.int) := by
  cases r with
  | v k d =>
    have e' : d = .dict kvs := e
    have h' : Rp K ω H v d := h
    rw [e'] at h'; exact h'.dict_ hk
  | b j k d =>
    have e' : d = .dict kvs := e
    have h' : OwR K ω H k (Ow.own j) [] v d := h
    rw [e'] at h'
    cases k with
    | zero => exact Rp.dict_ hk h'
    | succ k =>
      rcases h' with ⟨_, h'⟩ | ⟨_, _, _, _, e2, _⟩ | ⟨_, _, _, _, e2, _⟩
      · exact Rp.dict_ hk h'
      · cases e2
      · have e3 := congrArg isScr (PyData.dict.inj e2)
        rw [hk] at e3
        cases e3
/-- a list or a tuple, as it is read -/
theorem Vw.seqL {K : Fg} {ω : Om} {H : Hp} {v : V} {r : Res} (h : Vw K ω H v r) {ds : List D} (e : r.d = .list ds) : ∃ a vs, v = .ref a ∧ SqL K H a vs ∧ vs.length = ds.length := by
  cases r with
  | v k d =>
    have e' : d = .list ds := e
    have h' : Rp K ω H v d := h
    rw [e'] at h'
    cases h' with
    | lst hs ha => exact ⟨_, _, rfl, hs.seq, ha.length⟩
  | b j k d =>
    have e' : d = .list ds := e
    have h' : OwR K ω H k (Ow.own j) [] v d := h
    rw [e'] at h'
    cases k with
    | zero =>
      have h2 : Rp K ω H v (.list ds) := h'
      cases h2 with
      | lst hs ha => exact ⟨_, _, rfl, hs.seq, ha.length⟩
    | succ k =>
      rcases h' with ⟨z, _⟩ | ⟨a, vs, ds', e1, e2, h1, _, el, hc⟩ | ⟨_, _, _, _, e2, _⟩
      · cases z
      · cases e2
        exact ⟨a, vs, e1, .inl (.inl h1), el⟩
      · cases e2
def dLen (R : KC) : D → Prop
  | .list xs => R 0 (.int xs.length)
  | .tuple xs => R 0 (.int xs.length)
  | .dict kvs => isScr kvs = true ∧ R 0 (.int kvs.length)
  | .str x => x.length ≤ sizeLine ∧ R 0 (.int x.length)
  | _ => False
def oLen : O1 := fun r R => dLen R r.d
def dList (f : Prop) (R : KC) : D → Prop
  | .list xs => f ∧ R 1 (.list xs)
  | .tuple xs => R 1 (.list xs)
  | _ => False
def oList : O1 := fun r R => dList (flat r) R r.d
def dTuple (f : Prop) (R : KC) : D → Prop
  | .list xs => f ∧ R 0 (.tuple xs)
  | .tuple xs => R 0 (.tuple xs)
  | _ => False
def oTuple : O1 := fun r R => dTuple (flat r) R r.d
def rLenA (K : Fg) : V → Hp → VK → Prop := fun x H Q => (∃ p ys, x = .ref p ∧ (SqL K H p ys ∨ SqT K H p ys) ∧ Q (.int ys.length) H) ∨ (∃ z, x = .str z ∧ z.length ≤ sizeLine ∧ Q (.int z.length) H)
def rListA (K : Fg) : V → Hp → VK → Prop := fun x H Q => ∃ p ys, x = .ref p ∧ (SqL K H p ys ∨ SqT K H p ys) ∧ ∀ l, H l = none → Q (.ref l) (upd H l (.lst ys))
def rTupleA (K : Fg) : V → Hp → VK → Prop := fun x H Q => ∃ p ys, x = .ref p ∧ ((SqL K H p ys ∧ ∀ l, H l = none → Q (.ref l) (upd H l (.tup ys))) ∨ (SqT K H p ys ∧ Q (.ref p) H))
section
variable {X : Cx} {K : Fg}
theorem so_len : SndO1 K (rLenA K) oLen := by
  intro ω T H x r1 R Q fr v1 h q
  have h' : dLen R r1.d := h
  generalize e1 : r1.d = d1 at h'
  cases d1 <;> first
    | exact h'.elim
    | skip
  · exact .inr ⟨_, v1.str e1, h'.1, q.int fr h'.2⟩
  · obtain ⟨a, vs, rfl, hs, hl⟩ := v1.seqL e1
    exact .inl ⟨a, vs, rfl, .inl hs, by rw [hl]; exact q.int fr h'⟩
  · obtain ⟨a, vs, rfl, hs, ha⟩ := v1.tup e1
    exact .inl ⟨a, vs, rfl, .inr hs, by rw [ha.length]; exact q.int fr h'⟩
  · obtain ⟨a, ns, rfl, e, hs⟩ := v1.dict h'.1 e1
    refine .inl ⟨a, _, rfl, .inl hs, ?_⟩
    subst e
    have h2 : R 0 (.int ((ns.map fun n => (PyData.none, PyData.int n)).length : Nat)) := h'.2
    rw [List.length_map] at h2 ⊢
    exact q.int fr h2
theorem so_list : SndO1 K (rListA K) oList := by
  intro ω T H x r1 R Q fr v1 h q
  have h' : dList (flat r1) R r1.d := h
  generalize e1 : r1.d = d1 at h'
  cases d1 <;> first
    | exact h'.elim
    | skip
  · obtain ⟨a, vs, rfl, hs, ha⟩ := v1.lst h'.1 e1
    exact ⟨a, vs, rfl, .inl (.inl (.inl hs)), fun l hl => q.lst fr hl ha h'.2⟩
  · obtain ⟨a, vs, rfl, hs, ha⟩ := v1.tup e1
    exact ⟨a, vs, rfl, .inr hs, fun l hl => q.lst fr hl ha h'⟩
theorem so_tuple : SndO1 K (rTupleA K) oTuple := by
  intro ω T H x r1 R Q fr v1 h q
  have h' : dTuple (flat r1) R r1.d := h
  generalize e1 : r1.d = d1 at h'
  cases d1 <;> first
    | exact h'.elim
    | skip
  · obtain ⟨a, vs, rfl, hs, ha⟩ := v1.lst h'.1 e1
    exact ⟨a, vs, rfl, .inl ⟨.inl (.inl hs), fun l hl => q.tup fr hl ha h'.2⟩⟩
  · have w := v1.rpT e1
    obtain ⟨a, vs, rfl, hs, ha⟩ := v1.tup e1
    exact ⟨a, vs, rfl, .inr ⟨hs, q.same fr w h'⟩⟩
theorem cr_lenA : CallR X (.builtin "len") (fun xs H Q => ∃ x, xs = [x] ∧ rLenA X.K x H Q) := cimp (CallR.or call_len_seq call_len_str) fun xs H Q ⟨x, e, h⟩ => by
  subst e
  rcases h with ⟨p, ys, rfl, h⟩ | ⟨z, rfl, h⟩
  · exact .inl ⟨p, ys, rfl, h⟩
  · exact .inr ⟨z, rfl, h⟩
theorem cr_listA : CallR X (.type "list") (fun xs H Q => ∃ x, xs = [x] ∧ rListA X.K x H Q) := cimp call_list_of fun xs H Q ⟨x, e, p, ys, e2, h⟩ => ⟨p, ys, by rw [e, e2], h⟩
theorem cr_tupleA : CallR X (.type "tuple") (fun xs H Q => ∃ x, xs = [x] ∧ rTupleA X.K x H Q) := cimp call_tuple_of fun xs H Q ⟨x, e, p, ys, e2, h⟩ => ⟨p, ys, by rw [e, e2], h⟩
variable {e : Expr} {es : List Expr} {fa : FA} {p pos : Pos}
theorem se_len (hm : X.mg "len" = none) (ha : SA X [e] fa) (hg : Gl X "len" := by rfl)
    (he : starEach [e] X.env = [(false, eval e X.env)] := by rfl) : SE X (.Call (.Name "len" p) [e] [] pos) (fOpN (at1 oLen) fa) := se_callB cr_lenA (so_at1 so_len) PySem.boot_len hm ha hg (by decide) (by decide) he rfl
theorem se_list (hm : X.mg "list" = none) (ha : SA X [e] fa) (hg : Gl X "list" := by rfl)
    (he : starEach [e] X.env = [(false, eval e X.env)] := by rfl) : SE X (.Call (.Name "list" p) [e] [] pos) (fOpN (at1 oList) fa) := se_callTy cr_listA (so_at1 so_list) (by decide +kernel) hm ha hg (by decide) (by decide) he rfl
theorem se_tuple (hm : X.mg "tuple" = none) (ha : SA X [e] fa) (hg : Gl X "tuple" := by rfl)
    (he : starEach [e] X.env = [(false, eval e X.env)] := by rfl) : SE X (.Call (.Name "tuple" p) [e] [] pos) (fOpN (at1 oTuple) fa) := se_callTy cr_tupleA (so_at1 so_tuple) (by decide +kernel) hm ha hg (by decide) (by decide) he rfl
end

/-! ### abs, int, min, max of two, str of an int, sums, all, any -/
def dAbs (R : KC) : D → Prop
  | .int i => R 0 (.int (i.natAbs : Int))
  | _ => False
def oAbs : O1 := fun r R => dAbs R r.d
def dToInt (R : KC) : D → Prop
  | .int i => R 0 (.int i)
  | .bool b => R 0 (.int (if b then 1 else 0))
  | _ => False
def oToInt : O1 := fun r R => dToInt R r.d
def oMax2 : O2 := fun r1 r2 R => dInt0 (fun i j => .int (max i j)) R r1.d r2.d
def oMin2 : O2 := fun r1 r2 R => dInt0 (fun i j => .int (min i j)) R r1.d r2.d
def dStr (R : KC) : D → Prop
  | .int i => i.natAbs.log2 < 1920 ∧ R 0 (.str (toString i))
  | _ => False
def oStr : O1 := fun r R => dStr R r.d
section
variable {X : Cx} {K : Fg}
theorem so_abs : SndO1 K (fun x H Q => ∃ i, x = .int i ∧ Q (.int (if i < 0 then -i else i)) H) oAbs := by
  intro ω T H x r1 R Q fr v1 h q
  have h' : dAbs R r1.d := h
  generalize e1 : r1.d = d1 at h'
  cases d1 <;> first
    | exact h'.elim
    | skip
  rename_i i
  refine ⟨i, v1.int e1, ?_⟩
  have e : (if i < 0 then -i else i) = (i.natAbs : Int) := by split <;> omega
  rw [e]
  exact q.int fr h'
theorem so_toInt : SndO1 K (fun x H Q => (∃ i, x = .int i ∧ Q (.int i) H) ∨ ∃ k, x = .bl k ∧ Q (.int (if k then 1 else 0)) H) oToInt := by
  intro ω T H x r1 R Q fr v1 h q
  have h' : dToInt R r1.d := h
  generalize e1 : r1.d = d1 at h'
  cases d1 <;> first
    | exact h'.elim
    | skip
  · exact .inr ⟨_, v1.bl e1, q.int fr h'⟩
  · exact .inl ⟨_, v1.int e1, q.int fr h'⟩
theorem so_str : SndO1 K (fun x H Q => ∃ i, x = .int i ∧ i.natAbs.log2 < 1920 ∧ Q (.str (toString i)) H) oStr := by
  intro ω T H x r1 R Q fr v1 h q
  have h' : dStr R r1.d := h
  generalize e1 : r1.d = d1 at h'
  cases d1 <;> first
    | exact h'.elim
    | skip
  exact ⟨_, v1.int e1, h'.1, q.str fr h'.2⟩
theorem so_max2 : SndO2 K (fun x y H Q => ∃ i j, x = .int i ∧ y = .int j ∧ Q (.int (if j > i then j else i)) H) oMax2 := by
  intro ω T H x y r1 r2 R Q fr v1 v2 h q
  obtain ⟨i, j, e1, e2, hR⟩ := dInt0_ex h
  refine ⟨i, j, v1.int e1, v2.int e2, ?_⟩
  have e : (if j > i then j else i) = max i j := by split <;> omega
  rw [e]
  exact q.int fr hR
theorem so_min2 : SndO2 K (fun x y H Q => ∃ i j, x = .int i ∧ y = .int j ∧ Q (.int (if j < i then j else i)) H) oMin2 := by
  intro ω T H x y r1 r2 R Q fr v1 v2 h q
  obtain ⟨i, j, e1, e2, hR⟩ := dInt0_ex h
  refine ⟨i, j, v1.int e1, v2.int e2, ?_⟩
  have e : (if j < i then j else i) = min i j := by split <;> omega
  rw [e]
  exact q.int fr hR
variable {e e2 : Expr} {fa : FA} {p pos : Pos}
theorem se_abs (hm : X.mg "abs" = none) (ha : SA X [e] fa) (hg : Gl X "abs" := by rfl) (he : starEach [e] X.env = [(false, eval e X.env)] := by rfl) : SE X (.Call (.Name "abs" p) [e] [] pos) (fOpN (at1 oAbs) fa) :=
  se_callB (cimp call_abs fun xs H Q ⟨x, e, i, e2, h⟩ => ⟨i, by rw [e, e2], h⟩) (so_at1 so_abs) (id := "abs") (by decide +kernel) hm ha hg (by decide) (by decide) he rfl
theorem se_toInt (hm : X.mg "int" = none) (ha : SA X [e] fa) (hg : Gl X "int" := by rfl) (he : starEach [e] X.env = [(false, eval e X.env)] := by rfl) : SE X (.Call (.Name "int" p) [e] [] pos) (fOpN (at1 oToInt) fa) :=
  se_callTy (cimp call_int1 fun xs H Q ⟨x, e, h⟩ => by
    subst e
    rcases h with ⟨i, rfl, h⟩ | ⟨i, rfl, h⟩
    · exact .inl ⟨i, rfl, h⟩
    · exact .inr ⟨i, rfl, h⟩) (so_at1 so_toInt) (id := "int") (by decide +kernel) hm ha hg (by decide) (by decide) he rfl
theorem se_str_of (hm : X.mg "str" = none) (ha : SA X [e] fa) (hg : Gl X "str" := by rfl) (he : starEach [e] X.env = [(false, eval e X.env)] := by rfl) : SE X (.Call (.Name "str" p) [e] [] pos) (fOpN (at1 oStr) fa) :=
  se_callTy (cimp call_str_int fun xs H Q ⟨x, e, i, e2, h⟩ => ⟨i, by rw [e, e2], h⟩) (so_at1 so_str) (id := "str") (by decide +kernel) hm ha hg (by decide) (by decide) he rfl
theorem se_max2 (hc : X.calm = true) (hm : X.mg "max" = none) (ha : SA X [e, e2] fa) (hg : Gl X "max" := by rfl) (he : starEach [e, e2] X.env = (false, eval e X.env) :: starEach [e2] X.env := by rfl) (hpl : (backTo pos (starEach [e2] X.env)).any (·.1) = false := by rfl) : SE X (.Call (.Name "max" p) [e, e2] [] pos) (fOpN (at2 oMax2) fa) :=
  se_callB (cimp (call_max2 hc) fun xs H Q ⟨x, y, e, i, j, e1, e2, h⟩ => ⟨i, j, by rw [e, e1, e2], h⟩) (so_at2 so_max2) (id := "max") (by decide +kernel) hm ha hg (by decide) (by decide) he hpl
theorem se_min2 (hc : X.calm = true) (hm : X.mg "min" = none) (ha : SA X [e, e2] fa) (hg : Gl X "min" := by rfl) (he : starEach [e, e2] X.env = (false, eval e X.env) :: starEach [e2] X.env := by rfl) (hpl : (backTo pos (starEach [e2] X.env)).any (·.1) = false := by rfl) : SE X (.Call (.Name "min" p) [e, e2] [] pos) (fOpN (at2 oMin2) fa) :=
  se_callB (cimp (call_min2 hc) fun xs H Q ⟨x, y, e, i, j, e1, e2, h⟩ => ⟨i, j, by rw [e, e1, e2], h⟩) (so_at2 so_min2) (id := "min") (by decide +kernel) hm ha hg (by decide) (by decide) he hpl
end

/-! ### x[i] -/
def ix {α : Type} (xs : List α) (i : Int) : Option α := if 0 ≤ i then xs[i.toNat]? else if -(xs.length : Int) ≤ i then xs[(i + xs.length).toNat]? else none
theorem atI_ix {α : Type} {xs : List α} {i : Int} {v : α} (h : ix xs i = some v) : ∃ j, ixN xs.length i = some j ∧ xs[j]? = some v := by
  unfold ix at h
  unfold ixN
  by_cases h0 : 0 ≤ i
  · rw [if_pos h0] at h ⊢
    have := (List.getElem?_eq_some_iff.mp h).1
    exact ⟨i.toNat, by rw [if_pos (by omega)], h⟩
  · rw [if_neg h0] at h ⊢
    by_cases h1 : -(xs.length : Int) ≤ i
    · rw [if_pos h1] at h ⊢
      exact ⟨_, rfl, h⟩
    · rw [if_neg h1] at h; cases h
def pick (R : KC) : Option D → Prop
  | some d => R 0 d
  | none => False
def pickI (R : KC) : Option (D × D) → Prop
  | some (_, d) => R 0 d
  | none => False
def pickC (R : KC) : Option Nat → Prop
  | some c => R 0 (.str ⟨#[c]⟩)
  | none => False
def dIx (f : Prop) (R : KC) : D → D → Prop
  | .list xs, .int i => f ∧ pick R (ix xs i)
  | .tuple xs, .int i => pick R (ix xs i)
  | .str x, .int i => x.length ≤ sizeLine ∧ pickC R (ix x.cps.toList i)
  | .dict kvs, .int i => isScr kvs = true ∧ pickI R (ix kvs i)
  | _, _ => False
def oIx : O2 := fun r1 r2 R => dIx (flat r1) R r1.d r2.d
section
variable {X : Cx} {K : Fg} {a b : Expr} {fa fb : FE} {pos : Pos}
theorem pick_ex {R : KC} {o : Option D} (h : pick R o) : ∃ d, o = some d ∧ R 0 d := by
  cases o with
  | none => exact h.elim
  | some d => exact ⟨d, rfl, h⟩
theorem atI_some {α : Type} {xs : List α} {i : Int} {j : Nat} {v : α} (h : ixN xs.length i = some j) (e : xs[j]? = some v) : atI xs i = some v := by
  unfold atI; rw [h]; exact e
theorem so_ix : SndO2 X.K (rIx X.K) oIx := by
  intro ω T H x y r1 r2 R Q fr v1 v2 h q
  have h' : dIx (flat r1) R r1.d r2.d := h
  generalize e1 : r1.d = d1 at h'
  generalize e2 : r2.d = d2 at h'
  cases d1 <;> cases d2 <;> first
    | exact h'.elim
    | skip
  · obtain ⟨hz, h'⟩ := h'
    rename_i z i
    cases ho : ix z.cps.toList i with
    | none => rw [ho] at h'; exact h'.elim
    | some c =>
      rw [ho] at h'
      obtain ⟨j, hj, he⟩ := atI_ix ho
      exact .inr (.inr ⟨z, i, c, v1.str e1, v2.int e2, hz, atI_some hj he, q.str fr h'⟩)
  · obtain ⟨f, h'⟩ := h'
    obtain ⟨a, vs, rfl, hs, ha⟩ := v1.lst f e1
    obtain ⟨d, hd, hR⟩ := pick_ex h'
    obtain ⟨j, hj, he⟩ := atI_ix hd
    obtain ⟨w, hw, rw_⟩ := ha.at_ he
    rw [← ha.length] at hj
    exact .inl ⟨a, vs, _, w, rfl, v2.int e2, .inl (.inl hs), atI_some hj hw, q.same fr rw_ hR⟩
  · obtain ⟨a, vs, rfl, hs, ha⟩ := v1.tup e1
    obtain ⟨d, hd, hR⟩ := pick_ex h'
    obtain ⟨j, hj, he⟩ := atI_ix hd
    obtain ⟨w, hw, rw_⟩ := ha.at_ he
    rw [← ha.length] at hj
    exact .inr (.inl ⟨a, vs, _, w, rfl, v2.int e2, hs, atI_some hj hw, q.same fr rw_ hR⟩)
  · obtain ⟨a, ns, rfl, e, hs⟩ := v1.dict h'.1 e1
    subst e
    rename_i i
    have h2 : pickI R (ix (ns.map fun n => (PyData.none, PyData.int n)) i) := h'.2
    cases ho : ix (ns.map fun n => (PyData.none, PyData.int n)) i with
    | none => rw [ho] at h2; exact h2.elim
    | some c =>
      rw [ho] at h2
      obtain ⟨j, hj, he⟩ := atI_ix ho
      rw [List.getElem?_map] at he
      cases hn : ns[j]? with
      | none => rw [hn] at he; cases he
      | some n =>
        rw [hn] at he
        have he' := Option.some.inj he
        subst he'
        rw [List.length_map] at hj
        refine .inl ⟨a, ns.map V.int, i, .int n, rfl, v2.int e2, hs, atI_some (j := j) (by rw [List.length_map]; exact hj) (by rw [List.getElem?_map, hn]; rfl), q.int fr h2⟩
theorem se_ix (ha : SE X a fa) (hb : SE X b fb) (hs : PlainIx b := by exact fun _ _ => rfl) : SE X (.Subscript a b pos) (fOp2 oIx fa fb) := by
  obtain ⟨t, p, s⟩ := ha.ex
  obtain ⟨u, p', s'⟩ := hb.ex
  exact ⟨_, pe_ix ix_seq p p' hs, snd_op2 so_ix s s'⟩
end

/-! ### x[lo:hi] -/
def FO := Env → (Option Int → Env → Prop) → Prop
def SndP (K : Fg) (t : TO) (f : FO) : Prop := ∀ (ω : Om) (T : Nat) (env : Env) (σ : Sg) (H : Hp) (R : Option Int → Env → Prop) (Q : Option Int → Hp → Prop), Rel K ω env σ H → Free ω T → f env R →
  (∀ o H' ω' env', Rel K ω' env' σ H' → Step ω H ω' H' → Free ω' T → R o env' → Q o H') → t σ H Q
structure SP_ (X : Cx) (e : Option Expr) (f : FO) : Prop where
  ex : ∃ t : TO, PO X e t ∧ SndP X.K t f
def fNoPart : FO := fun env R => R none env
def dI (R : Int → Prop) : D → Prop
  | .int i => R i
  | _ => False
def fPart (fa : FE) : FO := fun env R => fa env fun r e => dI (fun i => R (some i) e) r.d
theorem dI_ex {R : Int → Prop} {d : D} (h : dI R d) : ∃ i, d = .int i ∧ R i := by
  cases d <;> first
    | exact h.elim
    | exact ⟨_, rfl, h⟩
theorem ResR.int_ {K : Fg} {ω : Om} {H : Hp} {σ : Sg} {env : Env} {T : Nat} {v : V} {r : Res} {b : Int} (R : Rel K ω env σ H) (h : ResR K ω H σ env T v r) (e : r.d = .int b) : v = .int b := Vw.int (h.gc R (Nat.le_refl _)) e
section
variable {X : Cx} {K : Fg} {e : Expr} {fa : FE}
theorem sp_none : SP_ X none fNoPart := ⟨_, po_none, fun ω T env σ H R Q rel fr hR q => q none H ω env rel Step.refl fr hR⟩
theorem sp_some (ha : SE X e fa) : SP_ X (some e) (fPart fa) := by
  obtain ⟨t, p, s⟩ := ha.ex
  refine ⟨_, po_some p, fun ω T env σ H R Q rel fr hR q => ?_⟩
  refine s ω T env σ H _ _ rel fr hR fun v H1 ω1 e1 r rel1 st1 fr1 rr1 h1 => ?_
  obtain ⟨i, ei, hi⟩ := dI_ex h1
  exact ⟨i, rr1.int_ rel1 ei, q (some i) H1 (gc T ω1) e1 (rel1.gc T) (st1.gc fr) gc_free hi⟩
/-- what is cut out -/
def cut {α : Type} (xs : List α) (lo hi : Option Int) : List α := (xs.drop (HT.sIx xs.length 0 lo)).take (HT.sIx xs.length xs.length hi - HT.sIx xs.length 0 lo)
def dSl (f : Prop) (lo hi : Option Int) (R : KC) : D → Prop
  | .list xs => f ∧ R 1 (.list (cut xs lo hi))
  | .tuple xs => R 0 (.tuple (cut xs lo hi))
  | .str x => x.length ≤ sizeLine ∧ R 0 (.str (cutS x lo hi))
  | _ => False
def oSl (r : Res) (lo hi : Option Int) (R : KC) : Prop := dSl (flat r) lo hi R r.d
def oSlA (lo hi : Option Int) : O1 := fun r R => oSl r lo hi R
def fSl (fa : FE) (fl fh : FO) : FE := fun env R => fa env fun r e1 => fl e1 fun lo e2 => fh e2 fun hi e3 => okb e3 r ∧ ap1 (oSlA lo hi) r fun k d => R (.v k d) e3
def rSlAll (K : Fg) : V → Option Int → Option Int → Hp → VK → Prop := fun x lo hi H Q => (rSlL K x lo hi H Q ∨ L2.rSlA K x lo hi H Q) ∨ rSlS x lo hi H Q
theorem cut_rp {ω : Om} {H : Hp} {vs : List V} {ds : List D} (h : RpAll K ω H vs ds) (lo hi : Option Int) : RpAll K ω H (cutV vs lo hi) (cut ds lo hi) := by
  unfold cutV cut
  rw [h.length]
  exact RpAll.take _ (RpAll.drop _ h)
theorem so_sl {ω : Om} {T : Nat} {H : Hp} {x : V} {r1 : Res} {lo hi : Option Int} {R : KC} {Q : VK} (fr : Free ω T) (v1 : Vw K ω H x r1) (h : oSl r1 lo hi R) (q : Out K ω T H R Q) : rSlAll K x lo hi H Q := by
  have h' : dSl (flat r1) lo hi R r1.d := h
  generalize e1 : r1.d = d1 at h'
  cases d1 <;> first
    | exact h'.elim
    | skip
  · exact .inr ⟨_, v1.str e1, h'.1, q.str fr h'.2⟩
  · obtain ⟨a, vs, rfl, hs, ha⟩ := v1.lst h'.1 e1
    exact .inl (.inl ⟨a, vs, rfl, .inl (.inl hs), fun p hp => q.lst fr hp (cut_rp ha lo hi) h'.2⟩)
  · have w := v1.rpT e1
    rename_i ds
    obtain ⟨a, vs, rfl, hs, ha⟩ := v1.tup e1
    refine .inl (.inr ⟨a, vs, rfl, hs, fun z => ?_, fun z p hp => q.tup fr hp (cut_rp ha lo hi) h'⟩)
    have e : cut ds lo hi = ds := by
      unfold cut
      rw [← ha.length, z.1, z.2, List.drop_zero, Nat.sub_zero, ha.length]
      exact List.take_length
    have h2 : R 0 (.tuple (cut ds lo hi)) := h'
    rw [e] at h2
    exact q.same fr w h2
theorem snd_sl {ta : TE} {tl th : TO} {fl fh : FO} (ha : SndE K ta fa) (hl : SndP K tl fl) (hh : SndP K th fh) : SndE K (tSl (rSlAll K) ta tl th) (fSl fa fl fh) := by
  intro ω T env σ H R Q rel fre hR q
  refine ha ω T env σ H _ _ rel fre hR fun x H1 ω1 e1 r rel1 st1 fr1 rr1 h1 => ?_
  refine hl ω1 (T + 1) e1 σ H1 _ _ rel1 fr1 h1 fun lo H2 ω2 e2 rel2 st2 fr2 h2 => ?_
  refine hh ω2 (T + 1) e2 σ H2 _ _ rel2 fr2 h2 fun hi H3 ω3 e3 rel3 st3 fr3 h3 => ?_
  have st : Step ω1 H1 ω3 H3 := st2.trans st3
  have rr : ResR K ω3 H3 σ e3 T x r := by
    cases r with
    | v k d => exact ResR.step (T' := T) rr1 st
    | b i k d => exact ⟨h3.1, rr1.2⟩
  exact so_sl gc_free (rr.gc rel3 (Nat.le_refl _)) (ap1_cl h3.2) (out_of (rel3.gc T) ((st1.trans st).gc fre) q)
theorem se_sl {lo hi : Option Expr} {fl fh : FO} {pos p2 : Pos} (ha : SE X e fa) (hl : SP_ X lo fl) (hh : SP_ X hi fh) : SE X (.Subscript e (.Slice lo hi none p2) pos) (fSl fa fl fh) := by
  obtain ⟨t, p, s⟩ := ha.ex
  obtain ⟨t1, p1, s1⟩ := hl.ex
  obtain ⟨t2, p2, s2⟩ := hh.ex
  exact ⟨_, pe_slice (SlR.or (SlR.or sl_list sl_tupA) sl_str) p p1 p2, snd_sl s s1 s2⟩
end

/-! ### x[::step], step 1 or -1 -/
end Pv

/-! Pv5: x[::step], step 1 or -1, of a list or a tuple. -/
namespace Pv
open PySem PySem.Spec PyProof.Rows L2 HT
section
variable {prog : Program} {w : World} {A : Around} {E : Value → Shared → Prop} {s : Shared}
theorem sliceApplied_neg {sl : Addr} {t : Tok} {n : Nat} {Q : Int × Int × Nat → Shared → Prop} (hs : s.heap.IsSliceOf sl .none .none (.int (-1) t))
    (h : Q ((n : Int) - 1, -1, n) s) : wpAny (model prog w) A (Builtin.Slice.sliceApplied (.ref sl) (pure (n : Int))) Q E s := by
  obtain ⟨os, hos, hcs, hds⟩ := id hs
  unfold Builtin.Slice.sliceApplied Builtin.Slice.sliceFields
  refine wpAny_bind (wpAny_bind (wpAny_field hos hds (x := .none) rfl (wpAny_bind (wpAny_field hos hds (x := .none) rfl (wpAny_bind (wpAny_field hos hds (x := .int (-1) t) rfl (wpAny_pure ?_)))))))
  refine wpAny_bind (slicePart_int ?_)
  show wpAny _ _ (if ((-1 : Int) == 0) = true then _ else _) _ _ s
  rw [if_neg (by decide)]
  refine wpAny_bind (slicePart_none (wpAny_bind (slicePart_none (wpAny_bind (wpAny_pure ?_)))))
  have e1 : Builtin.Slice.sliceAdjust none none (-1) (n : Int) = ((n : Int) - 1, -1) := by
    unfold Builtin.Slice.sliceAdjust
    have h1 : ((-1 : Int) < 0) := by omega
    simp only [h1, if_true]
  have e2 : Builtin.Slice.slicePlaces ((n : Int) - 1) (-1) (-1) = n := by
    unfold Builtin.Slice.slicePlaces
    have h1 : ¬ ((-1 : Int) > 0) := by omega
    simp only [h1, if_false]
    by_cases h : (n : Int) - 1 > -1
    · simp only [h, if_true]
      rw [show (- -1 : Int) = 1 by decide, Int.ediv_one]
      omega
    · simp only [h, if_false]; omega
  show wpAny _ _ (match Builtin.Slice.sliceAdjust none none (-1) (n : Int) with | (lo, hi) => pure (lo, (-1 : Int), Builtin.Slice.slicePlaces lo hi (-1))) _ _ s
  rw [e1]
  show wpAny _ _ (pure ((n : Int) - 1, (-1 : Int), Builtin.Slice.slicePlaces ((n : Int) - 1) (-1) (-1))) _ _ s
  rw [e2]
  exact wpAny_pure h
theorem sliceApplied_one {sl : Addr} {t : Tok} {n : Nat} {Q : Int × Int × Nat → Shared → Prop} (hs : s.heap.IsSliceOf sl .none .none (.int 1 t))
    (h : Q (0, 1, n) s) : wpAny (model prog w) A (Builtin.Slice.sliceApplied (.ref sl) (pure (n : Int))) Q E s := by
  obtain ⟨os, hos, hcs, hds⟩ := id hs
  unfold Builtin.Slice.sliceApplied Builtin.Slice.sliceFields
  refine wpAny_bind (wpAny_bind (wpAny_field hos hds (x := .none) rfl (wpAny_bind (wpAny_field hos hds (x := .none) rfl (wpAny_bind (wpAny_field hos hds (x := .int 1 t) rfl (wpAny_pure ?_)))))))
  refine wpAny_bind (slicePart_int ?_)
  show wpAny _ _ (if ((1 : Int) == 0) = true then _ else _) _ _ s
  rw [if_neg (by decide)]
  refine wpAny_bind (slicePart_none (wpAny_bind (slicePart_none (wpAny_bind (wpAny_pure ?_)))))
  show wpAny _ _ (match Builtin.Slice.sliceAdjust none none 1 (n : Int) with | (lo, hi) => pure (lo, (1 : Int), Builtin.Slice.slicePlaces lo hi 1)) _ _ s
  rw [adjust_gen none none n]
  show wpAny _ _ (pure (((0 : Nat) : Int), (1 : Int), Builtin.Slice.slicePlaces ((0 : Nat) : Int) ((n : Nat) : Int) 1)) _ _ s
  rw [places_gen, Nat.sub_zero]
  exact wpAny_pure h
theorem pick_rev (xs : Array Value) : ((List.range xs.size).filterMap fun (m : Nat) => xs[((xs.size : Int) - 1 + (m : Int) * -1).toNat]?).toArray = xs.toList.reverse.toArray := by
  have e : ((List.range xs.size).filterMap fun (m : Nat) => xs[((xs.size : Int) - 1 + (m : Int) * -1).toNat]?) = (((List.range xs.size).map fun k => xs.size - 1 - k).filterMap (xs[·]?)) := by
    rw [List.filterMap_map]
    have cong : ∀ (l : List Nat) (f g : Nat → Option Value), (∀ m ∈ l, f m = g m) → l.filterMap f = l.filterMap g := by
      intro l f g
      induction l with
      | nil => intro _; rfl
      | cons a l ih =>
        intro h
        rw [List.filterMap_cons, List.filterMap_cons, h a List.mem_cons_self, ih fun m hm => h m (List.mem_cons_of_mem _ hm)]
    refine cong _ _ _ fun m hm => ?_
    have := List.mem_range.mp hm
    show xs[((xs.size : Int) - 1 + (m : Int) * -1).toNat]? = xs[xs.size - 1 - m]?
    have e0 : ((xs.size : Int) - 1 + (m : Int) * -1).toNat = xs.size - 1 - m := by omega
    rw [e0]
  rw [e, PySem.W.krv_range, List.filterMap_reverse, PySem.W.krv_all]
theorem getItem_tuple_rev {t sl : Addr} {tk : Tok} {items : Array Value} {Q : Value → Shared → Prop} (ht : IsTup s.heap t items) (hs : s.heap.IsSliceOf sl .none .none (.int (-1) tk))
    (h : Q (.ref s.heap.objs.size) { s with heap := s.heap.push { cls := .type "tuple", data := .seq items.toList.reverse.toArray } })
    (hsz : items.size ≤ sizeLine) : wpAny (model prog w) A (getItem (.ref t) (.ref sl)) Q E s := by
  have htake : sizeOk (.seq items.toList.reverse.toArray) := by
    show items.toList.reverse.toArray.size ≤ sizeLine
    rw [List.size_toArray, List.length_reverse, Array.length_toList]
    omega
  obtain ⟨os, hos, hcs, hds⟩ := id hs
  have hTs : s.TypeIs (.ref sl) "slice" := ⟨os, hos, hcs⟩
  unfold getItem
  try with_reducible refine wpAny_holding ?_
  first | refine wpAny_bind (wpAny_pure ?_) | skip
  refine wpAny_bind (wpAny_sequenceKey ht.typeIs (by decide) ?_)
  refine wpAny_bind (wpAny_callSpecial?_slot (name := Str.ofString "__getitem__") ht.typeIs PyProof.Rows.slot_tuple_getitem
    (wpAny_call_entry PyProof.Rows.slot_tuple_getitem ht.typeIs entry_tuple_getitem ?_ (args_tuple_getitem _ _)))
  show wpAny _ _ (Builtin.Tuple.tupleItemsOf (.ref t) >>= _) _ _ s
  refine wpAny_bind (tupleItemsOf_ ht ?_)
  refine wpAny_bind (wpAny_typeOf hTs ?_)
  rw [if_pos (by decide)]
  refine wpAny_bind (sliceApplied_neg hs ?_)
  have hno : ¬ (((((items.size : Nat) : Int) - 1 == 0) && ((-1 : Int) == 1) && (items.size == items.size)) = true) := by
    intro q
    rw [Bool.and_eq_true, Bool.and_eq_true] at q
    exact absurd q.1.2 (by decide)
  show wpAny _ _ (if ((((items.size : Nat) : Int) - 1 == 0) && ((-1 : Int) == 1) && (items.size == items.size)) = true then _ else _) _ _ s
  rw [if_neg hno, pick_rev]
  first
    | exact wpAny_bind (m := Builtin.Tuple.tupleExact _) (wpAny_newObj_type (wpAny_pure ⟨_, rfl, wpAny_pure h⟩) htake)
    | exact wpAny_bind (m := Builtin.Tuple.tupleExact _) (wpAny_newObj_type (wpAny_bind (wpAny_pure (wpAny_pure ⟨_, rfl, wpAny_pure h⟩))) htake)
    | exact wpAny_bind (wpAny_bind (m := Builtin.Tuple.tupleExact _) (wpAny_newObj_type (wpAny_pure (wpAny_pure ⟨_, rfl, wpAny_pure h⟩)) htake))
    | exact wpAny_bind (wpAny_bind (m := Builtin.Tuple.tupleExact _) (wpAny_newObj_type (wpAny_pure ⟨_, rfl, wpAny_pure h⟩) htake))
theorem getItem_tuple_one {t sl : Addr} {tk : Tok} {items : Array Value} {Q : Value → Shared → Prop} (ht : IsTup s.heap t items) (hs : s.heap.IsSliceOf sl .none .none (.int 1 tk))
    (h : Q (.ref t) s) : wpAny (model prog w) A (getItem (.ref t) (.ref sl)) Q E s := by
  obtain ⟨os, hos, hcs, hds⟩ := id hs
  have hTs : s.TypeIs (.ref sl) "slice" := ⟨os, hos, hcs⟩
  unfold getItem
  try with_reducible refine wpAny_holding ?_
  first | refine wpAny_bind (wpAny_pure ?_) | skip
  refine wpAny_bind (wpAny_sequenceKey ht.typeIs (by decide) ?_)
  refine wpAny_bind (wpAny_callSpecial?_slot (name := Str.ofString "__getitem__") ht.typeIs PyProof.Rows.slot_tuple_getitem
    (wpAny_call_entry PyProof.Rows.slot_tuple_getitem ht.typeIs entry_tuple_getitem ?_ (args_tuple_getitem _ _)))
  show wpAny _ _ (Builtin.Tuple.tupleItemsOf (.ref t) >>= _) _ _ s
  refine wpAny_bind (tupleItemsOf_ ht ?_)
  refine wpAny_bind (wpAny_typeOf hTs ?_)
  rw [if_pos (by decide)]
  refine wpAny_bind (sliceApplied_one hs ?_)
  have hyes : (((0 : Int) == 0) && ((1 : Int) == 1) && (items.size == items.size)) = true := by simp
  show wpAny _ _ (if (((0 : Int) == 0) && ((1 : Int) == 1) && (items.size == items.size)) = true then _ else _) _ _ s
  rw [if_pos hyes]
  refine wpAny_bind ?_
  show wpAny _ _ (typeOf (.ref t) >>= fun T => pure (T == .type "tuple")) _ _ s
  refine wpAny_bind (wpAny_typeOf ht.typeIs (wpAny_pure ?_))
  first
    | rw [if_pos (by decide)]
    | simp only [beq_self_eq_true, if_true]
  first
    | exact wpAny_bind (wpAny_rule (wpAny_pure ⟨_, rfl, wpAny_pure h⟩))
    | exact wpAny_bind (wpAny_rule (wpAny_bind (wpAny_pure (wpAny_pure ⟨_, rfl, wpAny_pure h⟩))))
end
/-- by values -/
def rStp (K : Fg) : V → Int → Hp → VK → Prop := fun x st H Q =>
  (st = -1 ∧ ((∃ a xs, x = .ref a ∧ SqL K H a xs ∧ ∀ p, H p = none → Q (.ref p) (upd H p (.lst xs.reverse))) ∨ (∃ a xs, x = .ref a ∧ SqT K H a xs ∧ ∀ p, H p = none → Q (.ref p) (upd H p (.tup xs.reverse))))) ∨
  (st = 1 ∧ ((∃ a xs, x = .ref a ∧ SqL K H a xs ∧ ∀ p, H p = none → Q (.ref p) (upd H p (.lst xs))) ∨ (∃ a xs, x = .ref a ∧ SqT K H a xs ∧ Q (.ref a) H)))
def tStp (K : Fg) (te : TE) (ts : TO) : TE := fun σ H Q => te σ H fun x H1 => ts σ H1 fun o H2 => ∃ st, o = some st ∧ rStp K x st H2 Q
theorem pick_one (items : Array Value) : slicePick items none none (some 1) = items := by
  unfold slicePick
  have e : sliceBounds none none (some 1) items.size = (0, (items.size : Int), 1) := by
    first
      | rfl
      | simp [sliceBounds]
  rw [e]
  show ((sliceRange 0 (items.size : Int) 1).filterMap (items[·]?)).toArray = _
  have e2 : sliceRange 0 (items.size : Int) 1 = List.range items.size := by
    unfold sliceRange
    have h1 : ((1 : Int) > 0) := by decide
    by_cases h : (0 : Int) < (items.size : Int)
    · have e : ((items.size : Int) - 0 + 1 - 1) / 1 = (items.size : Int) := by omega
      simp only [h1, if_true, h, e, Int.toNat_natCast]
      rw [List.map_congr_left (g := id) (fun k hk => by show ((0 : Int) + 1 * (k : Int)).toNat = k; omega), List.map_id]
    · have e : items.size = 0 := by omega
      rw [e]
      simp
  rw [e2, PySem.W.krv_all]
theorem pe_stp {X : Cx} {e : Expr} {st : Expr} {te : TE} {ts : TO} {p3 pos : Pos} (he : PE X e te) (hst : PO X (some st) ts) : PE X (.Subscript e (.Slice none none (some st) p3) pos) (tStp X.K te ts) := by
  refine ⟨fun pins s σ H Q I h => ?_⟩
  refine Subscript_ (thn (he.run pins s σ H _ I h) fun v s1 ⟨x, H1, I1, r1, q1⟩ => ?_)
  refine wpAny_Slice (thn (po_none.run pins s1 σ H1 (fun o H2 => o = none ∧ H2 = H1) I1 ⟨rfl, rfl⟩) fun vl s2 ⟨l, H2, I2, pl, el, e2⟩ => ?_)
  subst el e2
  refine thn (po_none.run pins s2 σ H2 (fun o H3 => o = none ∧ H3 = H2) I2 ⟨rfl, rfl⟩) fun vu s3 ⟨u, H3, I3, pu, eu, e3⟩ => ?_
  subst eu e3
  refine thn (hst.run pins s3 σ H3 _ I3 q1) fun vs s4 ⟨o, H4, I4, ps, stp, eo, q4⟩ => ?_
  subst eo
  have I5 : Inv X pins σ H4 { s4 with heap := s4.heap.push { cls := .type "slice", data := .fields #[vl, vu, vs] } } := I4.kept (t' := s4.toks) fun b ob q => Heap.get?_push_of_some _ q
  have lst : ∀ (a : Addr) (xs : List V), x = .ref a → SqL X.K H4 a xs → (∀ its : List Value, Vals xs its → ∃ (ys : List V) (us : List Value), slicePick its.toArray none none (some stp) = us.toArray ∧ Vals ys us ∧ ys.length ≤ xs.length ∧ ∀ p, H4 p = none → Q (.ref p) (upd H4 p (.lst ys))) → stp ≠ 0 →
      wpAny (model X.prog X.w) X.A (subscriptTail e (.Slice none none (some st) p3) v (.ref s4.heap.objs.size)) (EP X pins σ Q) X.xe { s4 with heap := s4.heap.push { cls := .type "slice", data := .fields #[vl, vu, vs] } } := by
    intro a xs ex hx hq h0
    subst ex
    cases r1
    obtain ⟨its, r, ht, hz⟩ := I5.list hx
    obtain ⟨ys, us, e1, r2, hl, q⟩ := hq its r
    refine tail_any (ops := [.ref a, .ref s4.heap.objs.size]) ht.isList.typeIs (PySem.slot_list_getitem.lookup) ?_ (by with_unfolding_all rfl)
    have hlen := r.length
    refine wpAny_getItem_list_slice ht.isList (Heap.IsSliceOf.new _ vl vu vs) pl pu ps (by intro z; exact h0 (Option.some.inj z)) ?_ (by rw [List.size_toArray]; omega)
    rw [e1]
    refine ⟨.ref _, _, I5.laid (t' := s4.toks) (o := .lst ys) (fun b ob q => Heap.get?_push_of_some _ q) (Nat.le_refl _) ?_, rfl, q _ (I5.hok.fresh (Nat.le_refl _))⟩
    exact ⟨by omega, _, 0, r2, Heap.get?_push_size _ rfl⟩
  have tup : ∀ (a : Addr) (xs : List V), x = .ref a → SqT X.K H4 a xs → (∀ its : List Value, Vals xs its → IsTup (s4.heap.push { cls := .type "slice", data := .fields #[vl, vu, vs] }) a its.toArray → wpAny (model X.prog X.w) X.A (getItem (.ref a) (.ref s4.heap.objs.size)) (EP X pins σ Q) X.xe { s4 with heap := s4.heap.push { cls := .type "slice", data := .fields #[vl, vu, vs] } }) →
      wpAny (model X.prog X.w) X.A (subscriptTail e (.Slice none none (some st) p3) v (.ref s4.heap.objs.size)) (EP X pins σ Q) X.xe { s4 with heap := s4.heap.push { cls := .type "slice", data := .fields #[vl, vu, vs] } } := by
    intro a xs ex hx hq
    subst ex
    cases r1
    obtain ⟨its, r, ht, hz⟩ := I5.tuple hx
    exact tail_any (ops := [.ref a, .ref s4.heap.objs.size]) ht.typeIs (PyProof.Rows.slot_tuple_getitem.lookup) (hq its r ht) (by with_unfolding_all rfl)
  have hslv : ∀ its : List Value, vl = .none ∧ vu = .none := fun _ => by
    constructor
    · cases pl; rfl
    · cases pu; rfl
  rcases q4 with ⟨e1, ⟨a, xs, ex, hx, q⟩ | ⟨a, xs, ex, hx, q⟩⟩ | ⟨e1, ⟨a, xs, ex, hx, q⟩ | ⟨a, xs, ex, hx, q⟩⟩
  · subst e1
    exact lst a xs ex hx (fun its r => ⟨xs.reverse, its.reverse, by rw [PySem.W.krv_pick], r.reverse, by rw [List.length_reverse]; exact Nat.le_refl _, q⟩) (by decide)
  · subst e1
    refine tup a xs ex hx fun its r ht => ?_
    obtain ⟨el, eu⟩ := hslv its
    subst el eu
    cases ps with
    | int _ t =>
      obtain ⟨_, _, _, hz⟩ := I5.tuple hx
      have hlen := r.length
      refine getItem_tuple_rev ht (Heap.IsSliceOf.new _ _ _ _) ?_ (by rw [List.size_toArray]; omega)
      refine ⟨.ref _, _, I5.laid (t' := s4.toks) (o := .tup xs.reverse) (fun b ob q => Heap.get?_push_of_some _ q) (Nat.le_refl _) ?_, rfl, q _ (I5.hok.fresh (Nat.le_refl _))⟩
      exact ⟨by rw [List.length_reverse]; exact hz, _, r.reverse, IsTup.new _ _⟩
  · subst e1
    exact lst a xs ex hx (fun its r => ⟨xs, its, pick_one _, r, Nat.le_refl _, q⟩) (by decide)
  · subst e1
    refine tup a xs ex hx fun its r ht => ?_
    obtain ⟨el, eu⟩ := hslv its
    subst el eu
    cases ps with
    | int _ t =>
      subst ex
      exact getItem_tuple_one ht (Heap.IsSliceOf.new _ _ _ _) ⟨.ref a, H4, I5, rfl, q⟩
/-- over data -/
def dStp (f : Prop) (st : Int) (R : KC) : D → Prop
  | .list xs => (f ∧ (st = 1 ∨ st = -1)) ∧ R 1 (.list (if st = 1 then xs else xs.reverse))
  | .tuple xs => (st = 1 ∨ st = -1) ∧ R 0 (.tuple (if st = 1 then xs else xs.reverse))
  | _ => False
def oStp (r : Res) (o : Option Int) (R : KC) : Prop := match o with
  | some st => dStp (flat r) st R r.d
  | none => False
def oStpA (o : Option Int) : O1 := fun r R => oStp r o R
def fStp (fa : FE) (fs : FO) : FE := fun env R => fa env fun r e1 => fs e1 fun o e2 => okb e2 r ∧ ap1 (oStpA o) r fun k d => R (.v k d) e2
theorem so_stp {K : Fg} {ω : Om} {T : Nat} {H : Hp} {x : V} {r1 : Res} {o : Option Int} {R : KC} {Q : VK} (fr : Free ω T) (v1 : Vw K ω H x r1) (h : oStp r1 o R) (q : Out K ω T H R Q) : ∃ st, o = some st ∧ rStp K x st H Q := by
  cases o with
  | none => exact h.elim
  | some st =>
    refine ⟨st, rfl, ?_⟩
    have h' : dStp (flat r1) st R r1.d := h
    generalize e1 : r1.d = d1 at h'
    cases d1 <;> first
      | exact h'.elim
      | skip
    · obtain ⟨⟨f, h1⟩, hR⟩ := h'
      obtain ⟨a, vs, rfl, hs, ha⟩ := v1.lst f e1
      rcases h1 with h1 | h1
      · subst h1
        exact .inr ⟨rfl, .inl ⟨a, vs, rfl, .inl (.inl hs), fun p hp => q.lst fr hp ha hR⟩⟩
      · subst h1
        exact .inl ⟨rfl, .inl ⟨a, vs, rfl, .inl (.inl hs), fun p hp => q.lst fr hp ha.reverse hR⟩⟩
    · obtain ⟨h1, hR⟩ := h'
      have w := v1.rpT e1
      obtain ⟨a, vs, rfl, hs, ha⟩ := v1.tup e1
      rcases h1 with h1 | h1
      · subst h1
        exact .inr ⟨rfl, .inr ⟨a, vs, rfl, hs, q.same fr w hR⟩⟩
      · subst h1
        exact .inl ⟨rfl, .inr ⟨a, vs, rfl, hs, fun p hp => q.tup fr hp ha.reverse hR⟩⟩
theorem se_stp {X : Cx} {e st : Expr} {fa : FE} {fs : FO} {p3 pos : Pos} (ha : SE X e fa) (hs : SP_ X (some st) fs) : SE X (.Subscript e (.Slice none none (some st) p3) pos) (fStp fa fs) := by
  obtain ⟨t, p, s⟩ := ha.ex
  obtain ⟨t1, p1, s1⟩ := hs.ex
  refine ⟨_, pe_stp p p1, fun ω T env σ H R Q rel fre hR q => ?_⟩
  refine s ω T env σ H _ _ rel fre hR fun x H1 ω1 e1 r rel1 st1 fr1 rr1 h1 => ?_
  refine s1 ω1 (T + 1) e1 σ H1 _ _ rel1 fr1 h1 fun o H2 ω2 e2 rel2 st2 fr2 h2 => ?_
  have rr : ResR X.K ω2 H2 σ e2 T x r := by
    cases r with
    | v k d => exact ResR.step (T' := T) rr1 st2
    | b i k d => exact ⟨h2.1, rr1.2⟩
  exact so_stp gc_free (rr.gc rel2 (Nat.le_refl _)) (ap1_cl h2.2) (out_of (rel2.gc T) ((st1.trans st2).gc fre) q)
end Pv

/-! Pg: calls where nothing is being shown; repr. -/
namespace Pv
open PySem PySem.Spec PyProof.Rows L2
/-! ### defs that are called where nothing is being shown (the list of guards is known, and empty): what repr asks for -/
structure FnG (P : Program) (w : World) (K : Fg) (mg : Str → Option Value) (base : Heap) (CX : CXT) (k : Nat) (f : Addr) (fd : FuncData) (ps : List Str) (sp : Sp) : Prop where
  size : ∀ {vs : List V} {H : Hp} {Q : VK} {E : XK}, sp vs H Q E → vs.length = ps.length
  goes : ∀ (B : Around) (fr : List PySem.Env) (t : Shared) (H : Hp) (as : Args) (us : List Value) (vs : List V) (Q : VK) (E : XK), B.guards = some [] → Room k B →
    Env0 P w K mg base B fr t H → BindsTo t fd as (ps.zip us) → Vals vs us → sp vs H Q E →
    codeAny (model P w) B (.call (.ref f) as) (CR CX fr P w H t Q E) t
section
variable {P : Program} {w : World} {K : Fg} {mg : Str → Option Value} {base : Heap} {CX : CXT} {k : Nat} {f : Addr} {fd : FuncData} {ps : List Str} {sp : Sp}
theorem FnG.mono {j : Nat} (F : FnG P w K mg base CX j f fd ps sp) (h : j ≤ k) : FnG P w K mg base CX k f fd ps sp :=
  ⟨F.size, fun B fr t H as us vs Q E hG hr => F.goes B fr t H as us vs Q E hG (hr.mono h)⟩
theorem FnG.imp {sp' : Sp} (F : FnG P w K mg base CX k f fd ps sp) (h : ∀ vs H Q E, sp' vs H Q E → sp vs H Q E) : FnG P w K mg base CX k f fd ps sp' :=
  ⟨fun q => F.size (h _ _ _ _ q), fun B fr t H as us vs Q E hG hr a b c q => F.goes B fr t H as us vs Q E hG hr a b c (h _ _ _ _ q)⟩
/-- THE RULE of a def there -/
theorem fng_of {x qual : Str} {st : Stmt} {N : List Str} (F : Fun K x qual st f fd) (S : FnScope N ps (defScope st)) (hsz : ∀ vs H Q E, sp vs H Q E → vs.length = ps.length)
    (hbody : ∀ (cdv : Value) (B : Around) (fr : List PySem.Env) (t : Shared) (H : Hp) (vs : List V) (Q : VK) (E : XK),
      Room k (B.deeper (envOfC qual (defScope st) t.heap.objs.size f cdv)) → (B.deeper (envOfC qual (defScope st) t.heap.objs.size f cdv)).guards = some [] → sp vs H Q E →
      ∃ g, PSs (cxOf CX0 P w K mg base N qual (defScope st) f cdv B fr t H E).nox (defBody st) g ∧ g { nx := fun _ H' => Q .non H', rt := Q } (L2.start N vs) H) : FnG P w K mg base CX0 (k + 1) f fd ps sp := by
  obtain ⟨oc, od, kV, doc, pm, an, cdv, ct, osl, rfl, lk, hcd⟩ := F.ex
  refine ⟨fun q => hsz _ _ _ _ q, fun B fr t H as us vs Q E hG room en bd rv hs => ?_⟩
  have two := hsz _ _ _ _ hs
  have keep : ∀ b o, base.get? b = some o → t.heap.get? b = some o := fun b o q => (en.bs b o q).1
  have inK : K.In t.heap := en.mod.kin.keeps keep
  have free : t.heap.NoLimit := en.mod.nolimit.keeps keep
  have kinds : ∀ y ∈ ps.zip us, (defScope st).names.lookup y.1 = some .local ∨ ((defScope st).names.lookup y.1 = some .cell ∧ ((cellsFrom (t.heap.objs.size + 1) (defScope st).names []).lookup y.1).isSome = true) := by
    intro y hy
    have hp : y.1 ∈ ps := (List.of_mem_zip (a := y.1) (b := y.2) hy).1
    cases S.par y.1 hp with
    | inl q => exact .inl q
    | inr q => exact .inr ⟨q, PySem.W.cellsFrom_some _ _ _ (.inl q)⟩
  apply codeAny_call_function room.depth (inK _ _ lk) rfl S.co S.gen rfl (PySem.W.codeRec_of inK hcd)
  apply bd
  apply wpAny_newFunctionEnv_cells S.kind kinds
  intro env he t1 ic
  subst he
  refine ⟨free.keeps ic.toInCall.keep, ?_⟩
  apply codeAny_func
  obtain ⟨g, hg, hq⟩ := hbody cdv B fr t H vs Q E (room.deeper _) hG hs
  have J0 := inv_start (CX := CX0) (P := P) (w := w) (K := K) (mg := mg) (base := base) (cd := cdv) (E := E) S room.hd en two rv ic
  apply wpAny_mono (hg.nox.run [] t1 (L2.start N vs) H _ J0 hq)
  · intro fl t2 e
    have fin : ∀ {σ' : L2.St} {H' : Hp} {v : V} {u : Value}, Inv (cxOf CX0 P w K mg base N qual (defScope st) f cdv B fr t H E) [] σ' H' t2 → RelV v u → Q v H' → CE fr P w H t Q u t2 := by
      intro σ' H' v u J rv2 q
      exact ⟨v, H', J.os, J.bare, J.base, J.hok, rv2, q⟩
    match fl, e with
    | .ret u, e =>
      obtain ⟨v, σ', H', J, rv2, q⟩ := e
      exact fin J rv2 q
    | .next, e =>
      obtain ⟨σ', H', J, q⟩ := e
      exact fin (v := V.non) (u := Value.none) J rfl q
    | .brk, e =>
      obtain ⟨_, _, _, q⟩ := e
      exact q.elim
    | .cont, e =>
      obtain ⟨_, _, _, q⟩ := e
      exact q.elim
  · intro e t2 q
    exact q
end
section
variable {X : Cx} {k n : Nat} {f : Addr} {fd : FuncData} {ps ks : List Str} {sp : Sp} {x : Str} {p pos : Pos} {e : Expr} {es : List Expr} {kws : List Keyword} {t tk : TA} {g : List Value → List Value → List Value} {gV : List V → List V → List V}
/-- the callee runs -/
theorem run_g {pins : List (Addr × Obj)} {σ : L2.St} {H : Hp} {s : Shared} {Q : VK} {us vu : List Value} {vs : List V} {kv : List (Str × Value)} (F : FnG X.prog X.w X.K X.mg X.base CX0 k f fd ps sp) (hG : X.A.guards = some []) (hr : Room k X.A)
    (J : Inv X pins σ H s) (bd : BindsTo s fd ⟨us, kv⟩ (ps.zip vu)) (rv : Vals vs vu) (q : sp vs H Q fun _ _ _ => False) : wpAny (model X.prog X.w) X.A (call (.ref f) us kv) (EP X pins σ Q) X.xe s := by
  apply wpAny_call
  apply codeAny_mono (F.goes X.A X.stack s H _ _ _ _ _ hG hr J.env0 bd rv q)
  intro r s' h
  match r, h with
  | .ok (.ret u), h => exact J.after h
  | .ok .next, h => exact h.elim
  | .ok .brk, h => exact h.elim
  | .ok .cont, h => exact h.elim
  | .error _, h => exact h.elim
theorem pe_g (F : FnG X.prog X.w X.K X.mg X.base CX0 k f fd ps sp) (hG : X.A.guards = some []) (hr : Room k X.A) (hg : Gl X x) (hm : X.mg x = some (.ref f)) (hk : PySem.W.keepIn X.K (.ref f) = true) (hb : Binds X.K fd ps [])
    (ha : PA X (e :: es) t) (hdb : (x == ("__debug__" : Str)) = false) (he : starEach (e :: es) X.env = (false, eval e X.env) :: starEach es X.env) (hpl : (backTo pos (starEach es X.env)).any (·.1) = false) :
    PE X (.Call (.Name x p) (e :: es) [] pos) (tCall sp [] (fun _ _ _ => False) t) := by
  constructor
  intro pins s σ H Q J h
  apply wpAny_Call_Name_kw
  apply ld_glob J hg hm _ hdb
  refine PySem.W.callWith_K (h₀ := X.base) J.ok.mod.kin hk (thn (ha.run pos pins s σ H _ J h) ?_) he hpl
  rintro us s1 ⟨vs, H1, J1, rv, q⟩
  refine ⟨J1.kIn, ?_⟩
  have q1 : sp (vs ++ []) H1 Q (fun _ _ _ => False) := q
  rw [List.append_nil] at q1
  have l1 : (us ++ []).length = ps.length := by rw [List.append_nil, ← rv.length]; exact F.size q1
  have bd := hb s1 us J1.kIn l1
  rw [List.append_nil] at bd
  exact run_g F hG hr J1 bd rv q1
/-- f(e, .., k = v, ..) -/
theorem pe_gN (F : FnG X.prog X.w X.K X.mg X.base CX0 k f fd ps sp) (hG : X.A.guards = some []) (hr : Room k X.A) (hg : Gl X x) (hm : X.mg x = some (.ref f)) (hk : PySem.W.keepIn X.K (.ref f) = true) (hb : KBn X.K fd ps n ks g gV)
    (ha : PA X (e :: es) t) (hkw : PK X kws tk) (hall : (backToKw pos (keywordEach kws X.env)).all (·.1.isSome) = true) (hks : (backToKw pos (keywordEach kws X.env)).filterMap (·.1) = ks)
    (hdb : (x == ("__debug__" : Str)) = false) (he : starEach (e :: es) X.env = (false, eval e X.env) :: starEach es X.env)
    (hpl : ((backTo pos (starEach (e :: es) X.env)).any (·.1) || (backToKw pos (keywordEach kws X.env)).any (·.1.isNone)) = false) :
    PE X (.Call (.Name x p) (e :: es) kws pos) (tCallN n ks.length sp gV (fun _ _ _ => False) t tk) := by
  constructor
  intro pins s σ H Q J h
  apply wpAny_Call_Name_kw
  apply ld_glob J hg hm _ hdb
  refine PySem.W.callWith_KW (h₀ := X.base) J.ok.mod.kin hk hall (thn (ha.run pos pins s σ H _ J h) ?_) hpl he
  rintro us s1 ⟨vs, H1, J1, rv, q⟩
  refine thn (hkw.run pos pins s1 σ H1 _ J1 q) ?_
  rintro ws s2 ⟨zs, H2, J2, rz, l1, l2, q2⟩
  refine ⟨J2.kIn, ?_⟩
  rw [hks]
  exact run_g F hG hr J2 (hb.to s2 us ws J2.kIn (rv.length.symm.trans l1) (rz.length.symm.trans l2)) (hb.rel rv rz) q2
/-- f(k = v, ..) -/
theorem pe_gN0 (F : FnG X.prog X.w X.K X.mg X.base CX0 k f fd ps sp) (hG : X.A.guards = some []) (hr : Room k X.A) (hg : Gl X x) (hm : X.mg x = some (.ref f)) (hk : PySem.W.keepIn X.K (.ref f) = true) (hb : KBn X.K fd ps 0 ks g gV)
    (hkw : PK X kws tk) (hall : (backToKw pos (keywordEach kws X.env)).all (·.1.isSome) = true) (hks : (backToKw pos (keywordEach kws X.env)).filterMap (·.1) = ks)
    (hdb : (x == ("__debug__" : Str)) = false) (hpl : ((backTo pos (starEach [] X.env)).any (·.1) || (backToKw pos (keywordEach kws X.env)).any (·.1.isNone)) = false) :
    PE X (.Call (.Name x p) [] kws pos) (tCallN 0 ks.length sp gV (fun _ _ _ => False) tNil tk) := by
  constructor
  intro pins s σ H Q J h
  apply wpAny_Call_Name_kw
  apply ld_glob J hg hm _ hdb
  refine PySem.W.callWith_KW0 (h₀ := X.base) J.ok.mod.kin hk hall ?_ hpl
  have h' : tk σ H (fun zs H2 => ([] : List V).length = 0 ∧ zs.length = ks.length ∧ sp (gV [] zs) H2 Q fun _ _ _ => False) := h
  refine thn (hkw.run pos pins s σ H _ J h') ?_
  rintro ws s2 ⟨zs, H2, J2, rz, l1, l2, q2⟩
  refine ⟨J2.kIn, ?_⟩
  rw [hks]
  exact run_g F hG hr J2 (hb.to s2 [] ws J2.kIn rfl (rz.length.symm.trans l2)) (hb.rel .nil rz) q2
end
/-! ### the law's own call, with the list of guards known -/
section
variable {P : Program} {w : World} {K : Fg} {mg mb : Str → Option Value} {k : Nat} {fa a : Addr} {fd : FuncData} {x : Str} {sp : Sp} {t : Shared} {vs : List Value} {ns : List Int}
theorem hid_ns {H : Hp} (one : ∀ b, H b ≠ none → b = a) (ha : t.heap.get? a = some { cls := .type "list", data := .seq vs.toArray }) {b : Addr} {m : Str → Option Value} (h : t.heap.Ns b m) : (hidT t.heap H).Ns b m := by
  obtain ⟨o, es, ep, e, d, r⟩ := h
  refine ⟨o, es, ep, hidT_get e ?_, d, r⟩
  cases q : H b with
  | none => rfl
  | some u =>
    have eb := one b (by rw [q]; exact nofun)
    subst eb
    rw [ha] at e
    cases e
    have d2 : Data.seq vs.toArray _ = Data.dict es ep := d
    cases d2
theorem top_g {H : Hp} (inK : K.In t.heap) (n1 : t.heap.Ns mainGlobals mg) (n2 : t.heap.Ns builtinsNs mb) (n3 : ∀ x : Str, x ≠ "__name__" → mb x = bootBuiltins x) (n4 : t.heap.NoLimit) (n5 : t.gens = #[])
    (ha : t.heap.get? a = some { cls := .type "list", data := .seq vs.toArray }) (only : Only H) (ok : HOk P w H t.heap) (one : ∀ b, H b ≠ none → b = a) (kn : H a ≠ none → K.lookup a = none) (room : Room k callerA)
    (F : ∀ base : Heap, K.In base → base.Ns mainGlobals mg → FnG P w K mg base CX0 k fa fd [x] sp) (bd : BindsTo t fd ⟨[.ref a], []⟩ [(x, .ref a)])
    (q : sp [.ref a] H (fun v _ => v = .bl true) fun _ _ _ => False) :
    codeAny (model P w) callerA (.call (.ref fa) ⟨[.ref a], []⟩) (fun r t2 => r = .ok (.ret (.bool true)) ∧ OldK t.heap t2.heap ∧ t2.os = t.os ∧ AllBare t2.gens) t := by
  have clear : ∀ b o, K.lookup b = some o → H b = none := by
    intro b o e
    cases z : H b with
    | none => rfl
    | some u =>
      have eb := one b (by rw [z]; exact nofun)
      subst eb
      rw [kn (by rw [z]; exact nofun)] at e
      cases e
  have inB : K.In (hidT t.heap H) := fun b o e => hidT_get (inK b o e) (clear b o e)
  have g1 := hid_ns one ha n1
  have md : Mod K mg (hidT t.heap H) := by
    obtain ⟨mc, c1, c2⟩ := n4
    exact ⟨inB, g1, ⟨mb, hid_ns one ha n2, n3⟩, mc, hid_ns one ha c1, c2⟩
  have en : Env0 P w K mg (hidT t.heap H) callerA [] t H :=
    { frames := rfl, mod := md, bs := fun b o e => of_hidT e, bsz := Nat.le_of_eq (hidT_size _ _), funs := trivial, frf := fun b hb => (List.not_mem_nil (show b ∈ ([] : List Addr) from hb)).elim, hok := ok, bare := .of_eq n5 }
  apply codeAny_mono ((F _ inB g1).goes callerA [] t H _ [.ref a] [.ref a] _ _ rfl room en bd (.cons rfl .nil) q)
  intro r t2 h
  match r, h with
  | .error _, h => exact h.elim
  | .ok .next, h => exact h.elim
  | .ok .brk, h => exact h.elim
  | .ok .cont, h => exact h.elim
  | .ok (.ret u), h =>
    obtain ⟨v, H', os, bare, un, ok2, rv, hv⟩ := h
    have hv2 : v = .bl true := hv
    subst hv2
    have hu : u = Value.bool true := rv
    subst hu
    refine ⟨rfl, OldK.of_keep ?_, os, bare⟩
    intro b o e
    rcases only b with z | ⟨ob, xs, z⟩
    · exact un.keep b o e z (fun c => List.not_mem_nil (show b ∈ ([] : List Addr) from c)) (by simp)
    · have k1 := (ok b _ z).1
      have k2 := (ok2 b _ (un.frzs b ob _ z)).1
      rw [e] at k1
      cases k1
      exact k2
/-- the goal that k_head leaves, from the law's promise -/
theorem walk_g {l : PySem.W.OpenLaw} {n : Nat} {q : Program} {loose : List Str} {XP : (Str → Option Value) → Heap → Prop} {YP : World → Heap → Prop} {d : DefRec} {KP : Params → Fg} {spw : World → Sp}
    (m1 : l.most = some n) (m2 : n ≤ sizeLine) (df : d.params.defaults = []) (room : Room k callerA) (yp : ∀ (w : World) (h : Heap), YP w h → (KP w.params).In h)
    (F : ∀ (w : World) (mg : Str → Option Value) (fa : Addr) (h : Heap), (KP w.params).In h → h.Ns mainGlobals mg → mg d.name = some (.ref fa) →
      ∃ fd : FuncData, (∀ (s : Shared) (u : Value), BindsTo s fd ⟨[u], []⟩ [(x, u)]) ∧ ∀ base : Heap, (KP w.params).In base → base.Ns mainGlobals mg → FnG l.prog w (KP w.params) mg base CX0 k fa fd [x] (spw w))
    (asks : ∀ (w : World) (H : Hp) (a : Addr) (ns : List Int), ns.length ≤ n → Only H → SqL (KP w.params) H a (ns.map V.int) → spw w [.ref a] H (fun v _ => v = .bl true) fun _ _ _ => False) :
    PySem.W.WalkO q loose XP YP l.row.toRowW d [] (fun f vs => PySem.call f vs) := by
  apply Att.attach_call m1 df
  intro w s0 t mg mb fa o pm cd doc a vs ns G Y ho hd hcd hmg ha hit hl hg
  have inK := yp w _ Y
  obtain ⟨fd, bd, hF⟩ := F w mg fa _ inK G.T.g hmg
  have rv := vals_ints hit
  have len := hit.length
  cases hk : (KP w.params).lookup a with
  | none =>
    have at_ : (fun b => if b = a then some (HO.frz { cls := .type "list", data := .seq vs.toArray } (.lst (ns.map V.int))) else none : Hp) a = some (HO.frz { cls := .type "list", data := .seq vs.toArray } (.lst (ns.map V.int))) := if_pos rfl
    have off : ∀ b, b ≠ a → (fun b => if b = a then some (HO.frz { cls := .type "list", data := .seq vs.toArray } (.lst (ns.map V.int))) else none : Hp) b = none := fun b hb => if_neg hb
    generalize (fun b => if b = a then some (HO.frz { cls := .type "list", data := .seq vs.toArray } (.lst (ns.map V.int))) else none : Hp) = H at at_ off
    have only : Only H := fun b => if hb : b = a then .inr ⟨_, _, hb ▸ at_⟩ else .inl (off b hb)
    refine top_g inK G.T.g G.T.b G.T.builtins G.T.nolimit hg ha only ?_ ?_ (fun _ => hk) room hF (bd t _) (asks w H a ns hl only (.inl (.inr ⟨_, at_⟩)))
    · intro b u z
      by_cases hb : b = a
      · subst hb
        rw [at_] at z
        cases z
        exact ⟨ha, by rw [List.length_map]; exact Nat.le_trans hl m2, vs, _, rv, ha⟩
      · rw [off b hb] at z
        cases z
    · intro b z
      exact Classical.byContradiction fun hb => z (off b hb)
  | some o =>
    have e := inK a o hk
    rw [ha] at e
    cases e
    have only : Only (fun _ => none) := fun _ => .inl rfl
    refine top_g inK G.T.g G.T.b G.T.builtins G.T.nolimit hg ha only ?_ (fun b z => absurd rfl z) (fun z => absurd rfl z) room hF (bd t _) (asks w _ a ns hl only (.inr ⟨_, vs.toArray, _, hk, rfl, rfl, rfl, ?_, by simpa using rv⟩))
    · intro b u z
      have z2 : (none : Option HO) = some u := z
      cases z2
    · rw [List.size_toArray, len]
      exact Nat.le_trans hl m2
end
/-! ### repr(..) -/
/-- what repr may be asked of -/
def RepD (d : D) : Prop := d.canLay0 = true ∧ d.showable = true ∧ d.depth ≤ 60 ∧ d.shown.length ≤ sizeLine
def oRepr : O1 := fun r R => RepD r.d ∧ R 0 (.str r.d.shown)
section
variable {X : Cx}
theorem cr_repr {k : Nat} (hr : Room k X.A) (hG : X.A.guards = some []) : CallR X (.builtin "repr") (fun xs H Q => ∃ x d, xs = [x] ∧ Dp X.K H x d ∧ RepD d ∧ Q (.str d.shown) H) := by
  intro pins s σ H xs us Q J rv h
  obtain ⟨x, d, rfl, hd, ⟨h0, h1, h2, h3⟩, q⟩ := h
  obtain ⟨u, rfl, ru⟩ := vals1 rv
  have go : ∀ a, x = .ref a → wpAny (model X.prog X.w) X.A (call (.builtin "repr") [u]) (fun v s' => ∃ y H', Inv X pins σ H' s' ∧ RelV y v ∧ Q y H') X.xe s := by
    intro a e
    subst e
    cases ru
    obtain ⟨as, r⟩ := Dp.reads J d _ _ hd rfl
    have nd := PyData.hasDict_of_canLay d h0
    exact repr_of_reads' r h1 (fun h' => by rw [nd] at h'; cases h') hG (by have := hu64 hr; omega) (fun b o e => e) (fun h' u tk hk => ⟨.str d.shown, H, J.kept hk, ⟨u, rfl⟩, q⟩) h3
  cases d with
  | none =>
    cases hd
    cases ru
    exact PySem.P.repr_of_none ⟨.str _, H, J.tok _, ⟨_, rfl⟩, q⟩
  | bool b =>
    cases hd
    cases ru
    exact PySem.P.repr_of_bool ⟨.str _, H, J.tok _, ⟨_, rfl⟩, by cases b <;> exact q⟩
  | int i =>
    cases hd
    obtain ⟨t, rfl⟩ := ru
    exact PySem.P.repr_of_int (of_decide_eq_true h1) ⟨.str _, H, J.tok _, ⟨_, rfl⟩, q⟩
  | str z =>
    cases hd
    obtain ⟨t, rfl⟩ := ru
    exact PySem.P.repr_of_str ⟨.str _, H, J.tok _, ⟨_, rfl⟩, q⟩ h3
  | list ds => cases hd; exact go _ rfl
  | tuple ds => cases hd; exact go _ rfl
  | dict kvs => cases h0
theorem so_repr {K : Fg} : SndO1 K (fun x H Q => ∃ d, Dp K H x d ∧ RepD d ∧ Q (.str d.shown) H) oRepr := by
  intro ω T H x r R Q fr v h q
  exact ⟨r.d, v.dp h.1.1, h.1, q.str fr h.2⟩
variable {e : Expr} {fa : FA} {p pos : Pos}
theorem se_repr {k : Nat} (hr : Room k X.A) (hG : X.A.guards = some []) (hm : X.mg "repr" = none) (ha : SA X [e] fa) (hg : Gl X "repr" := by rfl) (he : starEach [e] X.env = [(false, eval e X.env)] := by rfl) : SE X (.Call (.Name "repr" p) [e] [] pos) (fOpN (at1 oRepr) fa) :=
  se_callB (cimp (cr_repr hr hG) fun xs H Q ⟨x, e, d, h1, h2, h3⟩ => ⟨x, d, e, h1, h2, h3⟩) (so_at1 so_repr) (id := "repr") (by decide +kernel) hm ha hg (by decide) (by decide) he rfl
end
end Pv

/-! Pv6: a def's promise over data, and its call. -/
namespace Pv
open PySem PySem.Spec PyProof.Rows L2

/-- what a def does: from its arguments' cells, what it hands back and what its written parameters hold then -/
abbrev Phi := List Cell → (Cell → List Cell → Prop) → Prop
/-- arguments: written ones (true) are the slot's own, others are shared -/
def ArgR (K : Fg) (ω : Om) (H : Hp) : Nat → List V → List Bool → List Cell → Prop
  | _, [], [], [] => True
  | j, v :: vs, true :: ms, c :: cs => OwR K ω H c.k (Ow.own j) [] v c.d ∧ ArgR K ω H (j + 1) vs ms cs
  | j, v :: vs, false :: ms, c :: cs => (c.k = 0 ∧ Rp K ω H v c.d) ∧ ArgR K ω H (j + 1) vs ms cs
  | _, _, _, _ => False
def IoOut (K : Fg) (ω : Om) (H : Hp) : Nat → List V → List Bool → List Cell → Prop
  | _, [], [], [] => True
  | j, v :: vs, true :: ms, c :: cs => OwR K ω H c.k (Ow.own j) [] v c.d ∧ IoOut K ω H (j + 1) vs ms cs
  | j, _ :: vs, false :: ms, cs => IoOut K ω H (j + 1) vs ms cs
  | _, _, _, _ => False
def spOf (K : Fg) (ms : List Bool) (φ : Phi) : Sp := fun vs H Q _ => ∃ (ω : Om) (args : List Cell) (R : Cell → List Cell → Prop),
  ArgR K ω H 0 vs ms args ∧ Free ω 0 ∧ φ args R ∧
  ∀ v H' ω' c ios, Step ω H ω' H' → IoOut K ω' H' 0 vs ms ios → OwR K ω' H' c.k (Ow.tmp 0) [] v c.d → R c ios → Q v H'
section
variable {K : Fg} {ω : Om} {H : Hp}
theorem ArgR.length : ∀ {j : Nat} {vs : List V} {ms : List Bool} {cs : List Cell}, ArgR K ω H j vs ms cs → vs.length = ms.length ∧ cs.length = vs.length
  | _, [], [], [], _ => ⟨rfl, rfl⟩
  | _, [], [], _ :: _, h => h.elim
  | _, [], _ :: _, _, h => h.elim
  | _, _ :: _, [], _, h => h.elim
  | _, _ :: _, true :: _, [], h => h.elim
  | _, _ :: _, false :: _, [], h => h.elim
  | _, _ :: _, true :: _, _ :: _, h => by have := ArgR.length h.2; simp [this.1, this.2]
  | _, _ :: _, false :: _, _ :: _, h => by have := ArgR.length h.2; simp [this.1, this.2]
theorem spOf_len {ms : List Bool} {φ : Phi} {vs : List V} {Q : VK} {E : XK} (h : spOf K ms φ vs H Q E) : vs.length = ms.length := by
  obtain ⟨_, _, _, h, _⟩ := h
  exact h.length.1
end

/-! ### the arguments of a call -/
def mkArgs : List Bool → List Res → Option (List Cell)
  | [], [] => some []
  | false :: ms, .v _ d :: rs => match mkArgs ms rs with
    | some cs => some (sh d :: cs)
    | none => none
  | true :: ms, .b _ k d :: rs => match mkArgs ms rs with
    | some cs => some (⟨k, d⟩ :: cs)
    | none => none
  | true :: ms, .v (k + 1) d :: rs => match mkArgs ms rs with
    | some cs => some (⟨k + 1, d⟩ :: cs)
    | none => none
  | _, _ => none
def ioIx : List Bool → List Res → List Nat
  | true :: ms, .b i _ _ :: rs => i :: ioIx ms rs
  | _ :: ms, _ :: rs => ioIx ms rs
  | _, _ => []
def distinct : List Nat → Bool
  | [] => true
  | i :: is => !is.contains i && distinct is
def putIos (env : Env) : List Bool → List Res → List Cell → Env
  | true :: ms, .b i _ _ :: rs, c :: cs => (putIos env ms rs cs).set i (some c)
  | true :: ms, .v _ _ :: rs, _ :: cs => putIos env ms rs cs
  | false :: ms, _ :: rs, cs => putIos env ms rs cs
  | _, _, _ => env
/-- a promise that is looked at as a whole -/
@[irreducible] def apP (φ : Phi) (args : List Cell) (R : Cell → List Cell → Prop) : Prop := φ args R
theorem apP_eq {φ : Phi} {args : List Cell} {R : Cell → List Cell → Prop} : apP φ args R = φ args R := by unfold apP; rfl
theorem apP_op {φ : Phi} {args : List Cell} {R : Cell → List Cell → Prop} (h : φ args R) : apP φ args R := by rw [apP_eq]; exact h
theorem apP_cl {φ : Phi} {args : List Cell} {R : Cell → List Cell → Prop} (h : apP φ args R) : φ args R := by rw [apP_eq] at h; exact h
def fCall (ms : List Bool) (φ : Phi) (fa : FA) : FE := fun env R => fa env fun rs e => distinct (ioIx ms rs) = true ∧
  match mkArgs ms rs with
  | some args => apP φ args fun c ios => R (.v c.k c.d) (putIos e ms rs ios)
  | none => False
/-- the place of a slot among the written arguments -/
def posOf : Nat → List Bool → List Res → Nat → Option Nat
  | j, true :: ms, .b i' _ _ :: rs, i => if i' = i then some j else posOf (j + 1) ms rs i
  | j, _ :: ms, _ :: rs, i => posOf (j + 1) ms rs i
  | _, _, _, _ => none
theorem posOf_inv : ∀ {ms : List Bool} {rs : List Res} {i j j0 : Nat}, posOf j0 ms rs i = some j → ∃ n, j = j0 + n ∧ ms[n]? = some true ∧ ∃ k d, rs[n]? = some (.b i k d)
  | true :: ms, .b i' k d :: rs, i, j, j0, h => by
    unfold posOf at h
    by_cases e : i' = i
    · rw [if_pos e] at h
      subst e
      exact ⟨0, (Option.some.inj h).symm, rfl, k, d, rfl⟩
    · rw [if_neg e] at h
      obtain ⟨n, e1, e2, k', d', e3⟩ := posOf_inv h
      exact ⟨n + 1, by omega, e2, k', d', e3⟩
  | true :: ms, .v _ _ :: rs, i, j, j0, h => by
    unfold posOf at h
    obtain ⟨n, e1, e2, k', d', e3⟩ := posOf_inv h
    exact ⟨n + 1, by omega, e2, k', d', e3⟩
  | false :: ms, _ :: rs, i, j, j0, h => by
    unfold posOf at h
    obtain ⟨n, e1, e2, k', d', e3⟩ := posOf_inv h
    exact ⟨n + 1, by omega, e2, k', d', e3⟩
  | [], _, _, _, _, h => by unfold posOf at h; cases h
  | true :: _, [], _, _, _, h => by unfold posOf at h; cases h
  | false :: _, [], _, _, _, h => by unfold posOf at h; cases h
theorem distinct_mem : ∀ {ms : List Bool} {rs : List Res} {n i k : Nat} {d : D}, ms[n]? = some true → rs[n]? = some (.b i k d) → i ∈ ioIx ms rs
  | true :: ms, .b i' _ _ :: rs, 0, i, k, d, _, h => by
    have e := Option.some.inj h
    cases e
    exact List.mem_cons_self
  | true :: ms, .b i' _ _ :: rs, n + 1, i, k, d, h1, h2 => List.mem_cons_of_mem _ (distinct_mem (n := n) (by simpa using h1) (by simpa using h2))
  | true :: ms, .v _ _ :: rs, n + 1, i, k, d, h1, h2 => by
    unfold ioIx
    exact distinct_mem (n := n) (by simpa using h1) (by simpa using h2)
  | false :: ms, _ :: rs, n + 1, i, k, d, h1, h2 => by
    unfold ioIx
    exact distinct_mem (n := n) (by simpa using h1) (by simpa using h2)
  | true :: _, .v _ _ :: _, 0, _, _, _, _, h => by cases h
  | false :: _, _ :: _, 0, _, _, _, h, _ => by cases h
  | [], _, _, _, _, _, h, _ => by simp at h
  | _ :: _, [], _, _, _, _, _, h => by simp at h
theorem posOf_hit : ∀ {ms : List Bool} {rs : List Res} {n i k j0 : Nat} {d : D}, distinct (ioIx ms rs) = true → ms[n]? = some true → rs[n]? = some (.b i k d) → posOf j0 ms rs i = some (j0 + n)
  | true :: ms, .b i' _ _ :: rs, 0, i, k, j0, d, _, _, h => by
    have e := Option.some.inj h
    cases e
    unfold posOf
    rw [if_pos rfl]
    rfl
  | true :: ms, .b i' _ _ :: rs, n + 1, i, k, j0, d, hd, h1, h2 => by
    have hd' : (!(ioIx ms rs).contains i' && distinct (ioIx ms rs)) = true := hd
    rw [Bool.and_eq_true] at hd'
    have hm := distinct_mem (n := n) (ms := ms) (rs := rs) (by simpa using h1) (by simpa using h2)
    have ne : i' ≠ i := fun e => by
      subst e
      have : (ioIx ms rs).contains i' = true := List.contains_iff_mem.mpr hm
      rw [this] at hd'
      exact absurd hd'.1 (by decide)
    unfold posOf
    rw [if_neg ne, posOf_hit (n := n) hd'.2 (by simpa using h1) (by simpa using h2)]
    congr 1
    omega
  | true :: ms, .v _ _ :: rs, n + 1, i, k, j0, d, hd, h1, h2 => by
    unfold posOf
    unfold ioIx at hd
    rw [posOf_hit (n := n) hd (by simpa using h1) (by simpa using h2)]
    congr 1
    omega
  | false :: ms, _ :: rs, n + 1, i, k, j0, d, hd, h1, h2 => by
    unfold posOf
    unfold ioIx at hd
    rw [posOf_hit (n := n) hd (by simpa using h1) (by simpa using h2)]
    congr 1
    omega
  | true :: _, .v _ _ :: _, 0, _, _, _, _, _, _, h => by cases h
  | false :: _, _ :: _, 0, _, _, _, _, _, h, _ => by cases h
  | [], _, _, _, _, _, _, _, h, _ => by simp at h
  | _ :: _, [], _, _, _, _, _, _, _, h => by simp at h
/-- the owners, as the callee sees them -/
def inO (T : Nat) (ms : List Bool) (rs : List Res) : Ow → Ow
  | .shr => .shr
  | .far => .far
  | .own i p => match posOf 0 ms rs i with
    | some j => .own j p
    | none => .far
  | .tmp t p => if t < T then .far else match ms[t - T]? with
    | some true => .own (t - T) p
    | _ => .shr
/-- .. and back -/
def outO (T : Nat) (rs : List Res) (ω : Om) (ω' : Om) : Om := fun a => match ω' a with
  | .shr => .shr
  | .own j p => match rs[j]? with
    | some (.b i _ _) => .own i p
    | _ => .shr
  | .tmp t p => if t = 0 then .tmp T p else .shr
  | .far => gcO T (ω a)
section
variable {K : Fg} {ω : Om} {H : Hp} {σ : Sg} {env : Env} {T : Nat}
theorem args_in (rel : Rel K ω env σ H) (MS : List Bool) (RS : List Res) (hd : distinct (ioIx MS RS) = true) : ∀ {ms : List Bool} {rs : List Res} {vs : List V} {cs : List Cell} (j : Nat), (∀ n, ms[n]? = MS[j + n]?) → (∀ n, rs[n]? = RS[j + n]?) →
    ResAll K ω H σ env (T + j) vs rs → mkArgs ms rs = some cs → ArgR K (ren (inO T MS RS) ω) H j vs ms cs := by
  have gsh : Sh ω H (ren (inO T MS RS) ω) H := fun a o h e => ⟨h, by show inO T MS RS (ω a) = _; rw [e]; rfl⟩
  intro ms
  induction ms with
  | nil =>
    intro rs vs cs j hm hr hA hk
    cases rs with
    | nil =>
      cases vs with
      | nil => cases hk; trivial
      | cons _ _ => exact hA.elim
    | cons _ _ => cases hk
  | cons m ms ih =>
    intro rs vs cs j hm hr hA hk
    cases rs with
    | nil => cases m <;> cases hk
    | cons r rs =>
      cases vs with
      | nil => exact hA.elim
      | cons v vs =>
        obtain ⟨h1, h2⟩ := hA
        have hm0 : MS[j]? = some m := (hm 0).symm
        have hr0 : RS[j]? = some r := (hr 0).symm
        have hm' : ∀ n, ms[n]? = MS[j + 1 + n]? := fun n => by
          have := hm (n + 1)
          rw [List.getElem?_cons_succ] at this
          rw [this]; congr 1; omega
        have hr' : ∀ n, rs[n]? = RS[j + 1 + n]? := fun n => by
          have := hr (n + 1)
          rw [List.getElem?_cons_succ] at this
          rw [this]; congr 1; omega
        cases m with
        | false =>
          cases r with
          | b _ _ _ => cases hk
          | v k d =>
            unfold mkArgs at hk
            cases hk2 : mkArgs ms rs with
            | none => rw [hk2] at hk; cases hk
            | some cs' =>
              rw [hk2] at hk
              cases hk
              refine ⟨⟨rfl, OwR.fz gsh (fun a u p z1 z2 => ⟨z1, ?_⟩) _ _ _ _ h1⟩, ih (j + 1) hm' hr' h2 hk2⟩
              show inO T MS RS (ω a) = _
              rw [z2]
              show (if T + j < T then Ow.far else _) = _
              rw [if_neg (by omega), show T + j - T = j by omega, hm0]
        | true =>
          cases r with
          | b i k d =>
            unfold mkArgs at hk
            cases hk2 : mkArgs ms rs with
            | none => rw [hk2] at hk; cases hk
            | some cs' =>
              rw [hk2] at hk
              cases hk
              obtain ⟨v', hv, ho⟩ := rel.cell i _ h1.1
              have ev : v' = v := Option.some.inj (Option.some.inj (hv.symm.trans h1.2))
              subst ev
              refine ⟨OwR.go gsh (fun a u p z1 z2 => ⟨z1, ?_⟩) _ _ _ _ ho, ih (j + 1) hm' hr' h2 hk2⟩
              show inO T MS RS (ω a) = _
              rw [z2]
              show (match posOf 0 MS RS i with | some j => Ow.own j p | none => Ow.far) = _
              rw [posOf_hit hd hm0 hr0, Nat.zero_add]
          | v k d =>
            cases k with
            | zero => cases hk
            | succ k =>
              unfold mkArgs at hk
              cases hk2 : mkArgs ms rs with
              | none => rw [hk2] at hk; cases hk
              | some cs' =>
                rw [hk2] at hk
                cases hk
                refine ⟨OwR.go gsh (fun a u p z1 z2 => ⟨z1, ?_⟩) _ _ _ _ h1, ih (j + 1) hm' hr' h2 hk2⟩
                show inO T MS RS (ω a) = _
                rw [z2]
                show (if T + j < T then Ow.far else _) = _
                rw [if_neg (by omega), show T + j - T = j by omega, hm0]
/-- the last of the written arguments at a slot -/
def lookIo : List Bool → List Res → List Cell → Nat → Option Cell
  | true :: ms, .b i' _ _ :: rs, c :: cs, i => if i' = i then some c else lookIo ms rs cs i
  | true :: ms, .v _ _ :: rs, _ :: cs, i => lookIo ms rs cs i
  | false :: ms, _ :: rs, cs, i => lookIo ms rs cs i
  | _, _, _, _ => none
theorem put_len : ∀ {ms : List Bool} {rs : List Res} {cs : List Cell}, (putIos env ms rs cs).length = env.length
  | true :: ms, .b i _ _ :: rs, c :: cs => by unfold putIos; rw [List.length_set]; exact put_len
  | true :: ms, .v _ _ :: rs, _ :: cs => by unfold putIos; exact put_len
  | false :: ms, _ :: rs, cs => by unfold putIos; exact put_len
  | [], _, _ => by unfold putIos; rfl
  | true :: _, [], _ => by unfold putIos; rfl
  | true :: _, .b _ _ _ :: _, [] => by unfold putIos; rfl
  | true :: _, .v _ _ :: _, [] => by unfold putIos; rfl
  | false :: _, [], _ => by unfold putIos; rfl
theorem put_get : ∀ {ms : List Bool} {rs : List Res} {cs : List Cell} {i : Nat} {c : Cell}, (putIos env ms rs cs)[i]? = some (some c) → lookIo ms rs cs i = some c ∨ (lookIo ms rs cs i = none ∧ env[i]? = some (some c))
  | true :: ms, .b i' _ _ :: rs, c' :: cs, i, c, h => by
    unfold putIos at h
    unfold lookIo
    by_cases e : i' = i
    · rw [if_pos e]
      subst e
      have hl : i' < (putIos env ms rs cs).length := by
        have := (List.getElem?_eq_some_iff.mp h).1
        rwa [List.length_set] at this
      rw [List.getElem?_set_self hl] at h
      exact .inl (Option.some.inj h)
    · rw [if_neg e]
      rw [List.getElem?_set_ne e] at h
      exact put_get h
  | true :: ms, .v _ _ :: rs, _ :: cs, i, c, h => by
    unfold putIos at h
    unfold lookIo
    exact put_get h
  | false :: ms, _ :: rs, cs, i, c, h => by
    unfold putIos at h
    unfold lookIo
    exact put_get h
  | [], _, _, _, _, h => .inr ⟨rfl, h⟩
  | true :: _, [], _, _, _, h => .inr ⟨rfl, h⟩
  | true :: _, .b _ _ _ :: _, [], _, _, h => .inr ⟨rfl, h⟩
  | true :: _, .v _ _ :: _, [], _, _, h => .inr ⟨rfl, h⟩
  | false :: _, [], _, _, _, h => .inr ⟨rfl, h⟩
theorem look_io {K : Fg} {ω : Om} {H : Hp} : ∀ {ms : List Bool} {rs : List Res} {vs : List V} {cs : List Cell} {i : Nat} {c : Cell} (j : Nat), IoOut K ω H j vs ms cs → lookIo ms rs cs i = some c →
    ∃ n k d v, rs[n]? = some (.b i k d) ∧ vs[n]? = some v ∧ OwR K ω H c.k (Ow.own (j + n)) [] v c.d
  | true :: ms, .b i' k d :: rs, v :: vs, c' :: cs, i, c, j, h, e => by
    unfold lookIo at e
    by_cases ei : i' = i
    · rw [if_pos ei] at e
      cases e
      subst ei
      exact ⟨0, k, d, v, rfl, rfl, h.1⟩
    · rw [if_neg ei] at e
      obtain ⟨n, k', d', v', e1, e2, e3⟩ := look_io (j + 1) h.2 e
      exact ⟨n + 1, k', d', v', e1, e2, by rw [show j + (n + 1) = j + 1 + n by omega]; exact e3⟩
  | true :: ms, .v _ _ :: rs, v :: vs, c' :: cs, i, c, j, h, e => by
    unfold lookIo at e
    obtain ⟨n, k', d', v', e1, e2, e3⟩ := look_io (j + 1) h.2 e
    exact ⟨n + 1, k', d', v', e1, e2, by rw [show j + (n + 1) = j + 1 + n by omega]; exact e3⟩
  | false :: ms, _ :: rs, v :: vs, cs, i, c, j, h, e => by
    unfold lookIo at e
    have h' : IoOut K ω H (j + 1) vs ms cs := h
    obtain ⟨n, k', d', v', e1, e2, e3⟩ := look_io (j + 1) h' e
    exact ⟨n + 1, k', d', v', e1, e2, by rw [show j + (n + 1) = j + 1 + n by omega]; exact e3⟩
  | [], _, _, _, _, _, _, _, e => by unfold lookIo at e; cases e
  | true :: _, [], _, _, _, _, _, _, e => by unfold lookIo at e; cases e
  | true :: _, .b _ _ _ :: _, _, [], _, _, _, _, e => by unfold lookIo at e; cases e
  | true :: _, .v _ _ :: _, _, [], _, _, _, _, e => by unfold lookIo at e; cases e
  | true :: _, .b _ _ _ :: _, [], _ :: _, _, _, _, h, _ => h.elim
  | true :: _, .v _ _ :: _, [], _ :: _, _, _, _, h, _ => h.elim
  | false :: _, [], _, _, _, _, _, _, e => by unfold lookIo at e; cases e
  | false :: _, _ :: _, [], _, _, _, _, h, _ => by cases (show False from h)
theorem look_none {K : Fg} {ω : Om} {H : Hp} : ∀ {ms : List Bool} {rs : List Res} {vs : List V} {cs : List Cell} {i : Nat} (j : Nat), IoOut K ω H j vs ms cs → lookIo ms rs cs i = none → posOf j ms rs i = none
  | true :: ms, .b i' k d :: rs, v :: vs, c' :: cs, i, j, h, e => by
    unfold lookIo at e
    unfold posOf
    by_cases ei : i' = i
    · rw [if_pos ei] at e; cases e
    · rw [if_neg ei] at e
      rw [if_neg ei]
      exact look_none (j + 1) h.2 e
  | true :: ms, .v _ _ :: rs, v :: vs, c' :: cs, i, j, h, e => by
    unfold lookIo at e
    unfold posOf
    exact look_none (j + 1) h.2 e
  | false :: ms, _ :: rs, v :: vs, cs, i, j, h, e => by
    unfold lookIo at e
    unfold posOf
    have h' : IoOut K ω H (j + 1) vs ms cs := h
    exact look_none (j + 1) h' e
  | [], _, _, _, _, _, _, _ => by unfold posOf; rfl
  | true :: _, [], _, _, _, _, _, _ => by unfold posOf; rfl
  | false :: _, [], _, _, _, _, _, _ => by unfold posOf; rfl
  | true :: _, .b _ _ _ :: _, _ :: _, [], _, _, h, _ => h.elim
  | true :: _, .v _ _ :: _, _ :: _, [], _, _, h, _ => h.elim
  | true :: _, .b _ _ _ :: _, [], _, _, _, h, _ => by cases (show False from h)
  | true :: _, .v _ _ :: _, [], _, _, _, h, _ => by cases (show False from h)
  | false :: _, _ :: _, [], _, _, _, h, _ => by cases (show False from h)
theorem ResAll.at_ : ∀ {T : Nat} {vs : List V} {rs : List Res} {n : Nat} {v : V} {r : Res}, ResAll K ω H σ env T vs rs → vs[n]? = some v → rs[n]? = some r → ResR K ω H σ env (T + n) v r
  | _, v :: vs, r :: rs, 0, _, _, h, e1, e2 => by
    have e1' := Option.some.inj e1
    have e2' := Option.some.inj e2
    subst e1'; subst e2'
    exact h.1
  | T, v :: vs, r :: rs, n + 1, _, _, h, e1, e2 => by
    rw [show T + (n + 1) = T + 1 + n by omega]
    exact ResAll.at_ (n := n) h.2 (by simpa using e1) (by simpa using e2)
  | _, [], _, _, _, _, _, e1, _ => by simp at e1
  | _, _ :: _, [], _, _, _, _, _, e2 => by simp at e2
/-- the callee runs -/
theorem call_core {ms : List Bool} {φ : Phi} {ω1 : Om} {e1 : Env} {H1 : Hp} {vs : List V} {rs : List Res} {args : List Cell} {R : Res → Env → Prop} {Q : VK} {E : XK} (fre : Free ω T) (rel1 : Rel K ω1 e1 σ H1) (st1 : Step ω H ω1 H1) (rr1 : ResAll K ω1 H1 σ e1 T vs rs)
    (hd : distinct (ioIx ms rs) = true) (hk : mkArgs ms rs = some args) (h1 : φ args fun c ios => R (.v c.k c.d) (putIos e1 ms rs ios))
    (q : ∀ v H' ω' env' r, Rel K ω' env' σ H' → Step ω H ω' H' → Free ω' (T + 1) → ResR K ω' H' σ env' T v r → R r env' → Q v H') : spOf K ms φ vs H1 Q E := by
  refine ⟨ren (inO T ms rs) ω1, args, _, args_in rel1 ms rs hd 0 (fun n => by rw [Nat.zero_add]) (fun n => by rw [Nat.zero_add]) rr1 hk, fun a t p e => ?_, h1, fun v H2 ω2 c ios st2 io2 ow2 hR2 => ?_⟩
  · have e' : inO T ms rs (ω1 a) = .tmp t p := e
    cases y : ω1 a with
    | shr => rw [y] at e'; cases e'
    | far => rw [y] at e'; cases e'
    | own i p' =>
      rw [y] at e'
      have e2 : (match posOf 0 ms rs i with | some j => Ow.own j p' | none => Ow.far) = .tmp t p := e'
      cases z : posOf 0 ms rs i with
      | none => rw [z] at e2; cases e2
      | some j => rw [z] at e2; cases e2
    | tmp t' p' =>
      rw [y] at e'
      have e2 : (if t' < T then Ow.far else match ms[t' - T]? with | some true => .own (t' - T) p' | _ => .shr) = .tmp t p := e'
      by_cases hT : t' < T
      · rw [if_pos hT] at e2; cases e2
      · rw [if_neg hT] at e2
        revert e2
        cases ms[t' - T]? with
        | none => intro e2; cases e2
        | some b => cases b <;> (intro e2; cases e2)
  · -- back
    have sh2 : Sh ω2 H2 (outO T rs ω1 ω2) H2 := fun a o h e => ⟨h, by show (match ω2 a with | .shr => Ow.shr | .own j p => _ | .tmp t p => _ | .far => _) = _; rw [e]⟩
    have own2 : ∀ (j i k : Nat) (d : D), rs[j]? = some (.b i k d) → ∀ a u p, H2 a = some u → ω2 a = .own j p → H2 a = some u ∧ outO T rs ω1 ω2 a = .own i p := fun j i k d hj a u p z1 z2 => ⟨z1, by
      show (match ω2 a with | .shr => Ow.shr | .own j p => _ | .tmp t p => _ | .far => _) = _
      rw [z2]
      show (match rs[j]? with | some (.b i _ _) => Ow.own i p | _ => .shr) = _
      rw [hj]⟩
    have tmp2 : ∀ a u p, H2 a = some u → ω2 a = .tmp 0 p → H2 a = some u ∧ outO T rs ω1 ω2 a = .tmp T p := fun a u p z1 z2 => ⟨z1, by
      show (match ω2 a with | .shr => Ow.shr | .own j p => _ | .tmp t p => _ | .far => _) = _
      rw [z2]
      show (if 0 = 0 then Ow.tmp T p else .shr) = _
      rw [if_pos rfl]⟩
    -- what the callee may not touch
    have keep : ∀ a o, H1 a = some o → (ω1 a = .shr ∨ (inO T ms rs (ω1 a) = .far ∧ gcO T (ω1 a) = ω1 a)) → H2 a = some o ∧ outO T rs ω1 ω2 a = ω1 a := fun a o h hw => by
      rcases st2 a o h with ⟨i, p, z⟩ | ⟨z1, z2⟩
      · have z' : inO T ms rs (ω1 a) = .own i p := z
        rcases hw with hw | ⟨hw, _⟩
        · rw [hw] at z'; cases z'
        · rw [hw] at z'; cases z'
      · refine ⟨z1, ?_⟩
        have z2' : ω2 a = inO T ms rs (ω1 a) := z2
        show (match ω2 a with | .shr => Ow.shr | .own j p => _ | .tmp t p => _ | .far => _) = _
        rcases hw with hw | ⟨hw, hg⟩
        · rw [z2', hw]; rfl
        · rw [z2', hw]; exact hg
    have sh1 : Sh ω1 H1 (outO T rs ω1 ω2) H2 := fun a o h e => by
      obtain ⟨z1, z2⟩ := keep a o h (.inl e)
      exact ⟨z1, z2.trans e⟩
    refine q v H2 (outO T rs ω1 ω2) (putIos e1 ms rs ios) (.v c.k c.d) ⟨by rw [put_len]; exact rel1.len, fun i ci hi => ?_⟩ (fun a o h => ?_) (fun a t p e => ?_) (OwR.go sh2 tmp2 _ _ _ _ ow2) hR2
    · rcases put_get hi with hl | ⟨hl, he⟩
      · obtain ⟨n, k, d, v', e1', e2', e3'⟩ := look_io 0 io2 hl
        rw [Nat.zero_add] at e3'
        have rn := rr1.at_ e2' e1'
        exact ⟨v', rn.2, OwR.go sh2 (own2 n i k d e1') _ _ _ _ e3'⟩
      · obtain ⟨v', hv, ho⟩ := rel1.cell i ci he
        have hp := look_none 0 io2 hl
        refine ⟨v', hv, OwR.go sh1 (fun a u p z1 z2 => ?_) _ _ _ _ ho⟩
        obtain ⟨y1, y2⟩ := keep a u z1 (.inr ⟨by
          rw [z2]
          show (match posOf 0 ms rs i with | some j => Ow.own j p | none => Ow.far) = _
          rw [hp], by rw [z2]; rfl⟩)
        exact ⟨y1, y2.trans z2⟩
    · rcases st1 a o h with z | ⟨z1, z2⟩
      · exact .inl z
      · cases y : ω a with
        | own i p => exact .inl ⟨i, p, rfl⟩
        | shr =>
          obtain ⟨w1, w2⟩ := keep a o z1 (.inl (z2.trans y))
          exact .inr ⟨w1, w2.trans (z2.trans y)⟩
        | far =>
          have hf : ω1 a = .far := z2.trans y
          obtain ⟨w1, w2⟩ := keep a o z1 (.inr ⟨by rw [hf]; rfl, by rw [hf]; rfl⟩)
          exact .inr ⟨w1, w2.trans hf⟩
        | tmp t p =>
          have hf : ω1 a = .tmp t p := z2.trans y
          have hT := fre a t p y
          obtain ⟨w1, w2⟩ := keep a o z1 (.inr ⟨by
            rw [hf]
            show (if t < T then Ow.far else _) = _
            rw [if_pos hT], by
            rw [hf]
            show (if T ≤ t then Ow.shr else .tmp t p) = _
            rw [if_neg (by omega)]⟩)
          exact .inr ⟨w1, w2.trans hf⟩
    · have e' : (match ω2 a with
        | .shr => Ow.shr
        | .own j p => match rs[j]? with
          | some (.b i _ _) => .own i p
          | _ => .shr
        | .tmp t p => if t = 0 then .tmp T p else .shr
        | .far => gcO T (ω1 a)) = .tmp t p := e
      cases y : ω2 a with
      | shr => rw [y] at e'; cases e'
      | own j p' =>
        rw [y] at e'
        revert e'
        show (match rs[j]? with | some (.b i _ _) => Ow.own i p' | _ => .shr) = .tmp t p → _
        cases rs[j]? with
        | none => intro z; cases z
        | some r => cases r <;> (intro z; cases z)
      | tmp t' p' =>
        rw [y] at e'
        have e2 : (if t' = 0 then Ow.tmp T p' else .shr) = .tmp t p := e'
        by_cases h0 : t' = 0
        · rw [if_pos h0] at e2; cases e2; exact Nat.lt_succ_self _
        · rw [if_neg h0] at e2; cases e2
      | far =>
        rw [y] at e'
        exact Nat.lt_succ_of_lt (gc_free (ω := ω1) a t p e')
/-- THE CALL -/
theorem snd_call {ms : List Bool} {φ : Phi} {ta : TA} {fa : FA} (ha : SndA K ta fa) : SndE K (tCall (spOf K ms φ) [] (fun _ _ _ => False) ta) (fCall ms φ fa) := by
  intro ω T env σ H R Q rel fre hR q
  refine ha ω T env σ H _ _ rel fre hR fun vs H1 ω1 e1 rs rel1 st1 fr1 rr1 h1 => ?_
  obtain ⟨hd, h1⟩ := h1
  rw [List.append_nil]
  cases hk : mkArgs ms rs with
  | none => rw [hk] at h1; exact h1.elim
  | some args =>
    rw [hk] at h1
    exact call_core fre rel1 st1 rr1 hd hk (apP_cl h1) q
/-- with keywords: the values as written, then in the parameters' order -/
def permD (perm : List Nat) (ds : List D) : List D := perm.map fun i => ds.getD i .none
def permV (perm : List Nat) (vs : List V) : List V := perm.map fun i => vs.getD i .non
def permU (perm : List Nat) (us : List Value) : List Value := perm.map fun i => us.getD i .none
def fCallK (n m : Nat) (perm : List Nat) (φ : Phi) (fa fk : FA) : FE := fun env R => fa env fun rs e => noB rs ∧ rs.length = n ∧ fk e fun ks e1 => noB ks ∧ ks.length = m ∧ apP φ ((permD perm (dsOf rs ++ dsOf ks)).map sh) fun c _ => R (.v c.k c.d) e1
theorem RpAll.perm {vs : List V} {ds : List D} (h : RpAll K ω H vs ds) : ∀ perm : List Nat, RpAll K ω H (permV perm vs) (permD perm ds)
  | [] => .nil
  | i :: is => by
    refine .cons ?_ (RpAll.perm h is)
    show Rp K ω H (vs.getD i .non) (ds.getD i .none)
    rw [List.getD_eq_getElem?_getD, List.getD_eq_getElem?_getD]
    cases hd : ds[i]? with
    | none =>
      have hl : ds.length ≤ i := List.getElem?_eq_none_iff.mp hd
      rw [List.getElem?_eq_none (by rw [h.length]; exact hl)]
      exact .non
    | some d =>
      obtain ⟨v, hv, rv⟩ := h.at_ hd
      rw [hv]
      exact rv
theorem Vals.perm {vs : List V} {us : List Value} (h : Vals vs us) : ∀ perm : List Nat, Vals (permV perm vs) (permU perm us)
  | [] => .nil
  | i :: is => by
    refine .cons ?_ (Vals.perm h is)
    show RelV (vs.getD i .non) (us.getD i .none)
    rw [List.getD_eq_getElem?_getD, List.getD_eq_getElem?_getD]
    cases hd : vs[i]? with
    | none => rw [h.none_of hd]; rfl
    | some d =>
      obtain ⟨v, hv, rv⟩ := h.get hd
      rw [hv]
      exact rv
def allV (ds : List D) : List Res := ds.map fun d => .v 0 d
theorem resAll_v {e : Env} : ∀ {vs : List V} {ds : List D} (T : Nat), RpAll K ω H vs ds → ResAll K ω H σ e T vs (allV ds)
  | _, _, _, .nil => trivial
  | _, _, T, .cons h t => ⟨h, resAll_v (T + 1) t⟩
theorem mkArgs_v : ∀ ds : List D, mkArgs (List.replicate ds.length false) (allV ds) = some (ds.map sh)
  | [] => rfl
  | d :: ds => by
    show (match mkArgs (List.replicate ds.length false) (allV ds) with | some cs => some (sh d :: cs) | none => none) = _
    rw [mkArgs_v ds]
    rfl
theorem ioIx_v : ∀ (n : Nat) (rs : List Res), ioIx (List.replicate n false) rs = []
  | 0, _ => rfl
  | n + 1, [] => rfl
  | n + 1, _ :: rs => ioIx_v n rs
theorem putIos_v {e : Env} : ∀ (n : Nat) (rs : List Res) (cs : List Cell), putIos e (List.replicate n false) rs cs = e
  | 0, _, _ => rfl
  | n + 1, [], _ => rfl
  | n + 1, _ :: rs, cs => putIos_v n rs cs
end
/-- a def that may be called by its name -/
structure Fnc (P : Program) (w : World) (K : Fg) (mg : Str → Option Value) (base : Heap) (k : Nat) (x : Str) (ms : List Bool) (φ : Phi) : Prop where
  ex : ∃ (f : Addr) (fd : FuncData) (ps : List Str), FnG P w K mg base CX0 k f fd ps (spOf K ms φ) ∧ mg x = some (.ref f) ∧ PySem.W.keepIn K (.ref f) = true ∧ Binds K fd ps []
theorem se_call {X : Cx} {k j : Nat} {x : Str} {ms : List Bool} {φ : Phi} {e : Expr} {es : List Expr} {fa : FA} {p pos : Pos} (c : Fnc X.prog X.w X.K X.mg X.base k x ms φ) (hr : Room j X.A) (hG : X.A.guards = some []) (ha : SA X (e :: es) fa) (hk : k ≤ j := by decide) (hg : Gl X x := by rfl)
    (hdb : (x == ("__debug__" : Str)) = false := by decide) (he : starEach (e :: es) X.env = (false, eval e X.env) :: starEach es X.env := by rfl) (hpl : (backTo pos (starEach es X.env)).any (·.1) = false := by rfl) : SE X (.Call (.Name x p) (e :: es) [] pos) (fCall ms φ fa) := by
  obtain ⟨f, fd, ps, F, hm, hkp, hb⟩ := c.ex
  obtain ⟨t, q, s⟩ := ha.ex
  exact ⟨_, pe_g F hG (hr.mono hk) hg hm hkp hb q hdb he hpl, snd_call s⟩
/-- keyword arguments -/
structure SK (X : Cx) (kws : List Keyword) (f : FA) : Prop where
  ex : ∃ t : TA, PK X kws t ∧ SndA X.K t f
section
variable {X : Cx}
theorem sk_nil : SK X [] fNil := ⟨_, pk_nil, snd_nil⟩
theorem sk_cons {nm : Str} {e : Expr} {kpos : Pos} {kws : List Keyword} {fa : FE} {fr : FA} (ha : SE X e fa) (hr : SK X kws fr) : SK X (⟨nm, e, kpos⟩ :: kws) (fCons fa fr) := by
  obtain ⟨t, p, s⟩ := ha.ex
  obtain ⟨u, p', s'⟩ := hr.ex
  exact ⟨_, pk_cons p p', snd_cons s s'⟩
end
end Pv

/-! Pv7: statements; what a def's body is to show. -/
namespace Pv
open PySem PySem.Spec PyProof.Rows L2

structure Kt where
  nx : Env → Prop
  rt : Res → Env → Prop
  bk : Env → Prop := fun _ => False
  ct : Env → Prop := fun _ => False
abbrev FS := Env → Kt → Prop
/-- the written parameters' slots are not stored at -/
def Keep (io : Nat → Bool) (σ σ' : Sg) : Prop := σ'.length = σ.length ∧ ∀ j : Nat, io j = true → σ'[j]? = σ[j]?
theorem Keep.refl {io : Nat → Bool} {σ : Sg} : Keep io σ σ := ⟨rfl, fun _ _ => rfl⟩
theorem Keep.trans {io : Nat → Bool} {σ σ1 σ2 : Sg} (a : Keep io σ σ1) (b : Keep io σ1 σ2) : Keep io σ σ2 := ⟨b.1.trans a.1, fun j h => (b.2 j h).trans (a.2 j h)⟩
theorem Keep.set {io : Nat → Bool} {σ : Sg} {i : Nat} {o : Option V} (h : io i = false) : Keep io σ (σ.set i o) := ⟨List.length_set, fun j hj => by
  have ne : i ≠ j := fun e => by subst e; rw [h] at hj; cases hj
  rw [List.getElem?_set_ne ne]⟩
/-- the ends over data and those over the heap -/
structure KR (K : Fg) (io : Nat → Bool) (ω : Om) (σ : Sg) (H : Hp) (k : Kt) (E : Ends) : Prop where
  nx : ∀ σ' H' ω' env', Rel K ω' env' σ' H' → Step ω H ω' H' → Free ω' 0 → Keep io σ σ' → k.nx env' → E.nx σ' H'
  bk : ∀ σ' H' ω' env', Rel K ω' env' σ' H' → Step ω H ω' H' → Free ω' 0 → Keep io σ σ' → k.bk env' → E.bk σ' H'
  ct : ∀ σ' H' ω' env', Rel K ω' env' σ' H' → Step ω H ω' H' → Free ω' 0 → Keep io σ σ' → k.ct env' → E.ct σ' H'
  rt : ∀ v σ' H' ω' env' r, Rel K ω' env' σ' H' → Step ω H ω' H' → Free ω' 1 → Keep io σ σ' → ResR K ω' H' σ' env' 0 v r → k.rt r env' → E.rt v H'
theorem KR.next {K : Fg} {io : Nat → Bool} {ω ω1 : Om} {σ σ1 : Sg} {H H1 : Hp} {k : Kt} {E : Ends} (h : KR K io ω σ H k E) (st : Step ω H ω1 H1) (kp : Keep io σ σ1) : KR K io ω1 σ1 H1 k E where
  nx := fun σ' H' ω' env' a b c d e => h.nx σ' H' ω' env' a (st.trans b) c (kp.trans d) e
  bk := fun σ' H' ω' env' a b c d e => h.bk σ' H' ω' env' a (st.trans b) c (kp.trans d) e
  ct := fun σ' H' ω' env' a b c d e => h.ct σ' H' ω' env' a (st.trans b) c (kp.trans d) e
  rt := fun v σ' H' ω' env' r a b c d e f => h.rt v σ' H' ω' env' r a (st.trans b) c (kp.trans d) e f
def SndS (K : Fg) (io : Nat → Bool) (t : TS) (f : FS) : Prop := ∀ (ω : Om) (env : Env) (σ : Sg) (H : Hp) (E : Ends) (k : Kt), Rel K ω env σ H → Free ω 0 → f env k → KR K io ω σ H k E → t E σ H
structure SSt (X : Cx) (io : Nat → Bool) (st : Stmt) (f : FS) : Prop where
  ex : ∃ t : TS, PS X st t ∧ SndS X.K io t f
structure SSs (X : Cx) (io : Nat → Bool) (st : List Stmt) (f : FS) : Prop where
  ex : ∃ t : TS, PSs X st t ∧ SndS X.K io t f

/-! ### blocks -/
def fNext : FS := fun env k => k.nx env
def fSeq (f g : FS) : FS := fun env k => f env { k with nx := fun e => g e k }
def fBreak : FS := fun env k => k.bk env
def fCont : FS := fun env k => k.ct env
def fDrop (fa : FE) : FS := fun env k => fa env fun _ e => k.nx e
def fRet (fa : FE) : FS := fun env k => fa env k.rt
def fRetN : FS := fun env k => k.rt (.v 0 .none) env
def fIfS (c : FT) (f g : FS) : FS := fun env k => c env fun b e => match b with
  | true => f e k
  | false => g e k
section
variable {K : Fg} {io : Nat → Bool}
theorem snd_next : SndS K io tNext fNext := fun ω env σ H E k rel fr h kr => kr.nx σ H ω env rel Step.refl fr Keep.refl h
theorem snd_break : SndS K io tBreak fBreak := fun ω env σ H E k rel fr h kr => kr.bk σ H ω env rel Step.refl fr Keep.refl h
theorem snd_cont : SndS K io tCont fCont := fun ω env σ H E k rel fr h kr => kr.ct σ H ω env rel Step.refl fr Keep.refl h
theorem snd_seq {t u : TS} {f g : FS} (h1 : SndS K io t f) (h2 : SndS K io u g) : SndS K io (tSeq t u) (fSeq f g) := by
  intro ω env σ H E k rel fr h kr
  refine h1 ω env σ H _ _ rel fr h ⟨fun σ' H' ω' env' a b c d e => ?_, kr.bk, kr.ct, kr.rt⟩
  exact h2 ω' env' σ' H' E k a c e (kr.next b d)
theorem snd_drop {t : TE} {f : FE} (h : SndE K t f) : SndS K io (tDrop t) (fDrop f) := by
  intro ω env σ H E k rel fr hf kr
  refine h ω 0 env σ H _ _ rel fr hf fun v H1 ω1 e1 r rel1 st1 fr1 rr1 h1 => ?_
  exact kr.nx σ H1 (gc 0 ω1) e1 (rel1.gc 0) (st1.gc fr) gc_free Keep.refl h1
theorem snd_ret {t : TE} {f : FE} (h : SndE K t f) : SndS K io (tRet t) (fRet f) := by
  intro ω env σ H E k rel fr hf kr
  refine h ω 0 env σ H _ _ rel fr hf fun v H1 ω1 e1 r rel1 st1 fr1 rr1 h1 => ?_
  exact kr.rt v σ H1 ω1 e1 r rel1 st1 fr1 Keep.refl rr1 h1
theorem snd_retN : SndS K io tRetN fRetN := by
  intro ω env σ H E k rel fr hf kr
  exact kr.rt .non σ H ω env (.v 0 .none) rel Step.refl (fun a t p e => Nat.lt_succ_of_lt (fr a t p e)) Keep.refl Rp.non hf
theorem snd_ifS {c : TT} {t u : TS} {fc : FT} {f g : FS} (hc : SndT K c fc) (h : SndS K io t f) (h' : SndS K io u g) : SndS K io (tIfS c t u) (fIfS fc f g) := by
  intro ω env σ H E k rel fr hf kr
  refine hc ω 0 env σ H _ _ rel fr hf fun b H1 ω1 e1 rel1 st1 fr1 h1 => ?_
  cases b with
  | true => exact h ω1 e1 σ H1 E k rel1 fr1 h1 (kr.next st1 Keep.refl)
  | false => exact h' ω1 e1 σ H1 E k rel1 fr1 h1 (kr.next st1 Keep.refl)
end
section
variable {X : Cx} {io : Nat → Bool} {st : Stmt} {rest sa sb : List Stmt} {e : Expr} {fa : FE} {f g : FS} {pos : Pos}
theorem ss_nil : SSs X io [] fNext := ⟨_, pss_nil, snd_next⟩
theorem ss_cons (h1 : SSt X io st f) (h2 : SSs X io rest g) : SSs X io (st :: rest) (fSeq f g) := by
  obtain ⟨t, p, s⟩ := h1.ex
  obtain ⟨u, p', s'⟩ := h2.ex
  exact ⟨_, pss_cons p p', snd_seq s s'⟩
theorem ss_one (h1 : SSt X io st f) : SSs X io [st] f := by
  obtain ⟨t, p, s⟩ := h1.ex
  exact ⟨_, pss_one p, s⟩
theorem ss_pass : SSt X io (.Pass pos) fNext := ⟨_, ps_pass, snd_next⟩
theorem ss_break : SSt X io (.Break pos) fBreak := ⟨_, ps_break, snd_break⟩
theorem ss_expr (ha : SE X e fa) (hs : swapsWith e none pos.line X.env = pure false := by rfl) : SSt X io (.Expr e pos) (fDrop fa) := by
  obtain ⟨t, p, s⟩ := ha.ex
  exact ⟨_, ps_expr p hs, snd_drop s⟩
theorem ss_ret (ha : SE X e fa) : SSt X io (.Return (some e) pos) (fRet fa) := by
  obtain ⟨t, p, s⟩ := ha.ex
  exact ⟨_, ps_ret p, snd_ret s⟩
theorem ss_retN : SSt X io (.Return none pos) fRetN := ⟨_, ps_retN, snd_retN⟩
theorem ss_if {c : Expr} {gc : FT} (hc : STs X c gc) (ha : SSs X io sa f) (hb : SSs X io sb g) : SSt X io (.If c sa sb pos) (fIfS gc f g) := by
  obtain ⟨r, p0, s0⟩ := hc.ex
  obtain ⟨t, p, s⟩ := ha.ex
  obtain ⟨u, p', s'⟩ := hb.ex
  exact ⟨_, ps_if p0 p p', snd_ifS s0 s s'⟩
end

/-! ### stores -/
/-- x = e, shared from then on -/
def fAsg (i : Nat) (fa : FE) : FS := fun env k => fa env fun r e => match r with
  | .v _ d => k.nx (e.set i (some (sh d)))
  | .b _ _ _ => False
/-- x = e, the slot's own from then on -/
def fAsgO (i : Nat) (fa : FE) : FS := fun env k => fa env fun r e => match r with
  | .v n d => k.nx (e.set i (some ⟨n, d⟩))
  | .b _ _ _ => False
section
variable {K : Fg} {io : Nat → Bool} {ω : Om} {env : Env} {σ : Sg} {H : Hp}
theorem Rel.put (rel : Rel K ω env σ H) {i : Nat} {v : V} {c : Cell} (h : OwR K ω H c.k (Ow.own i) [] v c.d) : Rel K ω (env.set i (some c)) (σ.set i (some v)) H := by
  refine ⟨by rw [List.length_set, List.length_set]; exact rel.len, fun j c' e => ?_⟩
  by_cases hj : i = j
  · subst hj
    have hl : i < env.length := by
      have := (List.getElem?_eq_some_iff.mp e).1
      rwa [List.length_set] at this
    rw [List.getElem?_set_self hl] at e
    cases e
    exact ⟨v, by rw [List.getElem?_set_self (by rw [rel.len]; exact hl)], h⟩
  · rw [List.getElem?_set_ne hj] at e
    obtain ⟨v', hv, ho⟩ := rel.cell j c' e
    exact ⟨v', by rw [List.getElem?_set_ne hj]; exact hv, ho⟩
theorem Rel.drop (rel : Rel K ω env σ H) {i : Nat} {o : Option V} : Rel K ω (env.set i none) (σ.set i o) H := by
  refine ⟨by rw [List.length_set, List.length_set]; exact rel.len, fun j c' e => ?_⟩
  have hj : i ≠ j := fun z => by
    subst z
    have hl : i < env.length := by
      have := (List.getElem?_eq_some_iff.mp e).1
      rwa [List.length_set] at this
    rw [List.getElem?_set_self hl] at e
    cases e
  rw [List.getElem?_set_ne hj] at e
  obtain ⟨v', hv, ho⟩ := rel.cell j c' e
  exact ⟨v', by rw [List.getElem?_set_ne hj]; exact hv, ho⟩
theorem snd_asg {t : TE} {f : FE} (h : SndE K t f) {i : Nat} (hi : io i = false) : SndS K io (tAsg t (gName i)) (fAsg i f) := by
  intro ω env σ H E k rel fr hf kr
  refine h ω 0 env σ H _ _ rel fr hf fun v H1 ω1 e1 r rel1 st1 fr1 rr1 h1 => ?_
  cases r with
  | b _ _ _ => exact h1.elim
  | v n d =>
    have rp : Rp K (gc 0 ω1) H1 v d := rr1.gc rel1 (Nat.le_refl _)
    exact kr.nx _ H1 (gc 0 ω1) _ ((rel1.gc 0).put (c := sh d) rp) (st1.gc fr) gc_free (Keep.set hi) h1
def asO (i : Nat) : Ow → Ow
  | .tmp t p => if t = 0 then .own i p else .shr
  | o => o
theorem snd_asgO {t : TE} {f : FE} (h : SndE K t f) {i : Nat} (hi : io i = false) : SndS K io (tAsg t (gName i)) (fAsgO i f) := by
  intro ω env σ H E k rel fr hf kr
  refine h ω 0 env σ H _ _ rel fr hf fun v H1 ω1 e1 r rel1 st1 fr1 rr1 h1 => ?_
  cases r with
  | b _ _ _ => exact h1.elim
  | v n d =>
    have gsh : Sh ω1 H1 (ren (asO i) ω1) H1 := fun a o h e => ⟨h, by show asO i (ω1 a) = _; rw [e]; rfl⟩
    have rel2 : Rel K (ren (asO i) ω1) e1 σ H1 := by
      refine ⟨rel1.len, fun j c e => ?_⟩
      obtain ⟨v', hv, ho⟩ := rel1.cell j c e
      exact ⟨v', hv, OwR.go gsh (fun a u p z1 z2 => ⟨z1, by show asO i (ω1 a) = _; rw [z2]; rfl⟩) _ _ _ _ ho⟩
    have ow : OwR K (ren (asO i) ω1) H1 n (Ow.own i) [] v d := OwR.go gsh (fun a u p z1 z2 => ⟨z1, by
      show asO i (ω1 a) = _
      rw [z2]
      show (if (0 : Nat) = 0 then Ow.own i p else Ow.shr) = _
      rw [if_pos rfl]⟩) _ _ _ _ rr1
    refine kr.nx _ H1 (ren (asO i) ω1) _ (rel2.put (c := ⟨n, d⟩) ow) (fun a o h => ?_) (fun a t p e => ?_) (Keep.set hi) h1
    · rcases st1 a o h with z | ⟨z1, z2⟩
      · exact .inl z
      · refine .inr ⟨z1, ?_⟩
        show asO i (ω1 a) = _
        rw [z2]
        cases y : ω a with
        | tmp t p => exact absurd (fr a t p y) (Nat.not_lt_zero _)
        | _ => rfl
    · have e' : asO i (ω1 a) = .tmp t p := e
      cases y : ω1 a with
      | tmp t' p' =>
        rw [y] at e'
        have e2 : (if t' = 0 then Ow.own i p' else .shr) = .tmp t p := e'
        by_cases h0 : t' = 0
        · rw [if_pos h0] at e2; cases e2
        · rw [if_neg h0] at e2; cases e2
      | _ => rw [y] at e'; cases e'
end
section
variable {X : Cx} {io : Nat → Bool} {e : Expr} {fa : FE} {pos pos' : Pos} {x : Str}
theorem ss_set (i : Nat) (hN : X.N.Nodup) (ha : SE X e fa) (hi : X.N[i]? = some x := by rfl) (hx : Loc X.env.scope x := by first | exact Or.inl rfl | exact Or.inr rfl) (hio : io i = false := by decide)
    (hs : swapsWith e (some (.Name x pos')) pos.line X.env = pure false := by rfl) (hf : X.fn x = true ∨ X.env.scope.names.lookup x = some .local := by first | exact .inl rfl | exact .inr rfl | assumption) : SSt X io (.Assign [.Name x pos'] e pos) (fAsg i fa) := by
  obtain ⟨t, p, s⟩ := ha.ex
  exact ⟨_, ps_set hN hi hx p hs hf, snd_asg s hio⟩
theorem ss_setO (i : Nat) (hN : X.N.Nodup) (ha : SE X e fa) (hi : X.N[i]? = some x := by rfl) (hx : Loc X.env.scope x := by first | exact Or.inl rfl | exact Or.inr rfl) (hio : io i = false := by decide)
    (hs : swapsWith e (some (.Name x pos')) pos.line X.env = pure false := by rfl) (hf : X.fn x = true ∨ X.env.scope.names.lookup x = some .local := by first | exact .inl rfl | exact .inr rfl | assumption) : SSt X io (.Assign [.Name x pos'] e pos) (fAsgO i fa) := by
  obtain ⟨t, p, s⟩ := ha.ex
  exact ⟨_, ps_set hN hi hx p hs hf, snd_asgO s hio⟩
end

/-! ### methods of a slot's own list -/
abbrev MT := List D → List D → (D → List D → Prop) → Prop
def SndM (K : Fg) (r : V → List V → Hp → VK → Prop) (m : MT) : Prop := ∀ ω H a vs ds xs es (R : D → List D → Prop) (Q : VK), H a = some (.lst vs) → RpAll K ω H vs ds → RpAll K ω H xs es → m ds es R →
  (∀ y vs' res ds', RpAll K ω H vs' ds' → Rp K ω H y res → R res ds' → Q y (upd H a (.lst vs'))) → r (.ref a) xs H Q
def isOwn : Option Cell → Prop
  | some ⟨1, .list _⟩ => True
  | _ => False
def onOwn (c : Option Cell) (P : List D → Prop) : Prop := match c with
  | some ⟨1, .list ds⟩ => P ds
  | _ => False
def fMth (i : Nat) (m : MT) (fa : FA) : FE := fun env R => isOwn (getC env i) ∧ fa env fun rs e => noB rs ∧ onOwn (getC e i) fun ds => m ds (dsOf rs) fun res ds' => R (.v 0 res) (e.set i (some (ow (.list ds'))))
theorem onOwn_ex {c : Option Cell} {P : List D → Prop} (h : onOwn c P) : ∃ ds, c = some (ow (.list ds)) ∧ P ds := by
  match c, h with
  | some ⟨1, .list ds⟩, h => exact ⟨ds, rfl, h⟩
theorem isOwn_ex {c : Option Cell} (h : isOwn c) : ∃ ds, c = some (ow (.list ds)) := by
  match c, h with
  | some ⟨1, .list ds⟩, h => exact ⟨ds, rfl⟩
section
variable {K : Fg} {ω : Om} {env : Env} {σ : Sg} {H : Hp}
theorem Rel.own (rel : Rel K ω env σ H) {i : Nat} {ds : List D} (h : getC env i = some (ow (.list ds))) : ∃ a vs, σ[i]? = some (some (.ref a)) ∧ H a = some (.lst vs) ∧ ω a = .own i [] ∧ RpAll K ω H vs ds := by
  obtain ⟨v, hv, ho⟩ := rel.cell i _ (getC_some h)
  have ho' : OwR K ω H 1 (Ow.own i) [] v (.list ds) := ho
  rcases ho' with ⟨z, _⟩ | ⟨a, vs, ds', e1, e2, h1, h2, el, hc⟩ | ⟨_, _, _, _, e2, _⟩
  · cases z
  · cases e2
    subst e1
    exact ⟨a, vs, hv, h1, h2, RpAll.of_get el hc⟩
  · cases e2
theorem sh_upd {a : Addr} {u : HO} (h : ω a ≠ .shr) : Sh ω H ω (upd H a u) := fun b o hb e => by
  have ne : b ≠ a := fun z => by subst z; exact h e
  exact ⟨by rw [upd_ne ne]; exact hb, e⟩
/-- a slot's own list is written -/
theorem Rel.wr (rel : Rel K ω env σ H) {i : Nat} {a : Addr} {vs : List V} {ds : List D} (hσ : σ[i]? = some (some (.ref a))) (hi : i < env.length) (ho : ω a = .own i []) (h : RpAll K ω H vs ds) :
    Rel K ω (env.set i (some (ow (.list ds)))) σ (upd H a (.lst vs)) ∧ Step ω H ω (upd H a (.lst vs)) := by
  have hs : Sh ω H ω (upd H a (.lst vs)) := sh_upd (by rw [ho]; exact fun z => by cases z)
  refine ⟨⟨by rw [List.length_set]; exact rel.len, fun j c e => ?_⟩, fun b o hb => ?_⟩
  · by_cases hj : i = j
    · subst hj
      rw [List.getElem?_set_self hi] at e
      cases e
      refine ⟨_, hσ, .inr (.inl ⟨a, vs, ds, rfl, rfl, upd_same, ho, h.length, fun n v' d' z1 z2 => ?_⟩)⟩
      exact Rp.sh hs _ _ (h.get z1 z2)
    · rw [List.getElem?_set_ne hj] at e
      obtain ⟨v', hv', ho'⟩ := rel.cell j c e
      refine ⟨v', hv', OwR.go hs (fun b u p z1 z2 => ⟨?_, z2⟩) _ _ _ _ ho'⟩
      have ne : b ≠ a := fun z => by subst z; rw [ho] at z2; cases z2; exact hj rfl
      rw [upd_ne ne]; exact z1
  · by_cases e : b = a
    · subst e; exact .inl ⟨i, [], ho⟩
    · exact .inr ⟨by rw [upd_ne e]; exact hb, rfl⟩
theorem snd_mth {i : Nat} {r : V → List V → Hp → VK → Prop} {m : MT} {t : TA} {fa : FA} (hm : SndM K r m) (ha : SndA K t fa) : SndE K (tBM K "list" r (tVar i) t) (fMth i m fa) := by
  intro ω T env σ H R Q rel fr hR q
  obtain ⟨hi, hR⟩ := hR
  obtain ⟨ds0, e0⟩ := isOwn_ex hi
  obtain ⟨a0, vs0, hσ, hH, _, _⟩ := rel.own e0
  refine ⟨.ref a0, hσ, .inl ⟨rfl, vs0, .inl (.inl hH)⟩, ?_⟩
  refine ha ω T env σ H _ _ rel fr hR fun xs H1 ω1 e1 rs rel1 st1 fr1 rr1 h1 => ?_
  obtain ⟨nb, h1⟩ := h1
  obtain ⟨ds, e2, h2⟩ := onOwn_ex h1
  obtain ⟨a, vs, hσ1, hH1, ho1, hp1⟩ := rel1.own e2
  have ea : a0 = a := by
    rw [hσ] at hσ1
    exact V.ref.inj (Option.some.inj (Option.some.inj hσ1))
  subst ea
  have il : i < e1.length := (List.getElem?_eq_some_iff.mp (getC_some e2)).1
  have va := rr1.gc (T0 := T) rel1 (Nat.le_refl _)
  have ho2 : gc T ω1 a0 = .own i [] := by show gcO T (ω1 a0) = _; rw [ho1]; rfl
  refine hm (gc T ω1) H1 a0 vs ds xs (dsOf rs) _ Q hH1 (RpAll.sh gc_sh _ _ hp1) (va.rp nb) h2 fun y vs' res ds' hv hy hR' => ?_
  obtain ⟨rel2, st2⟩ := (rel1.gc T).wr hσ1 il ho2 hv
  refine q y _ (gc T ω1) _ (.v 0 res) rel2 ((st1.gc fr).trans st2) gc_free.up ?_ hR'
  exact Rp.sh (sh_upd (by rw [ho2]; exact fun z => by cases z)) _ _ hy
end
def mAppend : MT := fun ds es R => match es with
  | [d] => ds.length < sizeLine ∧ R .none (ds ++ [d])
  | _ => False
def mExtend : MT := fun ds es R => match es with
  | [.list xs] => ds.length + xs.length ≤ sizeLine ∧ R .none (ds ++ xs)
  | _ => False
def mPopAt : MT := fun ds es R => match es with
  | [.int i] => ∃ j d, seqIndex? i ds.length = some j ∧ ds[j]? = some d ∧ (-(2 ^ 63) ≤ i ∧ i < 2 ^ 63) ∧ R d (ds.eraseIdx j)
  | _ => False
def mInsert : MT := fun ds es R => match es with
  | [.int i, d] => (ds.length < sizeLine ∧ 0 ≤ i ∧ i < 2 ^ 63) ∧ R .none (ds.take i.toNat ++ [d] ++ ds.drop i.toNat)
  | _ => False
section
variable {X : Cx} {K : Fg}
theorem sm_append : SndM K rAppend mAppend := by
  intro ω H a vs ds xs es R Q hH hp he h q
  match es, xs, he, h with
  | [d], [x], .cons hx .nil, h => exact ⟨a, vs, x, rfl, rfl, hH, by rw [hp.length]; exact h.1, q _ _ _ _ (hp.append (.cons hx .nil)) .non h.2⟩
theorem sm_extend : SndM K rExtend mExtend := by
  intro ω H a vs ds xs es R Q hH hp he h q
  match es, xs, he, h with
  | [.list ys], [x], .cons hx .nil, h =>
    cases hx with
    | lst hs hy => exact ⟨a, _, vs, _, rfl, rfl, hH, hs.1, by rw [hp.length, hy.length]; exact h.1, q _ _ _ _ (hp.append hy) .non h.2⟩
theorem sm_popAt : SndM K rPopAt mPopAt := by
  intro ω H a vs ds xs es R Q hH hp he h q
  match es, xs, he, h with
  | [.int i], [x], .cons hx .nil, h =>
    obtain ⟨j, d, h1, h2, ⟨h3, h4⟩, h5⟩ := h
    obtain ⟨y, hy, ry⟩ := hp.at_ h2
    cases hx
    exact ⟨a, vs, i, j, y, rfl, rfl, hH, h3, h4, by rw [hp.length]; exact h1, hy, q _ _ _ _ (hp.eraseIdx j) ry h5⟩
theorem sm_insert : SndM K (fun x vs H Q => ∃ (l : Addr) (xs : List V) (i : Int) (y : V), x = .ref l ∧ vs = [.int i, y] ∧ H l = some (.lst xs) ∧ xs.length < sizeLine ∧ 0 ≤ i ∧ i < 2 ^ 63 ∧ Q .non (upd H l (.lst (xs.take i.toNat ++ [y] ++ xs.drop i.toNat)))) mInsert := by
  intro ω H a vs ds xs es R Q hH hp he h q
  match es, xs, he, h with
  | [.int i, d], [x, y], .cons hx (.cons hy .nil), h =>
    cases hx
    exact ⟨a, vs, i, y, rfl, rfl, hH, by rw [hp.length]; exact h.1.1, h.1.2.1, h.1.2.2, q _ _ _ _ (((hp.take _).append (.cons hy .nil)).append (hp.drop _)) .non h.2⟩
variable {e : Expr} {es : List Expr} {fa : FA} {x : Str} {p apos cpos : Pos}
theorem se_append (i : Nat) (ha : SA X [e] fa) (hN : X.N[i]? = some x := by rfl) (hv : Vis X.env.scope x := by first | exact Or.inl rfl | exact Or.inr (Or.inl rfl) | exact Or.inr (Or.inr rfl)) (hbase : attributeBase (.Name x p) "append" X.env (eval (.Name x p) X.env) = eval (.Name x p) X.env := by rfl)
    (hfew : ((backTo cpos (starEach [e] X.env)).all (fun x => !x.1) && (backToKw cpos (keywordEach [] X.env)).all (fun x => x.1.isSome) && decide ([e].length + ([] : List Keyword).length + (if ([] : List Keyword).isEmpty then 0 else 1) < 30)) = true := by rfl)
    (hline : (apos.endLine == cpos.line) = true := by rfl) (hs : starEach [e] X.env = (false, eval e X.env) :: starEach [] X.env := by rfl) (hd : (x == ("__debug__" : Str)) = false := by decide) (hcd : (x == ("__classdict__" : Str)) = false := by decide) :
    SE X (.Call (.Attribute (.Name x p) "append" apos) [e] [] cpos) (fMth i mAppend fa) := by
  obtain ⟨t, q, s⟩ := ha.ex
  exact ⟨_, pe_bm PySem.F.plainAttrs_list PySem.F.slot_list_append PySem.F.type_list_append mt_append (pe_var hN hv hd hcd) q hbase hfew hline hs rfl, snd_mth sm_append s⟩
end
end Pv

/-! Pv8: pop, stores at a place, several targets, loops. -/
namespace Pv
open PySem PySem.Spec PyProof.Rows L2

section
variable {X : Cx} {e e2 : Expr} {fa : FA} {x : Str} {p apos cpos : Pos}
theorem se_popAt (i : Nat) (ha : SA X [e] fa) (hN : X.N[i]? = some x := by rfl) (hv : Vis X.env.scope x := by first | exact Or.inl rfl | exact Or.inr (Or.inl rfl) | exact Or.inr (Or.inr rfl)) (hbase : attributeBase (.Name x p) "pop" X.env (eval (.Name x p) X.env) = eval (.Name x p) X.env := by rfl)
    (hfew : ((backTo cpos (starEach [e] X.env)).all (fun x => !x.1) && (backToKw cpos (keywordEach [] X.env)).all (fun x => x.1.isSome) && decide ([e].length + ([] : List Keyword).length + (if ([] : List Keyword).isEmpty then 0 else 1) < 30)) = true := by rfl)
    (hline : (apos.endLine == cpos.line) = true := by rfl) (hs : starEach [e] X.env = (false, eval e X.env) :: starEach [] X.env := by rfl) (hd : (x == ("__debug__" : Str)) = false := by decide) (hcd : (x == ("__classdict__" : Str)) = false := by decide) :
    SE X (.Call (.Attribute (.Name x p) "pop" apos) [e] [] cpos) (fMth i mPopAt fa) := by
  obtain ⟨t, q, s⟩ := ha.ex
  exact ⟨_, pe_bm PySem.F.plainAttrs_list PySem.F.slot_list_pop PySem.F.type_list_pop mt_popAt (pe_var hN hv hd hcd) q hbase hfew hline hs rfl, snd_mth sm_popAt s⟩
end

/-! ### x[j] = e -/
def atInt (P : Int → Prop) : D → Prop
  | .int i => P i
  | _ => False
/-- .. of a slot's own list -/
def fSetIx (i : Nat) (fa fj : FE) : FS := fun env k => fa env fun r e1 => noB [r] ∧ isOwn (getC e1 i) ∧ fj e1 fun rj e2 => onOwn (getC e2 i) fun ds => atInt (fun j => ∃ n, ixN ds.length j = some n ∧ k.nx (e2.set i (some (ow (.list (ds.set n r.d)))))) rj.d
theorem atInt_ex {P : Int → Prop} {d : D} (h : atInt P d) : ∃ i, d = .int i ∧ P i := by
  cases d <;> first
    | exact h.elim
    | exact ⟨_, rfl, h⟩
section
variable {K : Fg} {io : Nat → Bool}
theorem snd_setIx {i : Nat} {ta tj : TE} {fa fj : FE} (ha : SndE K ta fa) (hj : SndE K tj fj) : SndS K io (tAsg ta (gSub (tVar i) tj rSetL)) (fSetIx i fa fj) := by
  intro ω env σ H E k rel fr hf kr
  refine ha ω 0 env σ H _ _ rel fr hf fun v H1 ω1 e1 r rel1 st1 fr1 rr1 h1 => ?_
  obtain ⟨nb, ho, h1⟩ := h1
  obtain ⟨ds0, e0⟩ := isOwn_ex ho
  obtain ⟨a0, vs0, hσ, hH, _, _⟩ := rel1.own e0
  refine ⟨.ref a0, hσ, ?_⟩
  refine hj ω1 1 e1 σ H1 _ _ rel1 fr1 h1 fun jv H2 ω2 e2 rj rel2 st2 fr2 rr2 h2 => ?_
  obtain ⟨ds, e3, h3⟩ := onOwn_ex h2
  obtain ⟨j, ej, n, hn, hk⟩ := atInt_ex h3
  obtain ⟨a, vs, hσ1, hH2, ho2, hp2⟩ := rel2.own e3
  have ea : a0 = a := by
    rw [hσ] at hσ1
    exact V.ref.inj (Option.some.inj (Option.some.inj hσ1))
  subst ea
  have il : i < e2.length := (List.getElem?_eq_some_iff.mp (getC_some e3)).1
  have rp : Rp K (gc 0 ω2) H2 v r.d := by
    cases r with
    | b _ _ _ => exact nb.elim
    | v kk d => exact ResR.gc (env := e2) (r := .v kk d) (ResR.step (T' := 0) rr1 st2) rel2 (Nat.le_refl _)
  have hog : gc 0 ω2 a0 = .own i [] := by show gcO 0 (ω2 a0) = _; rw [ho2]; rfl
  have hpg : RpAll K (gc 0 ω2) H2 (vs.set n v) (ds.set n r.d) := RpAll.set rp n (RpAll.sh gc_sh _ _ hp2)
  obtain ⟨rel3, st3⟩ := (rel2.gc 0).wr hσ1 il hog hpg
  refine ⟨a0, vs, j, n, rfl, rr2.int_ rel2 ej, hH2, by rw [hp2.length]; exact hn, ?_⟩
  exact kr.nx σ _ (gc 0 ω2) _ rel3 (((st1.trans st2).gc fr).trans st3) gc_free Keep.refl hk
end
section
variable {X : Cx} {io : Nat → Bool} {e j : Expr} {fa fj : FE} {x : Str} {p pos' pos : Pos}
theorem ss_setIx (i : Nat) (ha : SE X e fa) (hj : SE X j fj) (hN : X.N[i]? = some x := by rfl) (hv : Vis X.env.scope x := by first | exact Or.inl rfl | exact Or.inr (Or.inl rfl) | exact Or.inr (Or.inr rfl)) (hd : (x == ("__debug__" : Str)) = false := by decide) (hcd : (x == ("__classdict__" : Str)) = false := by decide)
    (hasg : ∀ v, assign (.Subscript (.Name x p) j pos') X.env v = (do
      let ov ← holding [v] (eval (.Name x p) X.env)
      let iv ← holding [v, ov] (eval j X.env)
      standAt pos'
      holding [v, ov, iv] (setItem ov iv v)
      release [v, ov, iv] []) := by intro _; rfl)
    (hs : swapsWithSole [.Subscript (.Name x p) j pos'] e pos.line X.env = pure false := by rfl) (hw : swappedStores [.Subscript (.Name x p) j pos'] e X.env = pure none := by rfl)
    (h1 : (assignEach [.Subscript (.Name x p) j pos'] X.env).map (·.2) = [assign (.Subscript (.Name x p) j pos') X.env] := by rfl) : SSt X io (.Assign [.Subscript (.Name x p) j pos'] e pos) (fSetIx i fa fj) := by
  obtain ⟨t, q, s⟩ := ha.ex
  obtain ⟨u, q', s'⟩ := hj.ex
  exact ⟨_, ps_asg q (pg_sub (pe_var hN hv hd hcd) q' set_list hasg) hs hw h1, snd_setIx s s'⟩
end

/-! ### x += e of ints -/
def fAug (i : Nat) (op : Int → Int → Int) (fa : FE) : FS := fun env k => ∃ a : Int, getC env i = some (sh (.int a)) ∧ fa env fun r e => atInt (fun b => k.nx (e.set i (some (sh (.int (op a b)))))) r.d
section
variable {K : Fg} {io : Nat → Bool}
theorem snd_aug {i : Nat} {op : Int → Int → Int} {ta : TE} {fa : FE} (ha : SndE K ta fa) (hi : io i = false) : SndS K io (tAug i ta (ipI op)) (fAug i op fa) := by
  intro ω env σ H E k rel fr hf kr
  obtain ⟨a, e0, hf⟩ := hf
  obtain ⟨v, hv, ho⟩ := rel.cell i _ (getC_some e0)
  have hv' : v = .int a := by
    have h' : Rp K ω H v (.int a) := ho
    cases h'; rfl
  subst hv'
  refine ⟨.int a, hv, ?_⟩
  refine ha ω 0 env σ H _ _ rel fr hf fun y H1 ω1 e1 r rel1 st1 fr1 rr1 h1 => ?_
  obtain ⟨b, eb, hk⟩ := atInt_ex h1
  refine ⟨a, b, rfl, rr1.int_ rel1 eb, ?_⟩
  exact kr.nx _ H1 (gc 0 ω1) _ ((rel1.gc 0).put (c := sh (.int (op a b))) (Rp.int _)) (st1.gc fr) gc_free (Keep.set hi) hk
end
section
variable {X : Cx} {io : Nat → Bool} {e : Expr} {fa : FE} {x : Str} {pos' pos : Pos}
theorem ss_augAdd (i : Nat) (hN : X.N.Nodup) (ha : SE X e fa) (hi : X.N[i]? = some x := by rfl) (hx : Loc X.env.scope x := by first | exact Or.inl rfl | exact Or.inr rfl) (hio : io i = false := by decide)
    (hf : X.fn x = true ∨ X.env.scope.names.lookup x = some .local := by first | exact .inl rfl | exact .inr rfl | assumption) : SSt X io (.AugAssign (.Name x pos') .Add e pos) (fAug i (fun a b => a + b) fa) := by
  obtain ⟨t, q, s⟩ := ha.ex
  exact ⟨_, ps_aug hN hi hx q ip_add hf, snd_aug s hio⟩
theorem ss_augSub (i : Nat) (hN : X.N.Nodup) (ha : SE X e fa) (hi : X.N[i]? = some x := by rfl) (hx : Loc X.env.scope x := by first | exact Or.inl rfl | exact Or.inr rfl) (hio : io i = false := by decide)
    (hf : X.fn x = true ∨ X.env.scope.names.lookup x = some .local := by first | exact .inl rfl | exact .inr rfl | assumption) : SSt X io (.AugAssign (.Name x pos') .Sub e pos) (fAug i (fun a b => a - b) fa) := by
  obtain ⟨t, q, s⟩ := ha.ex
  exact ⟨_, ps_aug hN hi hx q ip_sub hf, snd_aug s hio⟩
end

/-! ### targets -/
abbrev FG := D → Env → Option Env
abbrev FGs := List D → Env → Option Env
def SndG (K : Fg) (io : Nat → Bool) (t : TG) (g : FG) : Prop := ∀ (v : V) (d : D) (ω : Om) (env : Env) (σ : Sg) (H : Hp) (env' : Env) (Q : Sg → Hp → Prop), Rel K ω env σ H → Rp K ω H v d → g d env = some env' → (∀ σ', Rel K ω env' σ' H → Keep io σ σ' → Q σ' H) → t v σ H Q
def SndGs (K : Fg) (io : Nat → Bool) (t : TGs) (g : FGs) : Prop := ∀ (vs : List V) (ds : List D) (ω : Om) (env : Env) (σ : Sg) (H : Hp) (env' : Env) (Q : Sg → Hp → Prop), Rel K ω env σ H → RpAll K ω H vs ds → g ds env = some env' → (∀ σ', Rel K ω env' σ' H → Keep io σ σ' → Q σ' H) → t vs σ H Q
structure SG (X : Cx) (io : Nat → Bool) (tg : Expr) (g : FG) : Prop where
  ex : ∃ t : TG, PG X tg t ∧ SndG X.K io t g
structure SGs (X : Cx) (io : Nat → Bool) (tgs : List Expr) (g : FGs) : Prop where
  ex : ∃ t : TGs, PGs X tgs t ∧ SndGs X.K io t g
def gN (i : Nat) : FG := fun d e => some (e.set i (some (sh d)))
def gsNil : FGs := fun ds e => match ds with
  | [] => some e
  | _ => none
def gsCons (g : FG) (gs : FGs) : FGs := fun ds e => match ds with
  | d :: r => match g d e with
    | some e' => gs r e'
    | none => none
  | _ => none
@[irreducible] def unpk (n : Nat) (gs : FGs) (d : D) (e : Env) : Option Env := match d with
  | .tuple ds => if ds.length = n then gs ds e else none
  | .list ds => if ds.length = n then gs ds e else none
  | _ => none
theorem unpk_t {n : Nat} {gs : FGs} {ds : List D} {e : Env} : unpk n gs (.tuple ds) e = if ds.length = n then gs ds e else none := by unfold unpk; rfl
theorem unpk_l {n : Nat} {gs : FGs} {ds : List D} {e : Env} : unpk n gs (.list ds) e = if ds.length = n then gs ds e else none := by unfold unpk; rfl
def gT (n : Nat) (gs : FGs) : FG := fun d e => unpk n gs d e
section
variable {X : Cx} {io : Nat → Bool} {pos : Pos}
theorem PG.or {tg : Expr} {t t' : TG} (h : PG X tg t) (h' : PG X tg t') : PG X tg (fun v σ H Q => t v σ H Q ∨ t' v σ H Q) :=
  ⟨fun pins s σ H v u Q I r w => w.elim (h.run pins s σ H v u Q I r) (h'.run pins s σ H v u Q I r)⟩
theorem sg_name (i : Nat) {x : Str} (hN : X.N.Nodup) (hi : X.N[i]? = some x := by rfl) (hx : Loc X.env.scope x := by first | exact Or.inl rfl | exact Or.inr rfl) (hio : io i = false := by decide)
    (hf : X.fn x = true ∨ X.env.scope.names.lookup x = some .local := by first | exact .inl rfl | exact .inr rfl | assumption) : SG X io (.Name x pos) (gN i) := by
  refine ⟨_, pg_name hN hi hx hf, fun v d ω env σ H env' Q rel rp he q => ?_⟩
  cases he
  exact q _ (rel.put (c := sh d) rp) (Keep.set hio)
theorem sgs_nil : SGs X io [] gsNil := by
  refine ⟨_, pgs_nil, fun vs ds ω env σ H env' Q rel rp he q => ?_⟩
  cases rp with
  | nil => cases he; exact ⟨rfl, q σ rel Keep.refl⟩
  | cons _ _ => cases he
theorem sgs_cons {e : Expr} {es : List Expr} {g : FG} {gs : FGs} (h1 : SG X io e g) (h2 : SGs X io es gs)
    (hs : (assignEach (e :: es) X.env).map (·.2) = assign e X.env :: (assignEach es X.env).map (·.2) := by rfl) : SGs X io (e :: es) (gsCons g gs) := by
  obtain ⟨t, p, s⟩ := h1.ex
  obtain ⟨u, p', s'⟩ := h2.ex
  refine ⟨_, pgs_cons p p' hs, fun vs ds ω env σ H env' Q rel rp he q => ?_⟩
  cases rp with
  | nil => cases he
  | cons r1 r2 =>
    rename_i v vs d ds
    have he' : (match g d env with | some e' => gs ds e' | none => none) = some env' := he
    cases hg : g d env with
    | none => rw [hg] at he'; cases he'
    | some e1 =>
      rw [hg] at he'
      refine ⟨v, vs, rfl, s v d ω env σ H e1 _ rel r1 hg fun σ1 rel1 k1 => ?_⟩
      exact s' vs ds ω e1 σ1 H env' Q rel1 r2 he' fun σ2 rel2 k2 => q σ2 rel2 (k1.trans k2)
theorem sg_tup {es : List Expr} {k n : Nat} {gs : FGs} (hc : X.calm = true) (h : SGs X io es gs)
    (hn : (assignEach es X.env).length = n := by rfl) (hst : (assignEach es X.env).findIdx? (·.1) = none := by rfl) : SG X io (.Tuple es k pos) (gT n gs) := by
  obtain ⟨t, p, s⟩ := h.ex
  refine ⟨_, PG.or (pg_tup hc p hn hst) (pg_unl hc p hn hst), fun v d ω env σ H env' Q rel rp he q => ?_⟩
  unfold gT unpk at he
  cases d <;> first
    | (cases he; done)
    | skip
  · rename_i ds
    have he' : (if ds.length = n then gs ds env else none) = some env' := he
    by_cases hl : ds.length = n
    · rw [if_pos hl] at he'
      cases rp with
      | lst hs ha => exact .inr ⟨_, _, rfl, hs.seq, by rw [ha.length]; exact hl, s _ _ ω env σ H env' Q rel ha he' q⟩
    · rw [if_neg hl] at he'; cases he'
  · rename_i ds
    have he' : (if ds.length = n then gs ds env else none) = some env' := he
    by_cases hl : ds.length = n
    · rw [if_pos hl] at he'
      obtain ⟨a, vs, rfl, hs, ha⟩ := rp.tup_
      exact .inl ⟨_, _, rfl, hs, by rw [ha.length]; exact hl, s _ _ ω env σ H env' Q rel ha he' q⟩
    · rw [if_neg hl] at he'; cases he'
end
/-- targets = e -/
def toEnv (P : Env → Prop) : Option Env → Prop
  | some e => P e
  | none => False
def fUnp (g : FG) (fa : FE) : FS := fun env k => fa env fun r e => noB [r] ∧ toEnv k.nx (g r.d e)
theorem unpk_tE {P : Env → Prop} {n : Nat} {gs : FGs} {ds : List D} {e : Env} (h : toEnv P (if ds.length = n then gs ds e else none)) : toEnv P (unpk n gs (.tuple ds) e) := by rw [unpk_t]; exact h
theorem unpk_lE {P : Env → Prop} {n : Nat} {gs : FGs} {ds : List D} {e : Env} (h : toEnv P (if ds.length = n then gs ds e else none)) : toEnv P (unpk n gs (.list ds) e) := by rw [unpk_l]; exact h
section
variable {X : Cx} {io : Nat → Bool} {tg e : Expr} {g : FG} {fa : FE} {pos : Pos}
theorem toEnv_ex {P : Env → Prop} {o : Option Env} (h : toEnv P o) : ∃ e, o = some e ∧ P e := by
  cases o with
  | none => exact h.elim
  | some e => exact ⟨e, rfl, h⟩
theorem ss_unp (ha : SE X e fa) (hg : SG X io tg g) (hs : swapsWithSole [tg] e pos.line X.env = pure false := by rfl) (hw : swappedStores [tg] e X.env = pure none := by rfl)
    (h1 : (assignEach [tg] X.env).map (·.2) = [assign tg X.env] := by rfl) : SSt X io (.Assign [tg] e pos) (fUnp g fa) := by
  obtain ⟨t, p, s⟩ := ha.ex
  obtain ⟨u, p', s'⟩ := hg.ex
  refine ⟨_, ps_asg p p' hs hw h1, fun ω env σ H E k rel fr hf kr => ?_⟩
  refine s ω 0 env σ H _ _ rel fr hf fun v H1 ω1 e1 r rel1 st1 fr1 rr1 h1 => ?_
  obtain ⟨nb, h1⟩ := h1
  obtain ⟨e2, he, hk⟩ := toEnv_ex h1
  cases r with
  | b _ _ _ => exact nb.elim
  | v n d =>
    have rp : Rp X.K (gc 0 ω1) H1 v d := rr1.gc rel1 (Nat.le_refl _)
    exact s' v d (gc 0 ω1) e1 σ H1 e2 _ (rel1.gc 0) rp he fun σ2 rel2 k2 => kr.nx σ2 H1 (gc 0 ω1) e2 rel2 (st1.gc fr) gc_free k2 hk
end

/-! ### what is walked -/
def sameAt (r : Res) (σ σ1 : Sg) : Prop := match r with
  | .v _ _ => True
  | .b i _ _ => σ1[i]? = σ[i]?
def Iters (K : Fg) (σ : Sg) (ω : Om) (H : Hp) (J : It) (r : Res) (items : List D) : Prop := ∀ (ω1 : Om) (H1 : Hp) (env1 : Env) (σ1 : Sg), Rel K ω1 env1 σ1 H1 → Sh ω H ω1 H1 → okb env1 r → sameAt r σ σ1 → ∀ i : Nat,
  (∀ d, items[i]? = some d → J.go i H1 ∧ ∀ x H2, J.yld i H1 x H2 → ∃ ω2, Grow ω1 H1 ω2 H2 ∧ (∀ T, Free ω1 T → Free ω2 T) ∧ Rp K ω2 H2 x d) ∧ (items.length ≤ i → J.stop i H1)
abbrev FI := Env → (Res → List D → Env → Prop) → Prop
def SndI (K : Fg) (wi : TI) (f : FI) : Prop := ∀ (ω : Om) (T : Nat) (env : Env) (σ : Sg) (H : Hp) (R : Res → List D → Env → Prop) (Q : It → Hp → Prop), Rel K ω env σ H → Free ω T → f env R →
  (∀ J H' ω' env' r items, Rel K ω' env' σ H' → Step ω H ω' H' → Free ω' T → Iters K σ ω' H' J r items → okb env' r → R r items env' → Q J H') → wi σ H Q
structure SI (X : Cx) (tg iter : Expr) (f : FI) : Prop where
  ex : ∃ wi : TI, PI X tg iter wi ∧ SndI X.K wi f
/-- a list or a tuple -/
def overSeq (r : Res) (P : Res → List D → Prop) : D → Prop
  | .list ds => flat r ∧ P r ds
  | .tuple ds => P (.v 0 .none) ds
  | _ => False
def fSeqI (fa : FE) : FI := fun env R => fa env fun r e => ovr (overSeq r fun r' ds => R r' ds e) r.d
/-- range -/
def rngD (lo hi : Int) : List D := (List.range (hi - lo).toNat).map fun i => PyData.int (lo + (i : Nat))
def fRange1 (fa : FA) : FI := fun env R => fa env fun rs e => match rs with
  | [r] => atInt (fun n => (-(2 ^ 62) ≤ n ∧ n < 2 ^ 62) ∧ R (.v 0 .none) (rngD 0 n) e) r.d
  | _ => False
def fRange2 (fa : FA) : FI := fun env R => fa env fun rs e => match rs with
  | [r, r'] => atInt (fun m => atInt (fun n => (-(2 ^ 62) ≤ m ∧ m < 2 ^ 62 ∧ -(2 ^ 62) ≤ n ∧ n < 2 ^ 62) ∧ R (.v 0 .none) (rngD m n) e) r'.d) r.d
  | _ => False
section
variable {X : Cx} {K : Fg} {σ : Sg} {ω : Om} {H : Hp}
theorem PI.or {tg iter : Expr} {w1 w2 : TI} (h : PI X tg iter w1) (h' : PI X tg iter w2) : PI X tg iter (fun σ H R => w1 σ H R ∨ w2 σ H R) :=
  ⟨fun pins s σ H R I w => w.elim (h.run pins s σ H R I) (h'.run pins s σ H R I)⟩
theorem iters_list {a : Addr} {vs : List V} {ds : List D} (h : H a = some (.lst vs)) (ho : ω a = .shr) (hp : RpAll K ω H vs ds) {k : Nat} {d : D} : Iters K σ ω H (Itl K a) (.v k d) ds := by
  intro ω1 H1 env1 σ1 rel g _ _ i
  obtain ⟨h1, _⟩ := g a _ h ho
  have hs : SqL K H1 a vs := .inl (.inl h1)
  have hp1 := RpAll.sh g _ _ hp
  refine ⟨fun c hc => ?_, fun hl => ⟨vs, hs, by rw [hp.length]; exact hl⟩⟩
  obtain ⟨v, hv, rv⟩ := hp1.at_ hc
  refine ⟨⟨vs, v, hs, hv⟩, fun x H2 y => ?_⟩
  obtain ⟨y1, y2⟩ := y
  subst y1
  have e := y2 vs hs
  rw [hv] at e
  cases e
  exact ⟨ω1, Grow.refl, fun _ f => f, rv⟩
theorem iters_tup {a : Addr} {vs : List V} {ds : List D} (h : SU K ω H a vs) (hp : RpAll K ω H vs ds) {k : Nat} {d : D} : Iters K σ ω H (Itt K a) (.v k d) ds := by
  intro ω1 H1 env1 σ1 rel g _ _ i
  have hs : SqT K H1 a vs := (h.sh g).seq
  have hp1 := RpAll.sh g _ _ hp
  refine ⟨fun c hc => ?_, fun hl => ⟨vs, hs, by rw [hp.length]; exact hl⟩⟩
  obtain ⟨v, hv, rv⟩ := hp1.at_ hc
  refine ⟨⟨vs, v, hs, hv⟩, fun x H2 y => ?_⟩
  obtain ⟨y1, y2⟩ := y
  subst y1
  have e := y2 vs hs
  rw [hv] at e
  cases e
  exact ⟨ω1, Grow.refl, fun _ f => f, rv⟩
theorem iters_own {i0 k : Nat} {a : Addr} {ds : List D} (hσ : σ[i0]? = some (some (.ref a))) (hk : k ≤ 1) : Iters K σ ω H (Itl K a) (.b i0 k (.list ds)) ds := by
  intro ω1 H1 env1 σ1 rel g hb hs i
  obtain ⟨v, hv, ho⟩ := rel.cell i0 _ hb
  have ev : v = .ref a := by
    have e : σ1[i0]? = σ[i0]? := hs
    rw [hv, hσ] at e
    exact Option.some.inj (Option.some.inj e)
  subst ev
  obtain ⟨a', vs, e1, h1, hp1⟩ : ∃ a' vs, V.ref a = .ref a' ∧ H1 a' = some (.lst vs) ∧ RpAll K ω1 H1 vs ds := Vw.lst (r := .b i0 k (.list ds)) ho hk rfl
  cases e1
  have hs : SqL K H1 a vs := .inl (.inl h1)
  refine ⟨fun c hc => ?_, fun hl => ⟨vs, hs, by rw [hp1.length]; exact hl⟩⟩
  obtain ⟨v, hv, rv⟩ := hp1.at_ hc
  refine ⟨⟨vs, v, hs, hv⟩, fun x H2 y => ?_⟩
  obtain ⟨y1, y2⟩ := y
  subst y1
  have e := y2 vs hs
  rw [hv] at e
  cases e
  exact ⟨ω1, Grow.refl, fun _ f => f, rv⟩
theorem iters_rng {lo hi : Int} {k : Nat} {d : D} : Iters K σ ω H (Itr lo (hi - lo).toNat) (.v k d) (rngD lo hi) := by
  intro ω1 H1 env1 σ1 rel g _ _ i
  refine ⟨fun c hc => ?_, fun hl => by
    show (hi - lo).toNat ≤ i
    unfold rngD at hl
    rw [List.length_map, List.length_range] at hl
    exact hl⟩
  unfold rngD at hc
  rw [List.getElem?_map] at hc
  cases hr : (List.range (hi - lo).toNat)[i]? with
  | none => rw [hr] at hc; cases hc
  | some j =>
    obtain ⟨hlt, ej⟩ := List.getElem?_eq_some_iff.mp hr
    rw [List.getElem_range] at ej
    subst ej
    rw [hr] at hc
    cases hc
    rw [List.length_range] at hlt
    refine ⟨hlt, fun x H2 y => ?_⟩
    obtain ⟨y1, y2⟩ := y
    subst y1 y2
    exact ⟨ω1, Grow.refl, fun _ f => f, .int _⟩
def iSeqA (K : Fg) (tl : TE) : TI := fun σ H R => tl σ H fun x H1 => (∃ a, x = .ref a ∧ (∃ xs, SqL K H1 a xs) ∧ R (Itl K a) H1) ∨ (∃ a, x = .ref a ∧ (∃ xs, SqT K H1 a xs) ∧ R (Itt K a) H1)
theorem pi_seqA {tg l : Expr} {tl : TE} (hl : PE X l tl) : PI X tg l (iSeqA X.K tl) := by
  refine ⟨fun pins s σ H R I h => ?_⟩
  refine thn (hl.run pins s σ H _ I h) fun v s1 ⟨x, H1, I1, r1, q1⟩ => ?_
  rcases q1 with q1 | q1
  · obtain ⟨a, e, ⟨xs, hq⟩, q⟩ := q1
    subst e
    cases r1
    obtain ⟨its, rv, p, hz⟩ := I1.list hq
    refine wpAny_pyIter_list p.isList ?_
    refine ⟨s1.heap.objs.size, [s1.heap.objs.size], _, _, H1, rfl, I1.kept (t' := s1.toks) fun b o e => Heap.get?_push_of_some _ e, turn_list a _, ⟨_, Heap.get?_push_size _ rfl, rfl, rfl⟩, fun b hb => ?_, q⟩
    have e : b = s1.heap.objs.size := by simpa using hb
    subst e
    exact I1.fpOk (Nat.le_refl _) (I1.hok.fresh (Nat.le_refl _))
  · obtain ⟨a, e, ⟨xs, hq⟩, q⟩ := q1
    subst e
    cases r1
    obtain ⟨its, rv, p, hz⟩ := I1.tuple hq
    refine wpAny_pyIter_tuple (show s1.heap.IsTuple a its.toArray from p) ?_
    refine ⟨s1.heap.objs.size, [s1.heap.objs.size], _, _, H1, rfl, I1.kept (t' := s1.toks) fun b o e => Heap.get?_push_of_some _ e, turn_tuple a _, ⟨_, Heap.get?_push_size _ rfl, rfl, rfl⟩, fun b hb => ?_, q⟩
    have e : b = s1.heap.objs.size := by simpa using hb
    subst e
    exact I1.fpOk (Nat.le_refl _) (I1.hok.fresh (Nat.le_refl _))
theorem okb_of {ω : Om} {H : Hp} {σ : Sg} {env : Env} {T : Nat} {v : V} {r : Res} (h : ResR K ω H σ env T v r) : okb env r := by
  cases r with
  | v k d => trivial
  | b i k d => exact h.1
theorem snd_seqI {t : TE} {fa : FE} (ha : SndE K t fa) : SndI K (iSeqA K t) (fSeqI fa) := by
  intro ω T env σ H R Q rel fr hR q
  refine ha ω T env σ H _ _ rel fr hR fun x H1 ω1 e1 r rel1 st1 fr1 rr1 h1 => ?_
  have vw := rr1.gc (T := T) rel1 (Nat.le_refl _)
  have ok := okb_of rr1
  have h1 := ovr_cl h1
  generalize ed : r.d = d at h1
  cases d <;> first
    | exact h1.elim
    | skip
  · rename_i ds
    obtain ⟨f, h1⟩ := h1
    cases r with
    | v k d' =>
      have ed' : d' = .list ds := ed
      subst ed'
      have rp : Rp K (gc T ω1) H1 x (.list ds) := vw
      cases rp with
      | lst hs hp => exact .inl ⟨_, rfl, ⟨_, hs.seq⟩, q _ H1 (gc T ω1) e1 _ ds (rel1.gc T) (st1.gc fr) gc_free (iters_list hs.1 hs.2 hp) ok h1⟩
    | b i k d' =>
      have ed' : d' = .list ds := ed
      subst ed'
      obtain ⟨a, vs, rfl, ha', hp⟩ := vw.lst f rfl
      exact .inl ⟨a, rfl, ⟨vs, .inl (.inl ha')⟩, q _ H1 (gc T ω1) e1 _ ds (rel1.gc T) (st1.gc fr) gc_free (iters_own rr1.2 f) ok h1⟩
  · rename_i ds
    have rp := vw.rpT ed
    cases rp with
    | tup hs hp => exact .inr ⟨_, rfl, ⟨_, hs.seq⟩, q _ H1 (gc T ω1) e1 (.v 0 .none) ds (rel1.gc T) (st1.gc fr) gc_free (iters_tup hs hp) trivial h1⟩
theorem si_seq {tg e : Expr} {fa : FE} (ha : SE X e fa) : SI X tg e (fSeqI fa) := by
  obtain ⟨t, p, s⟩ := ha.ex
  exact ⟨_, pi_seqA p, snd_seqI s⟩
theorem VwAll.one {vs : List V} {r : Res} (h : VwAll K ω H vs [r]) : ∃ v, vs = [v] ∧ Vw K ω H v r := by
  match vs, h with
  | [v], h => exact ⟨v, rfl, h.1⟩
theorem VwAll.two {vs : List V} {r r' : Res} (h : VwAll K ω H vs [r, r']) : ∃ v v', vs = [v, v'] ∧ Vw K ω H v r ∧ Vw K ω H v' r' := by
  match vs, h with
  | [v, v'], h => exact ⟨v, v', rfl, h.1, h.2.1⟩
theorem si_range1 {tg a : Expr} {fa : FA} {p pos : Pos} (hm : X.mg "range" = none) (ha : SA X [a] fa) (hg : Gl X "range" := by rfl) (hs : starEach [a] X.env = [(false, eval a X.env)] := by rfl) : SI X tg (.Call (.Name "range" p) [a] [] pos) (fRange1 fa) := by
  obtain ⟨t, p, s⟩ := ha.ex
  refine ⟨_, pi_range1 hg hm p hs, fun ω T env σ H R Q rel fr hR q => ?_⟩
  refine s ω T env σ H _ _ rel fr hR fun vs H1 ω1 e1 rs rel1 st1 fr1 rr1 h1 => ?_
  match rs, h1, rr1 with
  | [r], h1, rr1 =>
    obtain ⟨n, en, ⟨b1, b2⟩, hn⟩ := atInt_ex h1
    obtain ⟨v, rfl, hv⟩ := (rr1.gc (T0 := T) rel1 (Nat.le_refl _)).one
    refine ⟨n, by rw [hv.int en], b1, b2, ?_⟩
    have it : Iters X.K σ (gc T ω1) H1 (Itr 0 n.toNat) (.v 0 .none) (rngD 0 n) := by
      have := iters_rng (K := X.K) (σ := σ) (ω := gc T ω1) (H := H1) (lo := 0) (hi := n) (k := 0) (d := .none)
      rw [show (n - 0).toNat = n.toNat by rw [Int.sub_zero]] at this
      exact this
    exact q _ H1 (gc T ω1) e1 _ _ (rel1.gc T) (st1.gc fr) gc_free it trivial hn
theorem si_range2 {tg a b : Expr} {fa : FA} {p pos : Pos} (hm : X.mg "range" = none) (ha : SA X [a, b] fa) (hg : Gl X "range" := by rfl) (hs : starEach [a, b] X.env = [(false, eval a X.env), (false, eval b X.env)] := by rfl) (hs2 : starEach [b] X.env = [(false, eval b X.env)] := by rfl) : SI X tg (.Call (.Name "range" p) [a, b] [] pos) (fRange2 fa) := by
  obtain ⟨t, p, s⟩ := ha.ex
  refine ⟨_, pi_range2 hg hm p hs hs2, fun ω T env σ H R Q rel fr hR q => ?_⟩
  refine s ω T env σ H _ _ rel fr hR fun vs H1 ω1 e1 rs rel1 st1 fr1 rr1 h1 => ?_
  match rs, h1, rr1 with
  | [r, r'], h1, rr1 =>
    obtain ⟨m, em, h1⟩ := atInt_ex h1
    obtain ⟨n, en, bs, hn⟩ := atInt_ex h1
    obtain ⟨v, v', rfl, hv, hv'⟩ := (rr1.gc (T0 := T) rel1 (Nat.le_refl _)).two
    exact ⟨m, n, by rw [hv.int em, hv'.int en], bs, q _ H1 (gc T ω1) e1 (.v 0 .none) _ (rel1.gc T) (st1.gc fr) gc_free iters_rng trivial hn⟩
end

/-! ### for, while -/
def forGo (g : FG) (body : FS) (k : Kt) : List D → Env → Prop
  | [], e => k.nx e
  | d :: ds, e => toEnv (fun e1 => body e1 { k with nx := forGo g body k ds, ct := forGo g body k ds, bk := k.nx }) (g d e)
/-- a walk that is looked at as a whole -/
@[irreducible] def apF (P : List D → Env → Prop) (ds : List D) (e : Env) : Prop := P ds e
theorem apF_op {P : List D → Env → Prop} {ds : List D} {e : Env} (h : P ds e) : apF P ds e := by unfold apF; exact h
theorem apF_cl {P : List D → Env → Prop} {ds : List D} {e : Env} (h : apF P ds e) : P ds e := by unfold apF at h; exact h
theorem apF_eq {P : List D → Env → Prop} {ds : List D} {e : Env} : apF P ds e = P ds e := by unfold apF; rfl
@[irreducible] def apL (P : List D → List D → Env → Prop) (ds acc : List D) (e : Env) : Prop := P ds acc e
theorem apL_op {P : List D → List D → Env → Prop} {ds acc : List D} {e : Env} (h : P ds acc e) : apL P ds acc e := by unfold apL; exact h
theorem apL_cl {P : List D → List D → Env → Prop} {ds acc : List D} {e : Env} (h : apL P ds acc e) : P ds acc e := by unfold apL at h; exact h
theorem apL_eq {P : List D → List D → Env → Prop} {ds acc : List D} {e : Env} : apL P ds acc e = P ds acc e := by unfold apL; rfl
def fFor (fi : FI) (g : FG) (body : FS) : FS := fun env k => fi env fun r ds e => noB [r] ∧ apF (forGo g body k) ds e
def whGo (c : FT) (body : FS) (k : Kt) : Nat → Env → Prop
  | 0, _ => False
  | n + 1, e => c e fun b e' => match b with
    | true => body e' { k with nx := whGo c body k n, ct := whGo c body k n, bk := k.nx }
    | false => k.nx e'
def fWhile (c : FT) (body : FS) : FS := fun env k => ∃ n, whGo c body k n env
section
variable {K : Fg} {io : Nat → Bool}
theorem snd_for {wi : TI} {t : TG} {tb : TS} {fi : FI} {g : FG} {body : FS} (hi : SndI K wi fi) (hg : SndG K io t g) (hb : SndS K io tb body) : SndS K io (tFor wi t tb) (fFor fi g body) := by
  intro ω env σ H E k rel fr hf kr
  refine hi ω 0 env σ H _ _ rel fr hf fun J H1 ω1 e1 r items rel1 st1 fr1 it ok1 h1 => ?_
  obtain ⟨nb, h1⟩ := h1
  have h1 := apF_cl h1
  cases r with
  | b _ _ _ => exact nb.elim
  | v kk dd =>
    refine ⟨fun i m σ2 H2 => m = items.length - i ∧ i ≤ items.length ∧ ∃ ω2 e2, Rel K ω2 e2 σ2 H2 ∧ Step ω1 H1 ω2 H2 ∧ Free ω2 0 ∧ Keep io σ σ2 ∧ forGo g body k (items.drop i) e2,
      ⟨items.length, by simp, Nat.zero_le _, ω1, e1, rel1, Step.refl, fr1, Keep.refl, h1⟩, ?_⟩
    rintro i m σ2 H2 ⟨rfl, hil, ω2, e2, rel2, st2, fr2, kp2, h2⟩
    obtain ⟨go, stop⟩ := it ω2 H2 e2 σ2 rel2 st2.sh trivial trivial i
    by_cases hlt : i < items.length
    · refine .inr ?_
      have e0 : items[i]? = some items[i] := List.getElem?_eq_getElem hlt
      have ed : items.drop i = items[i] :: items.drop (i + 1) := List.drop_eq_getElem_cons hlt
      rw [ed] at h2
      obtain ⟨g1, g2⟩ := go _ e0
      refine ⟨g1, fun σ' H' => ∃ ω' e', Rel K ω' e' σ' H' ∧ Step ω1 H1 ω' H' ∧ Free ω' 0 ∧ Keep io σ σ' ∧ forGo g body k (items.drop (i + 1)) e', fun σ' H' ⟨ω', e', a1, a2, a3, a4, a5⟩ => ⟨items.length - (i + 1), by omega, rfl, hlt, ω', e', a1, a2, a3, a4, a5⟩, fun x H3 y => ?_⟩
      obtain ⟨ω3, gr, fr3, rp⟩ := g2 x H3 y
      obtain ⟨e3, he, hbody⟩ := toEnv_ex (P := fun e1 => body e1 { k with nx := forGo g body k (items.drop (i + 1)), ct := forGo g body k (items.drop (i + 1)), bk := k.nx }) h2
      refine hg x _ ω3 e2 σ2 H3 e3 _ (rel2.grow gr) rp he fun σ4 rel4 kp4 => ?_
      refine hb ω3 e3 σ4 H3 _ _ rel4 (fr3 0 fr2) hbody ⟨fun σ' H' ω' env' a b c d e => ?_, fun σ' H' ω' env' a b c d e => ?_, fun σ' H' ω' env' a b c d e => ?_, fun v σ' H' ω' env' r a b c d e f => ?_⟩
      · exact ⟨ω', env', a, (st2.grow gr).trans b, c, (kp2.trans kp4).trans d, e⟩
      · exact kr.nx σ' H' ω' env' a (st1.trans ((st2.grow gr).trans b)) c ((kp2.trans kp4).trans d) e
      · exact ⟨ω', env', a, (st2.grow gr).trans b, c, (kp2.trans kp4).trans d, e⟩
      · exact kr.rt v σ' H' ω' env' r a (st1.trans ((st2.grow gr).trans b)) c ((kp2.trans kp4).trans d) e f
    · have ei : i = items.length := by omega
      subst ei
      rw [List.drop_length] at h2
      exact .inl ⟨stop (Nat.le_refl _), kr.nx σ2 H2 ω2 e2 rel2 (st1.trans st2) fr2 kp2 h2⟩
theorem snd_while {c : TT} {tb : TS} {fc : FT} {body : FS} (hc : SndT K c fc) (hb : SndS K io tb body) : SndS K io (tWhile c tb) (fWhile fc body) := by
  intro ω env σ H E k rel fr hf kr
  obtain ⟨n, hf⟩ := hf
  refine ⟨fun m σ2 H2 => ∃ ω2 e2, Rel K ω2 e2 σ2 H2 ∧ Step ω H ω2 H2 ∧ Free ω2 0 ∧ Keep io σ σ2 ∧ whGo fc body k m e2, ⟨n, ω, env, rel, Step.refl, fr, Keep.refl, hf⟩, ?_⟩
  rintro m σ2 H2 ⟨ω2, e2, rel2, st2, fr2, kp2, h2⟩
  cases m with
  | zero => exact h2.elim
  | succ m =>
    refine hc ω2 0 e2 σ2 H2 _ _ rel2 fr2 h2 fun b H3 ω3 e3 rel3 st3 fr3 h3 => ?_
    cases b with
    | false => exact kr.nx σ2 H3 ω3 e3 rel3 (st2.trans st3) fr3 kp2 h3
    | true =>
      refine ⟨fun σ' H' => ∃ ω' e', Rel K ω' e' σ' H' ∧ Step ω H ω' H' ∧ Free ω' 0 ∧ Keep io σ σ' ∧ whGo fc body k m e', fun σ' H' h => ⟨m, Nat.lt_succ_self _, h⟩, ?_⟩
      refine hb ω3 e3 σ2 H3 _ _ rel3 fr3 h3 ⟨fun σ' H' ω' env' a b c d e => ?_, fun σ' H' ω' env' a b c d e => ?_, fun σ' H' ω' env' a b c d e => ?_, fun v σ' H' ω' env' r a b c d e f => ?_⟩
      · exact ⟨ω', env', a, (st2.trans st3).trans b, c, kp2.trans d, e⟩
      · exact kr.nx σ' H' ω' env' a ((st2.trans st3).trans b) c (kp2.trans d) e
      · exact ⟨ω', env', a, (st2.trans st3).trans b, c, kp2.trans d, e⟩
      · exact kr.rt v σ' H' ω' env' r a ((st2.trans st3).trans b) c (kp2.trans d) e f
end
section
variable {X : Cx} {io : Nat → Bool} {tg iter c : Expr} {body : List Stmt} {fi : FI} {g : FG} {fc : FT} {fb : FS} {pos : Pos}
theorem ss_for (hp : PassesOwn (model X.prog X.w) X.A X.env X.xe) (hc : X.calm = true) (hi : SI X tg iter fi) (hg : SG X io tg g) (hb : SSs X io body fb)
    (hs : ∀ x, foldedSetIterable iter X.env x = pure x := by intro _; rfl) : SSt X io (.For tg iter body [] pos) (fFor fi g fb) := by
  obtain ⟨w, p, s⟩ := hi.ex
  obtain ⟨t, p1, s1⟩ := hg.ex
  obtain ⟨u, p2, s2⟩ := hb.ex
  exact ⟨_, ps_for hp hc p p1 p2 hs, snd_for s s1 s2⟩
theorem ss_while (hp : PassesOwn (model X.prog X.w) X.A X.env X.xe) (hc : STs X c fc) (hb : SSs X io body fb) : SSt X io (.While c body [] pos) (fWhile fc fb) := by
  obtain ⟨t, p, s⟩ := hc.ex
  obtain ⟨u, p', s'⟩ := hb.ex
  exact ⟨_, ps_while hp p p', snd_while s s'⟩
end
end Pv

/-! Pv9: list comprehensions. -/
namespace Pv
open PySem PySem.Spec PyProof.Rows L2

/-! ### readings that lean on the data alone -/
def tOfE (K : Fg) (f : FE) : TE := fun σ H Q => ∃ (ω : Om) (T : Nat) (env : Env) (R : Res → Env → Prop), Rel K ω env σ H ∧ Free ω T ∧ f env R ∧
  ∀ v H' ω' env' r, Rel K ω' env' σ H' → Step ω H ω' H' → Free ω' (T + 1) → ResR K ω' H' σ env' T v r → R r env' → Q v H'
def tOfT (K : Fg) (f : FT) : TT := fun σ H Q => ∃ (ω : Om) (T : Nat) (env : Env) (R : Bool → Env → Prop), Rel K ω env σ H ∧ Free ω T ∧ f env R ∧
  ∀ b H' ω' env', Rel K ω' env' σ H' → Step ω H ω' H' → Free ω' T → R b env' → Q b H'
def tOfG (K : Fg) (pr : Nat → Bool) (g : FG) : TG := fun v σ H Q => ∃ (d : D) (ω : Om) (env env' : Env), Rel K ω env σ H ∧ Rp K ω H v d ∧ g d env = some env' ∧ ∀ σ', Rel K ω env' σ' H → Keep pr σ σ' → Q σ' H
section
variable {X : Cx} {K : Fg}
theorem SE.pe {e : Expr} {f : FE} (h : SE X e f) : PE X e (tOfE X.K f) := by
  obtain ⟨t, p, s⟩ := h.ex
  exact ⟨fun pins st σ H Q I ⟨ω, T, env, R, rel, fr, hf, q⟩ => p.run pins st σ H Q I (s ω T env σ H R Q rel fr hf q)⟩
theorem snd_ofE {f : FE} : SndE K (tOfE K f) f := fun ω T env σ H R Q rel fr hf q => ⟨ω, T, env, R, rel, fr, hf, q⟩
theorem STs.pt {e : Expr} {f : FT} (h : STs X e f) : PT X e (tOfT X.K f) := by
  obtain ⟨t, p, s⟩ := h.ex
  exact ⟨fun pins st σ H Q I ⟨ω, T, env, R, rel, fr, hf, q⟩ => p.run pins st σ H Q I (s ω T env σ H R Q rel fr hf q)⟩
theorem snd_ofT {f : FT} : SndT K (tOfT K f) f := fun ω T env σ H R Q rel fr hf q => ⟨ω, T, env, R, rel, fr, hf, q⟩
theorem SG.pg {pr : Nat → Bool} {e : Expr} {g : FG} (h : SG X pr e g) : PG X e (tOfG X.K pr g) := by
  obtain ⟨t, p, s⟩ := h.ex
  exact ⟨fun pins st σ H v u Q I r ⟨d, ω, env, env', rel, rp, he, q⟩ => p.run pins st σ H v u Q I r (s v d ω env σ H env' Q rel rp he q)⟩
theorem snd_ofG {pr : Nat → Bool} {g : FG} : SndG K pr (tOfG K pr g) g := fun v d ω env σ H env' Q rel rp he q => ⟨d, ω, env, env', rel, rp, he, q⟩
end
/-- a comprehension's tests -/
structure SFs (X : Cx) (ifs : List Expr) (f : FT) : Prop where
  ex : ∃ t : TT, PTs X ifs t ∧ SndT X.K t f
def fYes : FT := fun env R => R true env
section
variable {X : Cx}
theorem sf_nil : SFs X [] fYes := ⟨_, pts_nil, fun ω T env σ H R Q rel fr hf q => q true H ω env rel Step.refl fr hf⟩
theorem sf_one {c : Expr} {f : FT} (h : STs X c f) : SFs X [c] f := by
  obtain ⟨t, p, s⟩ := h.ex
  exact ⟨_, pts_one p, s⟩
theorem SFs.pt {ifs : List Expr} {f : FT} (h : SFs X ifs f) : PTs X ifs (tOfT X.K f) := by
  obtain ⟨t, p, s⟩ := h.ex
  exact ⟨fun pins st σ H Q I ⟨ω, T, env, R, rel, fr, hf, q⟩ => p.run pins st σ H Q I (s ω T env σ H R Q rel fr hf q)⟩
end

/-! ### [elt for target in iter if test] -/
def wipeE (env : Env) : List Nat → Env
  | [] => env
  | v :: vs => (wipeE env vs).set v none
/-- the block's own names as they stood ahead of it -/
def keepC : Option Cell → Option Cell
  | some ⟨0, d⟩ => some (sh d)
  | _ => none
def back (env0 : Env) (env : Env) : List Nat → Env
  | [] => env
  | v :: vs => (back env0 env vs).set v (keepC (getC env0 v))
def away (r : Res) (own : List Nat) : Bool := match r with
  | .v _ _ => true
  | .b i _ _ => !own.contains i
def lcGo (own : List Nat) (g : FG) (ft : FT) (fe : FE) (r : Res) (R : List D → Env → Prop) : List D → List D → Env → Prop
  | [], acc, env => okb env r ∧ R acc env
  | d :: ds, acc, env => okb env r ∧ toEnv (fun e1 => ft e1 fun b e2 => match b with
      | true => fe e2 fun ry e3 => noB [ry] ∧ acc.length < sizeLine ∧ lcGo own g ft fe r R ds (acc ++ [ry.d]) (wipeE e3 own)
      | false => lcGo own g ft fe r R ds acc (wipeE e2 own)) (g d env)
def fLc (own : List Nat) (fi : FI) (g : FG) (ft : FT) (fe : FE) : FE := fun env R => fi env fun r ds e1 => away r own = true ∧ apL (lcGo own g ft fe r fun acc e2 => R (.v 1 (.list acc)) (back e1 e2 own)) ds [] (wipeE e1 own)
section
variable {K : Fg} {ω : Om} {H : Hp} {env : Env} {σ : Sg}
theorem wipeE_length {env : Env} : ∀ vs : List Nat, (wipeE env vs).length = env.length
  | [] => rfl
  | v :: vs => by unfold wipeE; rw [List.length_set, wipeE_length vs]
theorem wipeE_some {env : Env} {i : Nat} {c : Cell} : ∀ {vs : List Nat}, (wipeE env vs)[i]? = some (some c) → env[i]? = some (some c) ∧ i ∉ vs
  | [], h => ⟨h, by simp⟩
  | v :: vs, h => by
    unfold wipeE at h
    by_cases e : v = i
    · subst e
      have hl : v < (wipeE env vs).length := by
        have := (List.getElem?_eq_some_iff.mp h).1
        rwa [List.length_set] at this
      rw [List.getElem?_set_self hl] at h
      cases h
    · rw [List.getElem?_set_ne e] at h
      obtain ⟨h1, h2⟩ := wipeE_some h
      exact ⟨h1, by simp [h2, Ne.symm e]⟩
theorem wipe_get {σ : Sg} {i : Nat} : ∀ {vs : List Nat}, i ∉ vs → (wipe σ vs)[i]? = σ[i]?
  | [], _ => rfl
  | v :: vs, h => by
    unfold wipe
    have h1 : v ≠ i := fun e => h (by simp [e])
    rw [List.getElem?_set_ne h1]
    exact wipe_get fun z => h (by simp [z])
theorem wipe_none {σ : Sg} {i : Nat} : ∀ {vs : List Nat}, i ∈ vs → i < σ.length → (wipe σ vs)[i]? = some none
  | [], h, _ => by simp at h
  | v :: vs, h, hl => by
    unfold wipe
    by_cases e : v = i
    · subst e
      rw [List.getElem?_set_self (by rw [wipe_length]; exact hl)]
    · rw [List.getElem?_set_ne e]
      rcases List.mem_cons.mp h with z | z
      · exact absurd z.symm e
      · exact wipe_none z hl
theorem wipe_eq {σ σ' : Sg} {vs : List Nat} (hl : σ'.length = σ.length) (hk : ∀ i, i ∉ vs → σ'[i]? = σ[i]?) : wipe σ' vs = wipe σ vs := by
  apply List.ext_getElem?
  intro i
  by_cases hi : i ∈ vs
  · by_cases hlt : i < σ.length
    · rw [wipe_none hi (by rw [hl]; exact hlt), wipe_none hi hlt]
    · rw [List.getElem?_eq_none (by rw [wipe_length, hl]; omega), List.getElem?_eq_none (by rw [wipe_length]; omega)]
  · rw [wipe_get hi, wipe_get hi, hk i hi]
theorem wipe_wipe {σ : Sg} {vs : List Nat} : wipe (wipe σ vs) vs = wipe σ vs := wipe_eq (wipe_length _ _) fun i hi => wipe_get hi
theorem Rel.wipe (rel : Rel K ω env σ H) (vs : List Nat) : Rel K ω (wipeE env vs) (L2.wipe σ vs) H := by
  refine ⟨by rw [wipeE_length, wipe_length]; exact rel.len, fun i c e => ?_⟩
  obtain ⟨h1, h2⟩ := wipeE_some e
  obtain ⟨v, hv, ho⟩ := rel.cell i c h1
  exact ⟨v, by rw [wipe_get h2]; exact hv, ho⟩
theorem Rel.wipe' {σ0 : Sg} (rel : Rel K ω env σ H) {vs : List Nat} (h : L2.wipe σ vs = L2.wipe σ0 vs) : Rel K ω (wipeE env vs) (L2.wipe σ0 vs) H := by
  rw [← h]
  exact rel.wipe vs
/-- behind the block -/
theorem Rel.back {ω0 : Om} {H0 : Hp} {env0 : Env} (rel0 : Rel K ω0 env0 σ H0) (st : Step ω0 H0 ω H) {own : List Nat} (rel : Rel K ω env (L2.wipe σ own) H) : ∀ {vs : List Nat}, (∀ i ∈ vs, i ∈ own) → Rel K ω (Pv.back env0 env vs) σ H
  | [], _ => by
    refine ⟨by rw [show Pv.back env0 env [] = env from rfl, ← rel.len, wipe_length], fun i c e => ?_⟩
    obtain ⟨v, hv, ho⟩ := rel.cell i c e
    exact ⟨v, (wipe_some hv).1, ho⟩
  | v :: vs, h => by
    have ih := Rel.back rel0 st rel (vs := vs) fun i hi => h i (by simp [hi])
    unfold Pv.back
    have drop : Rel K ω ((Pv.back env0 env vs).set v none) σ H := ⟨by rw [List.length_set]; exact ih.len, fun i c e => by
      by_cases ej : v = i
      · subst ej
        by_cases hl : v < (Pv.back env0 env vs).length
        · rw [List.getElem?_set_self hl] at e; cases e
        · rw [List.getElem?_eq_none (by rw [List.length_set]; omega)] at e; cases e
      · rw [List.getElem?_set_ne ej] at e; exact ih.cell i c e⟩
    cases hc : getC env0 v with
    | none => exact drop
    | some c =>
      obtain ⟨k, d⟩ := c
      cases k with
      | succ k => exact drop
      | zero =>
        obtain ⟨u, hu, ho⟩ := rel0.cell v _ (getC_some hc)
        have rp : Rp K ω H u d := Rp.sh st.sh _ _ ho
        have := ih.put (i := v) (v := u) (c := sh d) rp
        have e : σ.set v (some u) = σ := by
          apply List.ext_getElem?
          intro j
          by_cases ej : v = j
          · subst ej
            have hl : v < σ.length := (List.getElem?_eq_some_iff.mp hu).1
            rw [List.getElem?_set_self hl, hu]
          · rw [List.getElem?_set_ne ej]
        rw [e] at this
        exact this
theorem snd_lc {wi : TI} {fi : FI} {g : FG} {ft : FT} {fe : FE} {own : List Nat} (hi : SndI K wi fi) : SndE K (tLc wi (tOfG K (fun j => !own.contains j) g) (tOfT K ft) (tOfE K fe) own) (fLc own fi g ft fe) := by
  intro ω T env σ H R Q rel fr hR q
  refine hi ω T env σ H _ _ rel fr hR fun J H1 ω1 e1 r items rel1 st1 fr1 it ok1 h1 => ?_
  obtain ⟨haw, h1⟩ := h1
  have h1 := apL_cl h1
  intro D hD
  have sameR : ∀ σ1 : Sg, (∀ i, i ∉ own → σ1[i]? = σ[i]?) → sameAt r σ σ1 := fun σ1 hs => by
    cases r with
    | v _ _ => trivial
    | b i _ _ =>
      refine hs i fun z => ?_
      have haw' : (!own.contains i) = true := haw
      rw [List.contains_iff_mem.mpr z] at haw'
      cases haw'
  have g0 : Grow ω1 H1 (putO D (.tmp T []) ω1) (upd H1 D (.lst [])) := put_grow hD
  refine ⟨fun i m H' => m = items.length - i ∧ i ≤ items.length ∧ ∃ (ω' : Om) (env' : Env) (acc : List V) (accd : List PyData), Rel K ω' env' (L2.wipe σ own) H' ∧ Step ω1 H1 ω' H' ∧ Free ω' (T + 1) ∧ H' D = some (.lst acc) ∧ ω' D = .tmp T [] ∧ RpAll K ω' H' acc accd ∧
      lcGo own g ft fe r (fun acc e2 => R (.v 1 (.list acc)) (Pv.back e1 e2 own)) (items.drop i) accd env',
    ⟨items.length, by simp, Nat.zero_le _, putO D (.tmp T []) ω1, wipeE e1 own, [], [], (rel1.grow g0).wipe own, g0.step, put_free fr1, upd_same, putO_same, .nil, h1⟩, ?_⟩
  rintro i m H2 ⟨rfl, hil, ω2, e2, acc, accd, rel2, st2, fr2, hD2, oD2, rp2, h2⟩
  by_cases hlt : i < items.length
  · have ed : items.drop i = items[i] :: items.drop (i + 1) := List.drop_eq_getElem_cons hlt
    rw [ed] at h2
    obtain ⟨okr, h2⟩ := h2
    obtain ⟨go, _⟩ := it ω2 H2 e2 (L2.wipe σ own) rel2 st2.sh okr (sameR _ fun i hi => wipe_get hi) i
    obtain ⟨g1, g2⟩ := go _ (List.getElem?_eq_getElem hlt)
    refine .inr ⟨g1, fun H' => ∃ (ω' : Om) (env' : Env) (acc : List V) (accd : List PyData), Rel K ω' env' (L2.wipe σ own) H' ∧ Step ω1 H1 ω' H' ∧ Free ω' (T + 1) ∧ H' D = some (.lst acc) ∧ ω' D = .tmp T [] ∧ RpAll K ω' H' acc accd ∧
      lcGo own g ft fe r (fun acc e2 => R (.v 1 (.list acc)) (Pv.back e1 e2 own)) (items.drop (i + 1)) accd env', fun H' h => ⟨items.length - (i + 1), by omega, rfl, hlt, h⟩, fun x H3 y => ?_⟩
    obtain ⟨ω3, gr, fr3, rpx⟩ := g2 x H3 y
    obtain ⟨e3, he, h3⟩ := toEnv_ex h2
    have D3 : H3 D = some (.lst acc) ∧ ω3 D = .tmp T [] := by
      obtain ⟨a, b⟩ := gr D _ hD2
      exact ⟨a, b.trans oD2⟩
    refine ⟨_, ω3, e2, e3, rel2.grow gr, rpx, he, fun σ4 rel4 kp4 => ?_⟩
    have wp4 : L2.wipe σ4 own = L2.wipe σ own := by
      refine (wipe_eq (σ := L2.wipe σ own) kp4.1 fun j hj => ?_).trans wipe_wipe
      exact kp4.2 j (by
        show (!own.contains j) = true
        cases z : own.contains j with
        | false => rfl
        | true => exact absurd (List.contains_iff_mem.mp z) hj)
    refine ⟨wp4, ω3, T + 1, e3, _, rel4, fr3 _ fr2, h3, fun b H5 ω5 e5 rel5 st5 fr5 h5 => ?_⟩
    have D5 : H5 D = some (.lst acc) ∧ ω5 D = .tmp T [] := by
      rcases st5 D _ D3.1 with ⟨_, _, z⟩ | ⟨z1, z2⟩
      · rw [D3.2] at z; cases z
      · exact ⟨z1, z2.trans D3.2⟩
    cases b with
    | false =>
      show ∃ _, _
      exact ⟨ω5, wipeE e5 own, acc, accd, by rw [← wp4]; exact rel5.wipe own, (st2.grow gr).trans st5, fr5, D5.1, D5.2, RpAll.sh st5.sh _ _ (RpAll.sh gr.step.sh _ _ rp2), h5⟩
    | true =>
      show tOfE K fe σ4 H5 _
      refine ⟨ω5, T + 1, e5, _, rel5, fr5, h5, fun yv H6 ω6 e6 ry rel6 st6 fr6 rr6 h6 => ?_⟩
      obtain ⟨nb, hlen, h6⟩ := h6
      have D6 : H6 D = some (.lst acc) ∧ ω6 D = .tmp T [] := by
        rcases st6 D _ D5.1 with ⟨_, _, z⟩ | ⟨z1, z2⟩
        · rw [D5.2] at z; cases z
        · exact ⟨z1, z2.trans D5.2⟩
      have rp6 : RpAll K ω6 H6 acc accd := RpAll.sh st6.sh _ _ (RpAll.sh st5.sh _ _ (RpAll.sh gr.step.sh _ _ rp2))
      refine ⟨acc, D6.1, by rw [rp6.length]; exact hlen, ?_⟩
      have ry6 : Rp K (gc (T + 1) ω6) H6 yv ry.d := by
        cases ry with
        | b _ _ _ => exact nb.elim
        | v kk dd => exact ResR.gc (env := e6) (r := .v kk dd) rr6 rel6 (Nat.le_refl _)
      have oD : gc (T + 1) ω6 D = .tmp T [] := by
        show gcO (T + 1) (ω6 D) = _
        rw [D6.2]
        show (if T + 1 ≤ T then Ow.shr else .tmp T []) = _
        rw [if_neg (by omega)]
      have shD : Sh (gc (T + 1) ω6) H6 (gc (T + 1) ω6) (upd H6 D (.lst (acc ++ [yv]))) := sh_upd (by rw [oD]; exact fun z => by cases z)
      refine ⟨gc (T + 1) ω6, wipeE e6 own, acc ++ [yv], accd ++ [ry.d], ?_, ?_, gc_free, upd_same, oD, RpAll.sh shD _ _ ((RpAll.sh gc_sh _ _ rp6).append (.cons ry6 .nil)), h6⟩
      · -- the slots' own objects are not the new list
        have rw6 : Rel K (gc (T + 1) ω6) (wipeE e6 own) (L2.wipe σ own) H6 := by rw [← wp4]; exact (rel6.gc (T + 1)).wipe own
        refine ⟨rw6.len, fun n c e => ?_⟩
        obtain ⟨v', hv, ho⟩ := rw6.cell n c e
        refine ⟨v', hv, OwR.go shD (fun a u p z1 z2 => ⟨?_, z2⟩) _ _ _ _ ho⟩
        have ne : a ≠ D := fun z => by subst z; rw [oD] at z2; cases z2
        rw [upd_ne ne]; exact z1
      · intro a o ha
        have st : Step ω1 H1 (gc (T + 1) ω6) H6 := (((st2.grow gr).trans st5).trans st6).gc (fun a t p e => Nat.lt_succ_of_lt (fr1 a t p e))
        rcases st a o ha with z | ⟨z1, z2⟩
        · exact .inl z
        · refine .inr ⟨?_, z2⟩
          rw [upd_ne (ne_of_none ha hD)]; exact z1
  · have ei : i = items.length := by omega
    subst ei
    rw [List.drop_length] at h2
    obtain ⟨_, stop⟩ := it ω2 H2 e2 (L2.wipe σ own) rel2 st2.sh h2.1 (sameR _ fun i hi => wipe_get hi) items.length
    refine .inl ⟨stop (Nat.le_refl _), ?_⟩
    refine q (.ref D) H2 ω2 _ (.v 1 (.list accd)) (Rel.back rel1 st2 rel2 fun i hi => hi) (st1.trans st2) fr2 ?_ h2.2
    exact .inr (.inl ⟨D, acc, accd, rfl, rfl, hD2, oD2, rp2.length, fun j v' d' z1 z2 => rp2.get z1 z2⟩)
end
section
variable {X : Cx} {elt tg iter : Expr} {ifs : List Expr} {scope : Scope} {own : List (Str × Nat)} {pos : Pos} {fi : FI} {g : FG} {ft : FT} {fe : FE}
theorem se_lc (hc : X.calm = true) (hN : X.N.Nodup) (hi : SI X tg iter fi) (ok : BlkOk X.N X.env.scope scope own)
    (hg : ∀ (s : Shared) (H : Hp) (C : Addr) (cl : List (Str × Addr)) (fp : List Addr), SG (X.blk s H scope (compEnvC scope cl C X.env) fp) (fun j => !(own.map (·.2)).contains j) tg g)
    (ht : ∀ (s : Shared) (H : Hp) (C : Addr) (cl : List (Str × Addr)) (fp : List Addr), SFs (X.blk s H scope (compEnvC scope cl C X.env) fp) ifs ft)
    (he : ∀ (s : Shared) (H : Hp) (C : Addr) (cl : List (Str × Addr)) (fp : List Addr), SE (X.blk s H scope (compEnvC scope cl C X.env) fp) elt fe) (hs : ∀ x, foldedSetIterable iter X.env x = pure x := by intro _; rfl) :
    SE X (.ListComp elt [⟨tg, iter, ifs, 0⟩] scope pos) (fLc (own.map (·.2)) fi g ft fe) := by
  obtain ⟨w, p, s⟩ := hi.ex
  exact ⟨_, pe_lc hc hN p ok (fun a b c d e => (hg a b c d e).pg) (fun a b c d e => (ht a b c d e).pt) (fun a b c d e => (he a b c d e).pe) hs, snd_lc s⟩
variable {io : Nat → Bool} {y : Str} {py spos : Pos}
theorem ss_setLc (i : Nat) (hc : X.calm = true) (hN : X.N.Nodup) (hsw : swapsWith (.ListComp elt [⟨tg, iter, ifs, 0⟩] scope pos) (some (.Name y py)) spos.line X.env = pure true) (hi : SI X tg iter fi) (ok : BlkOk X.N X.env.scope scope own)
    (hg : ∀ (s : Shared) (H : Hp) (C : Addr) (cl : List (Str × Addr)) (fp : List Addr), SG (X.blk s H scope (compEnvC scope cl C X.env) fp) (fun j => !(own.map (·.2)).contains j) tg g)
    (ht : ∀ (s : Shared) (H : Hp) (C : Addr) (cl : List (Str × Addr)) (fp : List Addr), SFs (X.blk s H scope (compEnvC scope cl C X.env) fp) ifs ft)
    (he : ∀ (s : Shared) (H : Hp) (C : Addr) (cl : List (Str × Addr)) (fp : List Addr), SE (X.blk s H scope (compEnvC scope cl C X.env) fp) elt fe) (hy : X.N[i]? = some y := by rfl) (hyl : X.env.scope.names.lookup y = some .local := by rfl) (hio : io i = false := by decide) (hs : ∀ x, foldedSetIterable iter X.env x = pure x := by intro _; rfl) :
    SSt X io (.Assign [.Name y py] (.ListComp elt [⟨tg, iter, ifs, 0⟩] scope pos) spos) (fAsg i (fLc (own.map (·.2)) fi g ft fe)) := by
  obtain ⟨w, p, s⟩ := hi.ex
  exact ⟨_, ps_setLc hc hN hy hyl hsw p ok (fun a b c d e => (hg a b c d e).pg) (fun a b c d e => (ht a b c d e).pt) (fun a b c d e => (he a b c d e).pe) hs, snd_asg (snd_lc s) hio⟩
theorem ss_setLcO (i : Nat) (hc : X.calm = true) (hN : X.N.Nodup) (hsw : swapsWith (.ListComp elt [⟨tg, iter, ifs, 0⟩] scope pos) (some (.Name y py)) spos.line X.env = pure true) (hi : SI X tg iter fi) (ok : BlkOk X.N X.env.scope scope own)
    (hg : ∀ (s : Shared) (H : Hp) (C : Addr) (cl : List (Str × Addr)) (fp : List Addr), SG (X.blk s H scope (compEnvC scope cl C X.env) fp) (fun j => !(own.map (·.2)).contains j) tg g)
    (ht : ∀ (s : Shared) (H : Hp) (C : Addr) (cl : List (Str × Addr)) (fp : List Addr), SFs (X.blk s H scope (compEnvC scope cl C X.env) fp) ifs ft)
    (he : ∀ (s : Shared) (H : Hp) (C : Addr) (cl : List (Str × Addr)) (fp : List Addr), SE (X.blk s H scope (compEnvC scope cl C X.env) fp) elt fe) (hy : X.N[i]? = some y := by rfl) (hyl : X.env.scope.names.lookup y = some .local := by rfl) (hio : io i = false := by decide) (hs : ∀ x, foldedSetIterable iter X.env x = pure x := by intro _; rfl) :
    SSt X io (.Assign [.Name y py] (.ListComp elt [⟨tg, iter, ifs, 0⟩] scope pos) spos) (fAsgO i (fLc (own.map (·.2)) fi g ft fe)) := by
  obtain ⟨w, p, s⟩ := hi.ex
  exact ⟨_, ps_setLc hc hN hy hyl hsw p ok (fun a b c d e => (hg a b c d e).pg) (fun a b c d e => (ht a b c d e).pt) (fun a b c d e => (he a b c d e).pe) hs, snd_asgO (snd_lc s) hio⟩
end
end Pv

/-! Pv10: a def's promise by its body; calls with keywords; several stores at once. -/
namespace Pv
open PySem PySem.Spec PyProof.Rows L2

/-! ### the promise of a def -/
def startE (n : Nat) (args : List Cell) : Env := args.map some ++ List.replicate (n - args.length) none
def ioP (ms : List Bool) : Nat → Bool := fun j => ms.getD j false
def ioC : List Bool → Env → (List Cell → Prop) → Prop
  | [], _, P => P []
  | true :: ms, some c :: e, P => ioC ms e fun cs => P (c :: cs)
  | false :: ms, _ :: e, P => ioC ms e P
  | _, _, _ => False
def defK (ms : List Bool) (R : Cell → List Cell → Prop) : Kt where
  nx := fun e => ioC ms e fun ios => R (sh .none) ios
  rt := fun r e => match r with
    | .v k d => ioC ms e fun ios => R ⟨k, d⟩ ios
    | .b _ _ _ => False
section
variable {K : Fg} {ω : Om} {H : Hp}
theorem ArgR.at_ : ∀ {vs : List V} {ms : List Bool} {cs : List Cell} {j i : Nat} {c : Cell}, ArgR K ω H j vs ms cs → cs[i]? = some c → ∃ v, vs[i]? = some v ∧ OwR K ω H c.k (Ow.own (j + i)) [] v c.d
  | v :: vs, true :: ms, c' :: cs, j, 0, c, h, e => by
    have e' := Option.some.inj e
    subst e'
    exact ⟨v, rfl, h.1⟩
  | v :: vs, false :: ms, c' :: cs, j, 0, c, h, e => by
    have e' := Option.some.inj e
    subst e'
    refine ⟨v, rfl, ?_⟩
    rw [h.1.1]
    exact h.1.2
  | v :: vs, true :: ms, c' :: cs, j, i + 1, c, h, e => by
    obtain ⟨u, hu, ho⟩ := ArgR.at_ (i := i) h.2 (by simpa using e)
    exact ⟨u, by simpa using hu, by rw [show j + (i + 1) = j + 1 + i by omega]; exact ho⟩
  | v :: vs, false :: ms, c' :: cs, j, i + 1, c, h, e => by
    obtain ⟨u, hu, ho⟩ := ArgR.at_ (i := i) h.2 (by simpa using e)
    exact ⟨u, by simpa using hu, by rw [show j + (i + 1) = j + 1 + i by omega]; exact ho⟩
  | [], [], [], _, _, _, _, e => by simp at e
  | [], [], _ :: _, _, _, _, h, _ => h.elim
  | [], _ :: _, _, _, _, _, h, _ => h.elim
  | _ :: _, [], _, _, _, _, h, _ => h.elim
  | _ :: _, true :: _, [], _, _, _, h, _ => h.elim
  | _ :: _, false :: _, [], _, _, _, h, _ => h.elim
theorem io_out : ∀ {ms : List Bool} {e : Env} {vs : List V} {P : List Cell → Prop} (j : Nat), vs.length = ms.length → (∀ (n : Nat) (c : Cell) (v : V), e[n]? = some (some c) → ms[n]? = some true → vs[n]? = some v → OwR K ω H c.k (Ow.own (j + n)) [] v c.d) → ioC ms e P →
    ∃ ios, P ios ∧ IoOut K ω H j vs ms ios
  | [], e, [], P, j, _, _, h => ⟨[], h, trivial⟩
  | [], _, _ :: _, _, _, hl, _, _ => by cases hl
  | _ :: _, _, [], _, _, hl, _, _ => by cases hl
  | true :: ms, some c :: e, v :: vs, P, j, hl, ho, h => by
    obtain ⟨ios, h1, h2⟩ := io_out (ms := ms) (e := e) (vs := vs) (j + 1) (Nat.succ.inj hl) (fun n c v a b d => by
      have := ho (n + 1) c v (by simpa using a) (by simpa using b) (by simpa using d)
      rw [show j + 1 + n = j + (n + 1) by omega]; exact this) h
    exact ⟨c :: ios, h1, ho 0 c v rfl rfl rfl, h2⟩
  | false :: ms, o :: e, v :: vs, P, j, hl, ho, h => by
    obtain ⟨ios, h1, h2⟩ := io_out (ms := ms) (e := e) (vs := vs) (j + 1) (Nat.succ.inj hl) (fun n c v a b d => by
      have := ho (n + 1) c v (by simpa using a) (by simpa using b) (by simpa using d)
      rw [show j + 1 + n = j + (n + 1) by omega]; exact this) h
    exact ⟨ios, h1, h2⟩
  | true :: _, none :: _, _ :: _, _, _, _, _, h => h.elim
  | true :: _, [], _ :: _, _, _, _, _, h => h.elim
  | false :: _, [], _ :: _, _, _, _, _, h => h.elim
end
section
variable {P : Program} {w : World} {K : Fg} {mg : Str → Option Value} {base : Heap}
/-- THE RULE of a def -/
theorem fnok_mk {x qual : Str} {st : Stmt} {f : Addr} {fd : FuncData} {N ps : List Str} {k : Nat} {ms : List Bool} {φ : Phi} (F : Fun K x qual st f fd) (S : FnScope N ps (defScope st)) (body : FS)
    (hbody : ∀ (cdv : Value) (A : Around) (outer : List PySem.Env) (s : Shared) (H : Hp) (E : XK), Room k (A.deeper (envOfC qual (defScope st) s.heap.objs.size f cdv)) → (A.deeper (envOfC qual (defScope st) s.heap.objs.size f cdv)).guards = some [] → SSs (cxOf CX0 P w K mg base N qual (defScope st) f cdv A outer s H E).nox (ioP ms) (defBody st) body)
    (vc : ∀ args R, φ args R → body (startE N.length args) (defK ms R)) (hms : ms.length = ps.length := by rfl) : FnG P w K mg base CX0 (k + 1) f fd ps (spOf K ms φ) := by
  refine fng_of F S (fun vs H Q E h => (spOf_len h).trans hms) (fun cdv A outer s H vs Q E hr hG h => ?_)
  obtain ⟨ω, args, R, ha, fr, hφ, q⟩ := h
  obtain ⟨t, pt, sn⟩ := (hbody cdv A outer s H E hr hG).ex
  refine ⟨t, pt, ?_⟩
  obtain ⟨l1, l2⟩ := ha.length
  have σ0 : ∀ (n : Nat) (v : V), vs[n]? = some v → (L2.start N vs)[n]? = some (some v) := fun n v hv => by
    unfold L2.start
    have hl : n < vs.length := (List.getElem?_eq_some_iff.mp hv).1
    rw [List.getElem?_append_left (by rw [List.length_map]; exact hl), List.getElem?_map, hv]
    rfl
  have rel : Rel K ω (startE N.length args) (L2.start N vs) H := by
    refine ⟨by unfold startE L2.start; rw [List.length_append, List.length_append, List.length_map, List.length_map, List.length_replicate, List.length_replicate, l2], fun i c e => ?_⟩
    unfold startE at e
    by_cases hi : i < args.length
    · rw [List.getElem?_append_left (by rw [List.length_map]; exact hi), List.getElem?_map] at e
      cases hc : args[i]? with
      | none => rw [hc] at e; cases e
      | some c' =>
        rw [hc] at e
        have e' : c' = c := Option.some.inj (Option.some.inj e)
        subst e'
        obtain ⟨v, hv, ho⟩ := ha.at_ hc
        rw [Nat.zero_add] at ho
        exact ⟨v, σ0 i v hv, ho⟩
    · rw [List.getElem?_append_right (by rw [List.length_map]; omega)] at e
      have := List.mem_of_getElem? e
      have := List.eq_of_mem_replicate this
      cases this
  have fin : ∀ {σ' : Sg} {H' : Hp} {ω' : Om} {env' : Env} {Pk : List Cell → Prop}, Rel K ω' env' σ' H' → Keep (ioP ms) (L2.start N vs) σ' → ioC ms env' Pk → ∃ ios, Pk ios ∧ IoOut K ω' H' 0 vs ms ios := fun {σ' H' ω' env' Pk} rel' kp h => by
    refine io_out 0 l1 (fun n c v a b d => ?_) h
    obtain ⟨v', hv, ho⟩ := rel'.cell n c a
    have e1 := kp.2 n (by unfold ioP; rw [List.getD_eq_getElem?_getD, b]; rfl)
    rw [hv, σ0 n v d] at e1
    have e2 : v' = v := Option.some.inj (Option.some.inj e1)
    subst e2
    rw [Nat.zero_add]
    exact ho
  refine sn ω (startE N.length args) (L2.start N vs) H _ (defK ms R) rel fr (vc args R hφ) ⟨fun σ' H' ω' env' a b c d e => ?_, fun σ' H' ω' env' a b c d e => e, fun σ' H' ω' env' a b c d e => e, fun v σ' H' ω' env' r a b c d e f => ?_⟩
  · obtain ⟨ios, h1, h2⟩ := fin a d e
    exact q .non H' ω' (sh .none) ios b h2 Rp.non h1
  · cases r with
    | b _ _ _ => exact f.elim
    | v kk dd =>
      obtain ⟨ios, h1, h2⟩ := fin a d f
      exact q v H' ω' ⟨kk, dd⟩ ios b h2 e h1
/-- a promise of nothing -/
theorem fnok_no {x qual : Str} {st : Stmt} {f : Addr} {fd : FuncData} {N ps : List Str} {k : Nat} {ms : List Bool} (F : Fun K x qual st f fd) (S : FnScope N ps (defScope st)) : FnG P w K mg base CX0 (k + 1) f fd ps (spOf K ms fun _ _ => False) :=
  fng_of F S (fun vs H Q E h => by obtain ⟨_, _, _, _, _, z, _⟩ := h; exact z.elim) (fun cdv A outer s H vs Q E hr hG h => by obtain ⟨_, _, _, _, _, z, _⟩ := h; exact z.elim)
theorem fnc_mk {x qual : Str} {st : Stmt} {f : Addr} {fd : FuncData} {N ps : List Str} {k : Nat} {ms : List Bool} {φ : Phi} (F : Fun K x qual st f fd) (hm : mg x = some (.ref f)) (S : FnScope N ps (defScope st)) (hb : Binds K fd ps []) (body : FS)
    (hbody : ∀ (cdv : Value) (A : Around) (outer : List PySem.Env) (s : Shared) (H : Hp) (E : XK), Room k (A.deeper (envOfC qual (defScope st) s.heap.objs.size f cdv)) → (A.deeper (envOfC qual (defScope st) s.heap.objs.size f cdv)).guards = some [] → SSs (cxOf CX0 P w K mg base N qual (defScope st) f cdv A outer s H E).nox (ioP ms) (defBody st) body)
    (vc : ∀ args R, φ args R → body (startE N.length args) (defK ms R)) (hms : ms.length = ps.length := by rfl) : Fnc P w K mg base (k + 1) x ms φ := ⟨f, fd, ps, fnok_mk F S body hbody vc hms, hm, F.kp, hb⟩
/-- a weaker promise -/
theorem Fnc.imp {k : Nat} {x : Str} {ms : List Bool} {φ ψ : Phi} (h : Fnc P w K mg base k x ms φ) (hi : ∀ args R, ψ args R → φ args R) : Fnc P w K mg base k x ms ψ := by
  obtain ⟨f, fd, ps, F, a, b, c⟩ := h.ex
  exact ⟨f, fd, ps, F.imp fun vs H Q E ⟨ω, args, R, z1, z2, z3, z4⟩ => ⟨ω, args, R, z1, z2, hi args R z3, z4⟩, a, b, c⟩
theorem Fnc.mono {j k : Nat} {x : Str} {ms : List Bool} {φ : Phi} (h : Fnc P w K mg base j x ms φ) (hk : j ≤ k) : Fnc P w K mg base k x ms φ := by
  obtain ⟨f, fd, ps, F, a, b, c⟩ := h.ex
  exact ⟨f, fd, ps, F.mono hk, a, b, c⟩
end

/-! ### f(.., k = v) -/
/-- how a call with keywords binds: perm tells, parameter by parameter, which of the values as written it takes -/
def KwB (K : Fg) (fd : FuncData) (ps : List Str) (n : Nat) (ks : List Str) (perm : List Nat) : Prop := KBn K fd ps n ks (fun us ws => permU perm (us ++ ws)) (fun vs zs => permV perm (vs ++ zs))
theorem kwb_of {K : Fg} {x qual : Str} {st : Stmt} {f : Addr} {fd : FuncData} {ps ks : List Str} {n : Nat} {perm : List Nat} (F : Fun K x qual st f fd)
    (h : ∀ (kV doc pm : Value) (an : Option Addr) (cdv ct : Value) (us ws : List Value), us.length = n → ws.length = ks.length → bindArgs (PySem.W.fnOf x qual (defArgs st) (defBody st) (defScope st) .none kV doc pm an cdv ct) ⟨us, ks.zip ws⟩ = pure (ps.zip (permU perm (us ++ ws)))) : KwB K fd ps n ks perm := by
  obtain ⟨oc, od, kV, doc, pm, an, cdv, ct, osl, rfl, lk, hcd⟩ := F.ex
  exact ⟨fun s us ws _ l1 l2 => .of_eq (h kV doc pm an cdv ct us ws l1 l2), fun r1 r2 => Pv.Vals.perm (r1.append r2) perm⟩
/-- a def that may be called with these keywords -/
structure FncK (P : Program) (w : World) (K : Fg) (mg : Str → Option Value) (base : Heap) (k : Nat) (x : Str) (m n : Nat) (ks : List Str) (perm : List Nat) (φ : Phi) : Prop where
  ex : ∃ (f : Addr) (fd : FuncData) (ps : List Str), FnG P w K mg base CX0 k f fd ps (spOf K (List.replicate m false) φ) ∧ mg x = some (.ref f) ∧ PySem.W.keepIn K (.ref f) = true ∧ KwB K fd ps n ks perm
section
variable {X : Cx} {K : Fg}
theorem snd_callK {m n nk : Nat} {perm : List Nat} {φ : Phi} {ta tk : TA} {fa fk : FA} (hp : perm.length = m) (ha : SndA K ta fa) (hk : SndA K tk fk) :
    SndE K (tCallN n nk (spOf K (List.replicate m false) φ) (fun vs zs => permV perm (vs ++ zs)) (fun _ _ _ => False) ta tk) (fCallK n nk perm φ fa fk) := by
  intro ω T env σ H R Q rel fr hR q
  refine ha ω T env σ H _ _ rel fr hR fun vs H1 ω1 e1 rs rel1 st1 fr1 rr1 h1 => ?_
  obtain ⟨nb, hl, h1⟩ := h1
  have va := (rr1.gc (T0 := T) rel1 (Nat.le_refl _)).rp nb
  refine hk (gc T ω1) T e1 σ H1 _ _ (rel1.gc T) gc_free h1 fun zs H2 ω2 e2 ks' rel2 st2 fr2 rr2 h2 => ?_
  obtain ⟨nb2, hkl, h2⟩ := h2
  have vz := (rr2.gc (T0 := T) rel2 (Nat.le_refl _)).rp nb2
  have va2 : RpAll K (gc T ω2) H2 vs (dsOf rs) := RpAll.sh gc_sh _ _ (RpAll.sh st2.sh _ _ va)
  have all := RpAll.perm (va2.append vz) perm
  have lz : (permD perm (dsOf rs ++ dsOf ks')).length = m := by unfold permD; rw [List.length_map]; exact hp
  refine ⟨?_, ?_, ?_⟩
  · rw [va.length]; unfold dsOf; rw [List.length_map]; exact hl
  · rw [vz.length]; unfold dsOf; rw [List.length_map]; exact hkl
  · refine call_core (T := T) (rs := allV (permD perm (dsOf rs ++ dsOf ks'))) (R := R) fr (rel2.gc T) (((st1.gc fr).trans st2).gc fr) (resAll_v T all) ?_ ?_ (args := (permD perm (dsOf rs ++ dsOf ks')).map sh) ?_ q
    · rw [ioIx_v]; rfl
    · rw [← lz]; exact mkArgs_v _
    · have e : (fun (c : Cell) (ios : List Cell) => R (.v c.k c.d) (putIos e2 (List.replicate m false) (allV (permD perm (dsOf rs ++ dsOf ks'))) ios)) = fun c _ => R (.v c.k c.d) e2 := by
        funext c ios
        rw [putIos_v]
      rw [e]
      exact (apP_cl h2)
variable {k j m n nk : Nat} {x : Str} {ks : List Str} {perm : List Nat} {φ : Phi} {e : Expr} {es : List Expr} {kws : List Keyword} {fa fk : FA} {p pos : Pos}
theorem se_callK (c : FncK X.prog X.w X.K X.mg X.base k x m n ks perm φ) (hr : Room j X.A) (hG : X.A.guards = some []) (ha : SA X (e :: es) fa) (hkw : SK X kws fk) (hp : perm.length = m := by rfl) (hk : k ≤ j := by decide) (hg : Gl X x := by rfl)
    (hall : (backToKw pos (keywordEach kws X.env)).all (·.1.isSome) = true := by rfl) (hks : (backToKw pos (keywordEach kws X.env)).filterMap (·.1) = ks := by rfl)
    (hdb : (x == ("__debug__" : Str)) = false := by decide) (he : starEach (e :: es) X.env = (false, eval e X.env) :: starEach es X.env := by rfl)
    (hpl : ((backTo pos (starEach (e :: es) X.env)).any (·.1) || (backToKw pos (keywordEach kws X.env)).any (·.1.isNone)) = false := by rfl) (hnk : ks.length = nk := by rfl) : SE X (.Call (.Name x p) (e :: es) kws pos) (fCallK n nk perm φ fa fk) := by
  subst hnk
  obtain ⟨f, fd, ps, F, hm, hkp, hb⟩ := c.ex
  obtain ⟨t, q, s⟩ := ha.ex
  obtain ⟨u, q', s'⟩ := hkw.ex
  exact ⟨_, pe_gN F hG (hr.mono hk) hg hm hkp hb q q' hall hks hdb he hpl, snd_callK hp s s'⟩
theorem se_callK0 (c : FncK X.prog X.w X.K X.mg X.base k x m 0 ks perm φ) (hr : Room j X.A) (hG : X.A.guards = some []) (hkw : SK X kws fk) (hp : perm.length = m := by rfl) (hk : k ≤ j := by decide) (hg : Gl X x := by rfl)
    (hall : (backToKw pos (keywordEach kws X.env)).all (·.1.isSome) = true := by rfl) (hks : (backToKw pos (keywordEach kws X.env)).filterMap (·.1) = ks := by rfl)
    (hdb : (x == ("__debug__" : Str)) = false := by decide) (hpl : ((backTo pos (starEach [] X.env)).any (·.1) || (backToKw pos (keywordEach kws X.env)).any (·.1.isNone)) = false := by rfl) (hnk : ks.length = nk := by rfl) : SE X (.Call (.Name x p) [] kws pos) (fCallK 0 nk perm φ fNil fk) := by
  subst hnk
  obtain ⟨f, fd, ps, F, hm, hkp, hb⟩ := c.ex
  obtain ⟨u, q', s'⟩ := hkw.ex
  exact ⟨_, pe_gN0 F hG (hr.mono hk) hg hm hkp hb q' hall hks hdb hpl, snd_callK hp snd_nil s'⟩
end

/-! ### a, b = x, y -/
def setRes : List Nat → List Bool → List Res → Env → Option Env
  | [], [], [], e => some e
  | i :: is, b :: bs, .v n d :: rs, e => setRes is bs rs (e.set i (some (if b then ⟨n, d⟩ else sh d)))
  | _, _, _, _ => none
def fPar (is : List Nat) (bs : List Bool) (fa : FA) : FS := fun env k => fa env fun rs e => toEnv k.nx (setRes is bs rs e)
def setSt : List Nat → List V → Sg → Sg
  | i :: is, v :: vs, σ => setSt is vs (σ.set i (some v))
  | _, _, σ => σ
def parO (is : List Nat) (bs : List Bool) : Ow → Ow
  | .tmp t p => match is[t]?, bs[t]? with
    | some i, some true => .own i p
    | _, _ => .shr
  | o => o
section
variable {K : Fg} {io : Nat → Bool} {ω : Om} {H : Hp}
theorem set_res {IS : List Nat} {BS : List Bool} {σ0 : Sg} {env0 : Env} : ∀ {is : List Nat} {bs : List Bool} {vs : List V} {rs : List Res} {env env' : Env} {σ : Sg} (j : Nat), (∀ n, is[n]? = IS[j + n]?) → (∀ n, bs[n]? = BS[j + n]?) → ResAll K ω H σ0 env0 j vs rs → Rel K (ren (parO IS BS) ω) env σ H → (∀ i ∈ is, io i = false) → setRes is bs rs env = some env' →
    Rel K (ren (parO IS BS) ω) env' (setSt is vs σ) H ∧ Keep io σ (setSt is vs σ)
  | [], [], [], [], env, env', σ, j, _, _, _, rel, _, h => by
    cases h
    exact ⟨rel, Keep.refl⟩
  | i :: is, b :: bs, v :: vs, .v n d :: rs, env, env', σ, j, hi, hb, hA, rel, hio, h => by
    obtain ⟨h1, h2⟩ := hA
    have gsh : Sh ω H (ren (parO IS BS) ω) H := fun a o h e => ⟨h, by show parO IS BS (ω a) = _; rw [e]; rfl⟩
    have i0 : IS[j]? = some i := (hi 0).symm
    have b0 : BS[j]? = some b := (hb 0).symm
    have ow : OwR K (ren (parO IS BS) ω) H (if b then (⟨n, d⟩ : Cell) else sh d).k (Ow.own i) [] v (if b then (⟨n, d⟩ : Cell) else sh d).d := by
      cases b with
      | true =>
        exact OwR.go gsh (fun a u p z1 z2 => ⟨z1, by
          show parO IS BS (ω a) = _
          rw [z2]
          show (match IS[j]?, BS[j]? with | some i, some true => Ow.own i p | _, _ => Ow.shr) = _
          rw [i0, b0]⟩) _ _ _ _ h1
      | false =>
        exact OwR.fz gsh (fun a u p z1 z2 => ⟨z1, by
          show parO IS BS (ω a) = _
          rw [z2]
          show (match IS[j]?, BS[j]? with | some i, some true => Ow.own i p | _, _ => Ow.shr) = _
          rw [i0, b0]⟩) _ _ _ _ h1
    have rel' := rel.put (i := i) ow
    have hr := set_res (j + 1) (is := is) (bs := bs) (vs := vs) (rs := rs) (fun n => by
      have := hi (n + 1)
      rw [List.getElem?_cons_succ] at this
      rw [this]; congr 1; omega) (fun n => by
      have := hb (n + 1)
      rw [List.getElem?_cons_succ] at this
      rw [this]; congr 1; omega) h2 rel' (fun i' hi' => hio i' (List.mem_cons_of_mem _ hi')) h
    exact ⟨hr.1, (Keep.set (hio i List.mem_cons_self)).trans hr.2⟩
  | [], [], [], _ :: _, _, _, _, _, _, _, hA, _, _, _ => hA.elim
  | [], [], _ :: _, [], _, _, _, _, _, _, hA, _, _, _ => hA.elim
  | [], [], _ :: _, _ :: _, _, _, _, _, _, _, _, _, _, h => by cases h
  | [], _ :: _, _, _, _, _, _, _, _, _, _, _, _, h => by cases h
  | _ :: _, [], _, _, _, _, _, _, _, _, _, _, _, h => by cases h
  | _ :: _, _ :: _, _, [], _, _, _, _, _, _, _, _, _, h => by cases h
  | _ :: _, _ :: _, _, .b _ _ _ :: _, _, _, _, _, _, _, _, _, _, h => by cases h
  | _ :: _, _ :: _, [], .v _ _ :: _, _, _, _, _, _, _, hA, _, _, _ => hA.elim
theorem par_fin {is : List Nat} {bs : List Bool} {σ : Sg} {E : Ends} {k : Kt} {vs : List V} {H1 : Hp} {ω1 : Om} {e1 : Env} {rs : List Res} (hio : ∀ i ∈ is, io i = false) (fr : Free ω 0) (kr : KR K io ω σ H k E)
    (rel1 : Rel K ω1 e1 σ H1) (st1 : Step ω H ω1 H1) (rr1 : ResAll K ω1 H1 σ e1 0 vs rs) (h1 : toEnv k.nx (setRes is bs rs e1)) :
    vs.length = is.length ∧ ∀ H2, (H2 = H1 ∨ ∃ p, H1 p = none ∧ H2 = upd H1 p (.tup vs)) → E.nx (setSt is vs σ) H2 := by
  obtain ⟨e2, he, hk⟩ := toEnv_ex h1
  have rel2 : Rel K (ren (parO is bs) ω1) e1 σ H1 := by
    refine ⟨rel1.len, fun j c e => ?_⟩
    obtain ⟨v', hv, ho⟩ := rel1.cell j c e
    exact ⟨v', hv, OwR.go (fun a o h e => ⟨h, by show parO is bs (ω1 a) = _; rw [e]; rfl⟩) (fun a u p z1 z2 => ⟨z1, by show parO is bs (ω1 a) = _; rw [z2]; rfl⟩) _ _ _ _ ho⟩
  obtain ⟨rel3, kp3⟩ := set_res (io := io) 0 (fun n => by rw [Nat.zero_add]) (fun n => by rw [Nat.zero_add]) rr1 rel2 hio he
  have stp : Step ω H (ren (parO is bs) ω1) H1 := fun a o h => by
    rcases st1 a o h with z | ⟨z1, z2⟩
    · exact .inl z
    · refine .inr ⟨z1, ?_⟩
      show parO is bs (ω1 a) = _
      rw [z2]
      cases y : ω a with
      | tmp t p => exact absurd (fr a t p y) (Nat.not_lt_zero _)
      | _ => rfl
  have frp : Free (ren (parO is bs) ω1) 0 := fun a t p e => by
    have e' : parO is bs (ω1 a) = .tmp t p := e
    cases y : ω1 a with
    | tmp t' p' =>
      rw [y] at e'
      have e2 : (match is[t']?, bs[t']? with | some i, some true => Ow.own i p' | _, _ => Ow.shr) = .tmp t p := e'
      revert e2
      cases is[t']? with
      | none => intro z; cases z
      | some i =>
        cases bs[t']? with
        | none => intro z; cases z
        | some b => cases b <;> (intro z; cases z)
    | shr => rw [y] at e'; cases e'
    | far => rw [y] at e'; cases e'
    | own _ _ => rw [y] at e'; cases e'
  refine ⟨?_, fun H2 hH2 => ?_⟩
  · have : ∀ (is : List Nat) (bs : List Bool) (vs : List V) (rs : List Res) (T : Nat) (e e' : Env), ResAll K ω1 H1 σ e1 T vs rs → setRes is bs rs e = some e' → vs.length = is.length := by
      intro is
      induction is with
      | nil =>
        intro bs vs rs T e e' hA h
        cases bs with
        | cons _ _ => cases h
        | nil =>
          cases rs with
          | cons _ _ => cases h
          | nil =>
            cases vs with
            | nil => rfl
            | cons _ _ => exact hA.elim
      | cons i is ih =>
        intro bs vs rs T e e' hA h
        cases bs with
        | nil => cases h
        | cons b bs =>
          cases rs with
          | nil => cases h
          | cons r rs =>
            cases r with
            | b _ _ _ => cases h
            | v n d =>
              cases vs with
              | nil => exact hA.elim
              | cons v vs => rw [List.length_cons, List.length_cons, ih bs vs rs _ _ _ hA.2 h]
    exact this is bs vs rs 0 e1 e2 rr1 he
  · rcases hH2 with rfl | ⟨p, hp, rfl⟩
    · exact kr.nx _ _ (ren (parO is bs) ω1) e2 rel3 stp frp kp3 hk
    · have gr : Grow (ren (parO is bs) ω1) H1 (ren (parO is bs) ω1) (upd H1 p (.tup vs)) := fun a x h => ⟨by rw [upd_ne (ne_of_none h hp)]; exact h, rfl⟩
      exact kr.nx _ _ (ren (parO is bs) ω1) e2 (rel3.grow gr) (stp.grow gr) frp kp3 hk
end
section
variable {X : Cx} {io : Nat → Bool} {fa : FA} {pos : Pos} {bs : List Bool}
theorem ss_par2 {x y : Str} {a b : Expr} {px py pt : Pos} {kt k2 pt2} (i j : Nat) (bs : List Bool) (hc : X.calm = true) (hN : X.N.Nodup)
    (ha : SA X [a, b] fa) (hw : swappedStores [.Tuple [.Name x px, .Name y py] kt pt] (.Tuple [a, b] k2 pt2) X.env = pure (some [x, y])) (hi : X.N[i]? = some x := by rfl) (hj : X.N[j]? = some y := by rfl) (hij : i ≠ j := by decide)
    (hx : X.env.scope.names.lookup x = some .local := by rfl) (hy : X.env.scope.names.lookup y = some .local := by rfl) (h1 : io i = false := by decide) (h2 : io j = false := by decide)
    (hs : swapsWithSole [.Tuple [.Name x px, .Name y py] kt pt] (.Tuple [a, b] k2 pt2) pos.line X.env = pure false := by rfl) :
    SSt X io (.Assign [.Tuple [.Name x px, .Name y py] kt pt] (.Tuple [a, b] k2 pt2) pos) (fPar [i, j] bs fa) := by
  obtain ⟨t, p, s⟩ := ha.ex
  have hio : ∀ n ∈ [i, j], io n = false := fun n hn => by
    rcases List.mem_cons.mp hn with z | z
    · rw [z]; exact h1
    · rw [List.mem_singleton.mp z]; exact h2
  refine ⟨_, ps_par hc hN hi hj hij hx hy p hw hs, fun ω env σ H E k rel fr hf kr => ?_⟩
  refine s ω 0 env σ H _ _ rel fr hf fun vs H1 ω1 e1 rs rel1 st1 fr1 rr1 h1 => ?_
  obtain ⟨hl, h⟩ := par_fin hio fr kr rel1 st1 rr1 h1
  match vs, hl, h with
  | [v, w], _, h => exact ⟨v, w, rfl, h H1 (.inl rfl)⟩
theorem ss_par3 {x y z : Str} {a b c : Expr} {px py pz pt : Pos} {kt k2 pt2} (i j l : Nat) (bs : List Bool) (hc : X.calm = true) (hN : X.N.Nodup)
    (ha : SA X [a, b, c] fa) (hw : swappedStores [.Tuple [.Name x px, .Name y py, .Name z pz] kt pt] (.Tuple [a, b, c] k2 pt2) X.env = pure (some [x, y, z])) (hi : X.N[i]? = some x := by rfl) (hj : X.N[j]? = some y := by rfl) (hl : X.N[l]? = some z := by rfl) (hij : i ≠ j := by decide) (hil : i ≠ l := by decide) (hjl : j ≠ l := by decide)
    (hx : X.env.scope.names.lookup x = some .local := by rfl) (hy : X.env.scope.names.lookup y = some .local := by rfl) (hz : X.env.scope.names.lookup z = some .local := by rfl) (h1 : io i = false := by decide) (h2 : io j = false := by decide) (h3 : io l = false := by decide)
    (hs : swapsWithSole [.Tuple [.Name x px, .Name y py, .Name z pz] kt pt] (.Tuple [a, b, c] k2 pt2) pos.line X.env = pure false := by rfl) :
    SSt X io (.Assign [.Tuple [.Name x px, .Name y py, .Name z pz] kt pt] (.Tuple [a, b, c] k2 pt2) pos) (fPar [i, j, l] bs fa) := by
  obtain ⟨t, p, s⟩ := ha.ex
  have hio : ∀ n ∈ [i, j, l], io n = false := fun n hn => by
    rcases List.mem_cons.mp hn with z | z
    · rw [z]; exact h1
    · rcases List.mem_cons.mp z with z | z
      · rw [z]; exact h2
      · rw [List.mem_singleton.mp z]; exact h3
  refine ⟨_, ps_par3 hc hN hi hj hl hij hil hjl hx hy hz p hw hs, fun ω env σ H E k rel fr hf kr => ?_⟩
  refine s ω 0 env σ H _ _ rel fr hf fun vs H1 ω1 e1 rs rel1 st1 fr1 rr1 h1 => ?_
  obtain ⟨hl, h⟩ := par_fin hio fr kr rel1 st1 rr1 h1
  match vs, hl, h with
  | [u, v, w], _, h => exact ⟨u, v, w, rfl, h H1 (.inl rfl)⟩
/-- names alone -/
def gNm (is : List Nat) : TGs := fun vs σ H Q => vs.length = is.length ∧ Q (setSt is vs σ) H
theorem pgs_nm0 : PGs X [] (gNm []) := by
  refine ⟨fun pins s σ H vs us Q I r ⟨hl, h⟩ => ?_⟩
  have e : vs = [] := List.eq_nil_of_length_eq_zero hl
  subst e
  exact pgs_nil.run pins s σ H [] us Q I r ⟨rfl, h⟩
theorem pgs_nm {x : Str} {xp : Pos} {es : List Expr} {is : List Nat} (i : Nat) (hN : X.N.Nodup) (h : PGs X es (gNm is)) (hi : X.N[i]? = some x := by rfl) (hx : Loc X.env.scope x := by first | exact Or.inl rfl | exact Or.inr rfl)
    (hs : (assignEach (.Name x xp :: es) X.env).map (·.2) = assign (.Name x xp) X.env :: (assignEach es X.env).map (·.2) := by rfl) (hf : X.fn x = true ∨ X.env.scope.names.lookup x = some .local := by first | exact .inl rfl | exact .inr rfl | assumption) : PGs X (.Name x xp :: es) (gNm (i :: is)) := by
  refine ⟨fun pins s σ H vs us Q I r ⟨hl, q⟩ => ?_⟩
  match vs, hl, r, q with
  | v :: vs, hl, r, q => exact (pgs_cons (pg_name hN hi hx hf) h hs).run pins s σ H (v :: vs) us Q I r ⟨v, vs, rfl, Nat.succ.inj hl, q⟩
/-- .. by way of the tuple -/
theorem ss_parT {tgs es : List Expr} {is : List Nat} {kt k2 : Nat} {pt pt2 : Pos} {n : Nat} (bs : List Bool) (hc : X.calm = true) (hg : PGs X tgs (gNm is)) (ha : SA X es fa) (hio : ∀ i ∈ is, io i = false := by decide) (hz : is.length ≤ sizeLine := by decide)
    (hn : (assignEach tgs X.env).length = n := by rfl) (hst : (assignEach tgs X.env).findIdx? (·.1) = none := by rfl) (hin : is.length = n := by rfl)
    (hs : swapsWithSole [.Tuple tgs kt pt] (.Tuple es k2 pt2) pos.line X.env = pure false := by rfl) (hw : swappedStores [.Tuple tgs kt pt] (.Tuple es k2 pt2) X.env = pure none := by rfl)
    (h1 : (assignEach [.Tuple tgs kt pt] X.env).map (·.2) = [assign (.Tuple tgs kt pt) X.env] := by rfl) : SSt X io (.Assign [.Tuple tgs kt pt] (.Tuple es k2 pt2) pos) (fPar is bs fa) := by
  obtain ⟨t, p, s⟩ := ha.ex
  refine ⟨_, ps_asg (pe_tup p) (pg_tup hc hg hn hst) hs hw h1, fun ω env σ H E k rel fr hf kr => ?_⟩
  refine s ω 0 env σ H _ _ rel fr hf fun vs H1 ω1 e1 rs rel1 st1 fr1 rr1 h1 => ?_
  obtain ⟨hl, h⟩ := par_fin hio fr kr rel1 st1 rr1 h1
  refine ⟨by rw [hl]; exact hz, fun q hq => ⟨q, vs, rfl, .inl (.inl upd_same), by rw [hl]; exact hin, hl, h _ (.inr ⟨q, hq, rfl⟩)⟩⟩
end
end Pv

/-! Pv11: isinstance, all, any, min, max, sorted, in, zip, enumerate. -/
namespace Pv
open PySem PySem.Spec PyProof.Rows L2

/-! ### isinstance -/
def tyD : D → String
  | .none => "NoneType"
  | .bool _ => "bool"
  | .int _ => "int"
  | .str _ => "str"
  | .list _ => "list"
  | .tuple _ => "tuple"
  | .dict kvs => bif isScr kvs then "list" else "dict"
def tyNames : List String := ["NoneType", "bool", "int", "str", "list", "tuple", "dict"]
def isiD (T : String) (d : D) : Bool := (L2.kitB (tyD d) T).getD false
theorem tyD_mem (d : D) : tyD d ∈ tyNames := by
  cases d with
  | dict kvs => cases h : isScr kvs <;> simp [tyD, tyNames, h]
  | _ => simp [tyD, tyNames]
theorem isiD_ok {T : String} (h : tyNames.all (fun s => (L2.kitB s T).isSome) = true) (d : D) : L2.kitB (tyD d) T = some (isiD T d) := by
  have := List.all_eq_true.mp h _ (tyD_mem d)
  unfold isiD
  cases e : L2.kitB (tyD d) T with
  | none => rw [e] at this; cases this
  | some b => rfl
theorem isi_list {ds} : isiD "list" (.list ds) = true := by show (L2.kitB "list" "list").getD false = true; decide +kernel
theorem isi_list_tup {ds} : isiD "list" (.tuple ds) = false := by show (L2.kitB "tuple" "list").getD false = false; decide +kernel
theorem isi_list_int {i} : isiD "list" (.int i) = false := by show (L2.kitB "int" "list").getD false = false; decide +kernel
theorem isi_list_str {i} : isiD "list" (.str i) = false := by show (L2.kitB "str" "list").getD false = false; decide +kernel
theorem isi_list_bl {i} : isiD "list" (.bool i) = false := by show (L2.kitB "bool" "list").getD false = false; decide +kernel
theorem isi_list_non : isiD "list" .none = false := by show (L2.kitB "NoneType" "list").getD false = false; decide +kernel
theorem isi_tuple_list {ds} : isiD "tuple" (.list ds) = false := by show (L2.kitB "list" "tuple").getD false = false; decide +kernel
theorem isi_tuple {ds} : isiD "tuple" (.tuple ds) = true := by show (L2.kitB "tuple" "tuple").getD false = true; decide +kernel
theorem isi_tuple_int {i} : isiD "tuple" (.int i) = false := by show (L2.kitB "int" "tuple").getD false = false; decide +kernel
theorem isi_tuple_str {i} : isiD "tuple" (.str i) = false := by show (L2.kitB "str" "tuple").getD false = false; decide +kernel
theorem isi_tuple_bl {i} : isiD "tuple" (.bool i) = false := by show (L2.kitB "bool" "tuple").getD false = false; decide +kernel
theorem isi_tuple_non : isiD "tuple" .none = false := by show (L2.kitB "NoneType" "tuple").getD false = false; decide +kernel
theorem isi_bool_list {ds} : isiD "bool" (.list ds) = false := by show (L2.kitB "list" "bool").getD false = false; decide +kernel
theorem isi_bool_tup {ds} : isiD "bool" (.tuple ds) = false := by show (L2.kitB "tuple" "bool").getD false = false; decide +kernel
theorem isi_bool_int {i} : isiD "bool" (.int i) = false := by show (L2.kitB "int" "bool").getD false = false; decide +kernel
theorem isi_bool_str {i} : isiD "bool" (.str i) = false := by show (L2.kitB "str" "bool").getD false = false; decide +kernel
theorem isi_bool {i} : isiD "bool" (.bool i) = true := by show (L2.kitB "bool" "bool").getD false = true; decide +kernel
theorem isi_bool_non : isiD "bool" .none = false := by show (L2.kitB "NoneType" "bool").getD false = false; decide +kernel
theorem isi_str_list {ds} : isiD "str" (.list ds) = false := by show (L2.kitB "list" "str").getD false = false; decide +kernel
theorem isi_str_tup {ds} : isiD "str" (.tuple ds) = false := by show (L2.kitB "tuple" "str").getD false = false; decide +kernel
theorem isi_str_int {i} : isiD "str" (.int i) = false := by show (L2.kitB "int" "str").getD false = false; decide +kernel
theorem isi_str {i} : isiD "str" (.str i) = true := by show (L2.kitB "str" "str").getD false = true; decide +kernel
theorem isi_str_bl {i} : isiD "str" (.bool i) = false := by show (L2.kitB "bool" "str").getD false = false; decide +kernel
theorem isi_str_non : isiD "str" .none = false := by show (L2.kitB "NoneType" "str").getD false = false; decide +kernel
theorem isi_int_list {ds} : isiD "int" (.list ds) = false := by show (L2.kitB "list" "int").getD false = false; decide +kernel
theorem isi_int_tup {ds} : isiD "int" (.tuple ds) = false := by show (L2.kitB "tuple" "int").getD false = false; decide +kernel
theorem isi_int {i} : isiD "int" (.int i) = true := by show (L2.kitB "int" "int").getD false = true; decide +kernel
theorem isi_int_str {i} : isiD "int" (.str i) = false := by show (L2.kitB "str" "int").getD false = false; decide +kernel
theorem isi_int_bl {i} : isiD "int" (.bool i) = true := by show (L2.kitB "bool" "int").getD false = true; decide +kernel
theorem isi_int_non : isiD "int" .none = false := by show (L2.kitB "NoneType" "int").getD false = false; decide +kernel
section
variable {K : Fg} {ω : Om} {H : Hp} {v : V} {r : Res}
theorem Rp.ty {d : D} (h : Rp K ω H v d) : TyX K H v (.type (tyD d)) := by
  cases h with
  | non => exact .base .non
  | bl b => exact .base (.bl b)
  | int i => exact .base (.int i)
  | str x => exact .base (.str x)
  | lst hs ha => exact .base (.lst hs.1)
  | tup hs ha =>
    rcases hs with ⟨h, _⟩ | ⟨o, _, _, h, c, _⟩
    · exact .base (.tup h)
    · exact .kTuple h c
  | scr hs =>
    rename_i a ns
    have e : tyD (scrD ns) = "list" := by show (bif isScr (ns.map fun n => (PyData.none, PyData.int n)) then "list" else "dict") = "list"; rw [isScr_map]; rfl
    rw [e]
    rcases hs with ⟨h | ⟨o, h⟩, _⟩ | ⟨o, _, _, h, c, _⟩
    · exact .base (.lst h)
    · exact .base (.frz h)
    · exact .kList h c
  | dct h _ _ => exact .base (.dK h)
theorem Vw.ty (h : Vw K ω H v r) : TyX K H v (.type (tyD r.d)) := by
  cases r with
  | v k d => exact Rp.ty (d := d) h
  | b j k d =>
    have h' : OwR K ω H k (Ow.own j) [] v d := h
    cases k with
    | zero => exact Rp.ty (d := d) h'
    | succ k =>
      rcases h' with ⟨_, h'⟩ | ⟨a, vs, ds, e1, e2, h1, _⟩ | ⟨a, kvs, es, e1, e2, h1, _⟩
      · exact Rp.ty h'
      · subst e1; subst e2; exact .base (.lst h1)
      · subst e1; subst e2; exact .base (.dK h1)
end
def oIsi (Ts : List String) : O1 := fun r R => R 0 (.bool (Ts.any fun T => isiD T r.d))
theorem clsV_all : ∀ Ts : List String, Paired ClsV (Ts.map V.ty) (Ts.map Value.type)
  | [] => .nil
  | T :: Ts => .cons (.ty T) (clsV_all Ts)
theorem kit_any {K : Fg} {d : D} : ∀ Ts : List String, (Ts.all fun T => tyNames.all fun s => (L2.kitB s T).isSome) = true → PySem.W.kitAny K (.type (tyD d)) (Ts.map Value.type) = some (Ts.any fun T => isiD T d)
  | [], _ => rfl
  | T :: Ts, h => by
    rw [List.all_cons, Bool.and_eq_true] at h
    refine kitAny_cons (kit_ty (isiD_ok h.1 d)) (fun e => ?_) (fun e => ?_)
    · rw [List.any_cons, e, Bool.false_or]
      exact kit_any Ts h.2
    · rw [List.any_cons, e, Bool.true_or]
section
variable {X : Cx} {e : Expr} {fa : FE} {p p2 p3 pos : Pos} {T : Str} {t : String}
theorem se_isi (t : String) (hm : X.mg "isinstance" = none) (hm2 : X.mg T = none) (ha : SE X e fa) (hg : Gl X "isinstance" := by rfl) (hg2 : Gl X T := by rfl) (hv : bootBuiltins T = some (.type t) := by decide +kernel) (ht : (tyNames.all fun s => (L2.kitB s t).isSome) = true := by decide +kernel)
    (hn : T ≠ "__name__" := by decide) (hd : (T == ("__debug__" : Str)) = false := by decide)
    (he : starEach [e, .Name T p2] X.env = (false, eval e X.env) :: starEach [.Name T p2] X.env := by rfl) (he2 : starEach [.Name T p2] X.env = (false, eval (.Name T p2) X.env) :: starEach [] X.env := by rfl) (hpl : (backTo pos (starEach [.Name T p2] X.env)).any (·.1) = false := by rfl) :
    SE X (.Call (.Name "isinstance" p) [e, .Name T p2] [] pos) (fOp1 (oIsi [t]) fa) := by
  obtain ⟨w, q, s⟩ := ha.ex
  refine ⟨_, pe_callB call_isi hg hm (id := "isinstance") (by decide +kernel) (pa_cons q (pa_cons (pe_bltn (v := .ty t) (u := .type t) hg2 hm2 hv rfl hn hd) pa_nil he2) he) (by decide) (by decide) he hpl, fun ω T' env σ H R Q rel fre hR qq => ?_⟩
  refine s ω T' env σ H _ _ rel fre hR fun v H1 ω1 e1 r rel1 st1 fr1 rr1 h1 => ?_
  refine ⟨v, .ty t, _, _, _, rfl, .ty t, (rr1.gc (T := T') rel1 (Nat.le_refl _)).ty, kit_ty (isiD_ok ht r.d), ?_⟩
  have h2 : R (.v 0 (.bool ([t].any fun T => isiD T r.d))) e1 := ap1_cl h1
  rw [List.any_cons, List.any_nil, Bool.or_false] at h2
  exact (out_of (R := R) (rel1.gc T') (st1.gc fre) qq).bl gc_free h2
theorem se_isiT {es : List Expr} {k : Nat} (Ts : List String) {ta : TA} (hm : X.mg "isinstance" = none) (ha : SE X e fa) (hts : PA X es ta) (hta : ∀ σ H Q, Q (Ts.map V.ty) H → ta σ H Q) (hg : Gl X "isinstance" := by rfl) (ht : (Ts.all fun T => tyNames.all fun s => (L2.kitB s T).isSome) = true := by decide +kernel) (hl : Ts.length ≤ sizeLine := by decide)
    (he : starEach [e, .Tuple es k p2] X.env = (false, eval e X.env) :: starEach [.Tuple es k p2] X.env := by rfl) (he2 : starEach [.Tuple es k p2] X.env = (false, eval (.Tuple es k p2) X.env) :: starEach [] X.env := by rfl) (hpl : (backTo pos (starEach [.Tuple es k p2] X.env)).any (·.1) = false := by rfl) :
    SE X (.Call (.Name "isinstance" p) [e, .Tuple es k p2] [] pos) (fOp1 (oIsi Ts) fa) := by
  obtain ⟨w, q, s⟩ := ha.ex
  refine ⟨_, pe_callB call_isiT hg hm (id := "isinstance") (by decide +kernel) (pa_cons q (pa_cons (pe_tup hts) pa_nil he2) he) (by decide) (by decide) he hpl, fun ω T' env σ H R Q rel fre hR qq => ?_⟩
  refine s ω T' env σ H _ _ rel fre hR fun v H1 ω1 e1 r rel1 st1 fr1 rr1 h1 => ?_
  refine hta _ _ _ ⟨by rw [List.length_map]; exact hl, fun a ha' => ?_⟩
  have vw := rr1.gc (T := T') rel1 (Nat.le_refl _)
  have gr : Grow (gc T' ω1) H1 (putO a .far (gc T' ω1)) (upd H1 a (.tup (Ts.map V.ty))) := put_grow ha'
  have vw2 : Vw X.K (putO a .far (gc T' ω1)) (upd H1 a (.tup (Ts.map V.ty))) v r := by
    cases r with
    | v kk d => exact Rp.sh gr.step.sh _ _ vw
    | b j kk d => exact OwR.go gr.step.sh (fun b u p z1 z2 => by obtain ⟨y1, y2⟩ := gr b u z1; exact ⟨y1, y2.trans z2⟩) _ _ _ _ vw
  refine ⟨v, a, _, _, _, _, rfl, upd_same, clsV_all Ts, vw2.ty, kit_any Ts ht, ?_⟩
  have fr2 : Free (putO a .far (gc T' ω1)) T' := fun b t p e => by
    by_cases hb : b = a
    · subst hb; rw [putO_same] at e; cases e
    · rw [putO_ne hb] at e; exact gc_free b t p e
  exact (out_of (R := R) ((rel1.gc T').grow gr) ((st1.gc fre).grow gr) qq).bl fr2 (ap1_cl h1)
theorem pa_ty0 : PA X [] (fun σ H Q => Q (([] : List String).map V.ty) H) := pa_nil
theorem pa_tyC {es : List Expr} {t : String} {Ts : List String} (hr : PA X es (fun σ H Q => Q (Ts.map V.ty) H)) (hm2 : X.mg T = none) (hg2 : Gl X T := by rfl) (hv : bootBuiltins T = some (.type t) := by decide +kernel)
    (hn : T ≠ "__name__" := by decide) (hd : (T == ("__debug__" : Str)) = false := by decide) (he2 : starEach (.Name T p2 :: es) X.env = (false, eval (.Name T p2) X.env) :: starEach es X.env := by rfl) :
    PA X (.Name T p2 :: es) (fun σ H Q => Q ((t :: Ts).map V.ty) H) := pa_cons (pe_bltn (v := .ty t) (u := .type t) hg2 hm2 hv rfl hn hd) hr he2
end

section
variable {X : Cx}
/-- sorted of a list of pairs of ints, held or known: a new list of the same pairs -/
def rSortedPT (K : PySem.W.Frag) : List V → Hp → VK → Prop := fun vs H Q => ∃ a xs, vs = [V.ref a] ∧ SqL K H a xs ∧ (∀ x ∈ xs, ∃ t i j, x = V.ref t ∧ SqT K H t [V.int i, V.int j]) ∧
  ∀ ys p, ys.Perm xs → H p = none → Q (.ref p) (upd H p (.lst ys))
theorem cr_sortedPT : CallR X (.builtin "sorted") (rSortedPT X.K) := by
  intro pins s σ H vs us Q I r h
  obtain ⟨a, xs, rfl, hs, hx, q⟩ := h
  obtain ⟨its, rv, hl, hz⟩ := I.list hs
  obtain ⟨u, rfl, ru⟩ := vals1 r
  obtain rfl : u = Value.ref a := ru
  obtain ⟨e1, e2⟩ := refs_back rv fun x m => by
    obtain ⟨t, _, _, e, _⟩ := hx x m
    exact ⟨t, e⟩
  refine Srt.sorted_pairs hl.isList (by rw [← rv.length]; exact hz) (fun v hv => ?_) fun h' d out hp k hd hn => ?_
  · obtain ⟨t, rfl⟩ := e2 v hv
    have hm : V.ref t ∈ xs := by rw [e1]; exact List.mem_map.mpr ⟨_, hv, rfl⟩
    obtain ⟨t', i, j, e, ht⟩ := hx _ hm
    cases e
    obtain ⟨its2, r2, hT, _⟩ := I.tuple ht
    obtain ⟨u1, u2, rfl, ri, rj⟩ := vals2 r2
    obtain ⟨t1, rfl⟩ := ri
    obtain ⟨t2, rfl⟩ := rj
    obtain ⟨o, ho, hc, n, hd⟩ := hT
    exact ⟨i, j, t, o, t1, t2, n, rfl, ho, hc, hd⟩
  · have h3 : ∀ u ∈ out, ∃ a, u = Value.ref a := fun u hu => e2 u (hp.mem_iff.mp hu)
    obtain ⟨n, hn⟩ := hn
    refine ⟨.ref d, upd H d (.lst (out.map backV)), I.laid (t' := s.toks) k hd ⟨?_, out, n, vals_back h3, hn⟩, rfl, q _ d ?_ (I.hok.fresh hd)⟩
    · rw [List.length_map, hp.length_eq, ← rv.length]; exact hz
    · rw [e1]; exact hp.map backV
end
/-- a permutation of what is held tells one of what is told -/
theorem RpAll.permF {K : Fg} {ω : Om} {H : Hp} {α : Type} (f : α → D) {ys xs : List V} (h : ys.Perm xs) : ∀ {ns : List α}, RpAll K ω H xs (ns.map f) → ∃ ms : List α, ms.Perm ns ∧ RpAll K ω H ys (ms.map f) := by
  induction h with
  | nil => intro ns h; exact ⟨ns, .refl _, h⟩
  | cons v p ih =>
    intro ns h
    cases ns with
    | nil => cases h
    | cons n ns =>
      cases h with
      | cons a b =>
        obtain ⟨ms, p, h⟩ := ih b
        exact ⟨n :: ms, p.cons n, .cons a h⟩
  | swap v w l =>
    intro ns h
    match ns, h with
    | n :: m :: ns, .cons a (.cons b c) => exact ⟨m :: n :: ns, .swap n m ns, .cons b (.cons a c)⟩
  | trans p q ih1 ih2 =>
    intro ns h
    obtain ⟨ms, r, h⟩ := ih2 h
    obtain ⟨ks, s, h⟩ := ih1 h
    exact ⟨ks, s.trans r, h⟩
/-- a pair of ints -/
def ijD (p : Int × Int) : D := .tuple [.int p.1, .int p.2]
theorem RpAll.pairs {K : Fg} {ω : Om} {H : Hp} : ∀ {xs : List V} {ps : List (Int × Int)}, RpAll K ω H xs (ps.map ijD) → ∀ x ∈ xs, ∃ t i j, x = V.ref t ∧ SqT K H t [V.int i, V.int j]
  | _, [], .nil => fun x hx => nomatch hx
  | _, p :: ps, .cons a b => fun x hx => by
    rcases List.mem_cons.mp hx with e | hx
    · subst e
      cases a with
      | tup h r =>
        cases r with
        | cons r1 r2 =>
          cases r2 with
          | cons r2 r3 =>
            cases r3
            cases r1
            cases r2
            exact ⟨_, _, _, rfl, h.seq⟩
    · exact RpAll.pairs b x hx
/-! ### sorted of a tuple of ints -/
section
variable {prog : Program} {w : World} {A : Around} {E : Value → Shared → Prop} {s : Shared}
theorem collect_tup {l : Addr} {vs : List Value} {Q : List Value → Shared → Prop} (hl : s.heap.IsTuple l vs.toArray) (hz : vs.length ≤ sizeLine)
    (h : Q vs { s with heap := (s.heap.push (seqObj "list" #[] 0)).update s.heap.objs.size (Obj.mapSeq (· ++ vs.toArray)) }) : wpAny (model prog w) A (collect (.ref l)) Q E s := by
  obtain ⟨o, ho, hc, n, hd⟩ := hl
  have ho' : (s.heap.push (seqObj "list" #[] 0)).get? l = some o := Heap.get?_push_of_some _ ho
  unfold collect
  refine wpAny_bind (wpAny_runValue (codeAny_builtin entry_proto_collect' ?_))
  show wpAny _ _ (do again (.builtin "list.__iadd__" ⟨[← newList [], .ref l], []⟩)) _ _ s
  refine wpAny_bind (wpAny_newList (wpAny_pure ⟨Code.quiet_builtin _ (by decide +kernel), codeAny_builtin entry_list_iadd' ?_⟩))
  show wpAny _ _ (Builtin.List.listExtendWith (.ref s.heap.objs.size) (.ref l) (.ref s.heap.objs.size)) _ _ { s with heap := s.heap.push (seqObj "list" #[] 0) }
  unfold Builtin.List.listExtendWith
  refine wpAny_bind (wpAny_typeOf (T := "tuple") ⟨o, ho', hc⟩ ?_)
  rw [if_pos (by rw [show (Value.type "tuple" == Value.type "tuple") = true by rfl]; simp)]
  refine wpAny_bind (listItems_at ho' hd ?_)
  refine wpAny_bind (listItems_at (xs := #[]) (n := 0) (Heap.get?_push_size _ rfl) rfl ?_)
  rw [if_neg (by simp)]
  refine wpAny_bind (listUpdate_at (xs := #[]) (n := 0) (Heap.get?_push_size _ rfl) rfl ?_ (Nat.zero_le _) (by show (#[] ++ vs.toArray).size ≤ sizeLine + 1; simp only [Array.size_append, List.size_toArray, List.length_nil]; omega))
  refine wpAny_pure ?_
  show wpAny (model prog w) A (do
      let o ← load s.heap.objs.size
      match o.data with
      | .seq xs _ => pure xs.toList
      | _ => unsupported "internal:collect") Q E { s with heap := (s.heap.push (seqObj "list" #[] 0)).update s.heap.objs.size (Obj.mapSeq (· ++ vs.toArray)) }
  refine wpAny_bind (wpAny_load (get?_update_seq (Heap.get?_push_size _ rfl) _) ?_)
  show wpAny _ _ (pure ((#[] : Array Value) ++ vs.toArray).toList) Q E _
  rw [show ((#[] : Array Value) ++ vs.toArray).toList = vs by simp]
  exact wpAny_pure h
open SrtO Srt in
theorem sorted_tup {l : Addr} {vs : List Value} {ltv : Value → Value → Bool} {Q : Value → Shared → Prop} (O : Swo ltv) (hl : s.heap.IsTuple l vs.toArray) (hz : vs.length ≤ sizeLine)
    (hS : 2 ≤ vs.length → ∀ (h₁ : Heap) (a : Addr), SortableO prog w A.in1.in1 { s with heap := h₁ } a vs ltv)
    (h : ∀ out : List Value, Srtd ltv out → Stb ltv out vs → Q (.ref (s.heap.objs.size + 1)) { s with heap := sortedAll s.heap vs out.toArray }) :
    wpAny (model prog w) A (call (.builtin "sorted") [.ref l]) Q E s := by
  refine Calls.call_function_entry kind_sorted plain_sorted entry_sorted (args_sorted1 _) ?_
  unfold Builtin.«sorted»
  refine wpAny_bind (m := checkCount "sorted" 1 1 _) (wpAny_pure ?_)
  refine wpAny_bind (collect_tup hl hz ?_)
  refine wpAny_bind (wpAny_newList ?_ hz)
  have hsz : ((s.heap.push (seqObj "list" #[] 0)).update s.heap.objs.size (Obj.mapSeq (· ++ vs.toArray))).objs.size = s.heap.objs.size + 1 := by
    rw [Heap.size_update, size_push']
  have hoL : (((s.heap.push (seqObj "list" #[] 0)).update s.heap.objs.size (Obj.mapSeq (· ++ vs.toArray))).push (seqObj "list" vs.toArray 0)).get? (s.heap.objs.size + 1) = some (seqObj "list" vs.toArray 0) := by
    rw [← hsz]; exact Heap.get?_push_size _ rfl
  show wpAny _ _ _ _ _ { s with heap := ((s.heap.push (seqObj "list" #[] 0)).update s.heap.objs.size (Obj.mapSeq (· ++ vs.toArray))).push (seqObj "list" vs.toArray 0) }
  rw [hsz]
  exact wpAny_bind (wpAny_holding (wpAny_call_entry slot_list_sort ⟨_, hoL, rfl⟩ entry_list_sort (list_sort_ord O hoL hz (fun h2 => hS h2 _ _) fun out hs hb => ⟨_, rfl, wpAny_pure ⟨_, rfl, h out hs hb⟩⟩) (args_list_sort _)))
end
def rSortedIT (K : PySem.W.Frag) : List V → Hp → VK → Prop := fun vs H Q => ∃ (a : Addr) (ns : List Int), vs = [V.ref a] ∧ SqT K H a (ns.map V.int) ∧
  ∀ (ns' : List Int) (p : Addr), ns'.Perm ns → ns'.Pairwise (· ≤ ·) → H p = none → Q (.ref p) (upd H p (.lst (ns'.map V.int)))
theorem cr_sortedIT {X : Cx} : CallR X (.builtin "sorted") (rSortedIT X.K) := by
  intro pins s σ H vs us Q I r h
  obtain ⟨a, ns, rfl, hs, q⟩ := h
  obtain ⟨its, rv, hl, hz⟩ := I.tuple hs
  rw [Vals.ref1 r]
  have hi := rv.ints
  refine sorted_tup SrtO.swo_int hl (by rw [← rv.length]; exact hz) (fun h2 h₁ a' => SrtO.ints_sortable hi h2) fun out h1 h2 => ?_
  obtain ⟨k1, k2, k3⟩ := SrtO.ints_out hi h1 h2
  obtain ⟨ep, he'⟩ := PyProof.Rows.sortedAll_at s.heap its out.toArray
  have hlen : ((out.map SrtO.iv).map V.int).length ≤ sizeLine := by
    rw [List.length_map, k2.length_eq]
    rw [List.length_map] at hz
    exact hz
  exact ⟨.ref _, upd H (s.heap.objs.size + 1) (.lst ((out.map SrtO.iv).map V.int)), I.laid (t' := s.toks) (fun _ _ => PyProof.Rows.sortedAll_old) (Nat.le_succ _) ⟨hlen, out, ep, vals_of_ints k1, he'⟩, rfl, q _ _ k2 k3 (I.hok.fresh (Nat.le_succ _))⟩
/-! ### all, any, min, max, sorted -/
def dAll (f : Prop) (R : KC) : D → Prop
  | .list ds => f ∧ ∃ bs : List Bool, ds = bs.map PyData.bool ∧ R 0 (.bool (bs.all id))
  | _ => False
def dAny (f : Prop) (R : KC) : D → Prop
  | .list ds => f ∧ ∃ bs : List Bool, ds = bs.map PyData.bool ∧ R 0 (.bool (bs.any id))
  | _ => False
def dMax (f : Prop) (R : KC) : D → Prop
  | .list ds => f ∧ ∃ ns : List Int, ds = ns.map PyData.int ∧ 0 < ns.length ∧ ∀ m, m ∈ ns → (∀ y, y ∈ ns → y ≤ m) → R 0 (.int m)
  | .tuple ds => ∃ ns : List Int, ds = ns.map PyData.int ∧ 0 < ns.length ∧ ∀ m, m ∈ ns → (∀ y, y ∈ ns → y ≤ m) → R 0 (.int m)
  | _ => False
def dMin (f : Prop) (R : KC) : D → Prop
  | .list ds => f ∧ ∃ ns : List Int, ds = ns.map PyData.int ∧ 0 < ns.length ∧ ∀ m, m ∈ ns → (∀ y, y ∈ ns → m ≤ y) → R 0 (.int m)
  | .tuple ds => ∃ ns : List Int, ds = ns.map PyData.int ∧ 0 < ns.length ∧ ∀ m, m ∈ ns → (∀ y, y ∈ ns → m ≤ y) → R 0 (.int m)
  | _ => False
def dSorted (f : Prop) (R : KC) : D → Prop
  | .list ds => f ∧ ((∃ ns : List Int, ds = ns.map PyData.int ∧ ∀ ns' : List Int, ns'.Perm ns → ns'.Pairwise (· ≤ ·) → R 1 (.list (ns'.map PyData.int))) ∨ (∃ ps : List (Int × Int), ds = ps.map ijD ∧ ∀ ps' : List (Int × Int), ps'.Perm ps → R 1 (.list (ps'.map ijD))))
  | .tuple ds => ∃ ns : List Int, ds = ns.map PyData.int ∧ ∀ ns' : List Int, ns'.Perm ns → ns'.Pairwise (· ≤ ·) → R 1 (.list (ns'.map PyData.int))
  | _ => False
def oAll : O1 := fun r R => dAll (flat r) R r.d
def oAny : O1 := fun r R => dAny (flat r) R r.d
def oMax : O1 := fun r R => dMax (flat r) R r.d
def oMin : O1 := fun r R => dMin (flat r) R r.d
def oSorted : O1 := fun r R => dSorted (flat r) R r.d
section
variable {X : Cx}
theorem alikeAll_ints (ns : List Int) : PySem.W.AlikeAll (ns.map PyData.int) := by
  refine ⟨fun x hx y hy => ?_, fun x hx => ?_⟩
  · obtain ⟨i, _, rfl⟩ := List.mem_map.mp hx
    obtain ⟨j, _, rfl⟩ := List.mem_map.mp hy
    rfl
  · obtain ⟨i, _, rfl⟩ := List.mem_map.mp hx
    exact fun z => nomatch z
theorem depth_ints : ∀ ns : List Int, PyData.depthAll (ns.map PyData.int) = 0
  | [] => rfl
  | n :: ns => by rw [List.map_cons, PyData.depthAll, depth_ints ns]; rfl
theorem dpAll_ints {K : Fg} {H : Hp} : ∀ ns : List Int, DpAll K H (ns.map V.int) (ns.map PyData.int)
  | [] => .nil
  | n :: ns => .cons (.int n) (dpAll_ints ns)
theorem foldl_max : ∀ (ns : List Int) (n : Int), (ns.foldl max n) ∈ n :: ns ∧ ∀ y ∈ n :: ns, y ≤ ns.foldl max n
  | [], n => ⟨by simp, by simp⟩
  | k :: ns, n => by
    obtain ⟨h1, h2⟩ := foldl_max ns (max n k)
    rw [List.foldl_cons]
    refine ⟨?_, fun y hy => ?_⟩
    · rcases List.mem_cons.mp h1 with e | e
      · rw [e]
        by_cases z : n ≤ k
        · rw [Int.max_eq_right z]; simp
        · rw [Int.max_eq_left (by omega)]; simp
      · simp [e]
    · have h3 := h2 (max n k) (by simp)
      rcases List.mem_cons.mp hy with e | hy
      · subst e; omega
      · rcases List.mem_cons.mp hy with e | hy
        · subst e; omega
        · exact h2 y (by simp [hy])
theorem foldl_min : ∀ (ns : List Int) (n : Int), (ns.foldl min n) ∈ n :: ns ∧ ∀ y ∈ n :: ns, ns.foldl min n ≤ y
  | [], n => ⟨by simp, by simp⟩
  | k :: ns, n => by
    obtain ⟨h1, h2⟩ := foldl_min ns (min n k)
    rw [List.foldl_cons]
    refine ⟨?_, fun y hy => ?_⟩
    · rcases List.mem_cons.mp h1 with e | e
      · rw [e]
        by_cases z : n ≤ k
        · rw [Int.min_eq_left z]; simp
        · rw [Int.min_eq_right (by omega)]; simp
      · simp [e]
    · have h3 := h2 (min n k) (by simp)
      rcases List.mem_cons.mp hy with e | hy
      · subst e; omega
      · rcases List.mem_cons.mp hy with e | hy
        · subst e; omega
        · exact h2 y (by simp [hy])
def rMaxT (K : Fg) : List V → Hp → VK → Prop := fun vs H Q => ∃ (a : Addr) (ns : List Int), vs = [V.ref a] ∧ SqT K H a (ns.map V.int) ∧ 0 < ns.length ∧ ∀ m, m ∈ ns → (∀ y, y ∈ ns → y ≤ m) → Q (.int m) H
def rMinT (K : Fg) : List V → Hp → VK → Prop := fun vs H Q => ∃ (a : Addr) (ns : List Int), vs = [V.ref a] ∧ SqT K H a (ns.map V.int) ∧ 0 < ns.length ∧ ∀ m, m ∈ ns → (∀ y, y ∈ ns → m ≤ y) → Q (.int m) H
theorem cr_maxT (hc : X.calm = true) (hu : X.A.units + 1 < cLine) : CallR X (.builtin "max") (rMaxT X.K) := by
  intro pins s σ H vs us Q I r h
  obtain ⟨a, ns, rfl, hs, hne, q⟩ := h
  obtain ⟨its, rv, hl, _⟩ := I.tuple hs
  rw [Vals.ref1 r]
  match ns, hne with
  | n :: ns, _ =>
    obtain ⟨as, ra⟩ := Dp.readsAll I ((n :: ns).map PyData.int) _ _ (dpAll_ints (n :: ns)) rv
    refine PySem.W.max_tuple_data (I.ok.hd hc) (show s.heap.IsTuple a its.toArray from hl) (x := .int n) (xs := ns.map PyData.int) (as := as) (by simpa using ra) (alikeAll_ints (n :: ns)) (by
      have := depth_ints (n :: ns)
      rw [List.map_cons] at this
      rw [this]; exact hu) fun i v h' tk bs _ hr hk => ?_
    rw [PySem.W.maxD_ints] at hr
    cases hr with
    | int _ t =>
      obtain ⟨m1, m2⟩ := foldl_max ns n
      exact ⟨.int _, H, I.kept hk, ⟨_, rfl⟩, q _ m1 m2⟩
theorem cr_minT (hc : X.calm = true) (hu : X.A.units + 1 < cLine) : CallR X (.builtin "min") (rMinT X.K) := by
  intro pins s σ H vs us Q I r h
  obtain ⟨a, ns, rfl, hs, hne, q⟩ := h
  obtain ⟨its, rv, hl, _⟩ := I.tuple hs
  rw [Vals.ref1 r]
  match ns, hne with
  | n :: ns, _ =>
    obtain ⟨as, ra⟩ := Dp.readsAll I ((n :: ns).map PyData.int) _ _ (dpAll_ints (n :: ns)) rv
    refine PySem.W.min_tuple_data (I.ok.hd hc) (show s.heap.IsTuple a its.toArray from hl) (x := .int n) (xs := ns.map PyData.int) (as := as) (by simpa using ra) (alikeAll_ints (n :: ns)) (by
      have := depth_ints (n :: ns)
      rw [List.map_cons] at this
      rw [this]; exact hu) fun i v h' tk bs _ hr hk => ?_
    rw [PySem.W.minD_ints] at hr
    cases hr with
    | int _ t =>
      obtain ⟨m1, m2⟩ := foldl_min ns n
      exact ⟨.int _, H, I.kept hk, ⟨_, rfl⟩, q _ m1 m2⟩
theorem cr_or {u : Value} {r r' : List V → Hp → VK → Prop} (h : CallR X u r) (h' : CallR X u r') : CallR X u (fun xs H Q => r xs H Q ∨ r' xs H Q) := fun pins s σ H xs us Q I rv q => q.elim (h pins s σ H xs us Q I rv) (h' pins s σ H xs us Q I rv)
theorem so_all {K : Fg} : SndO1 K (fun x H Q => rAll K [x] H Q) oAll := by
  intro ω T H x r1 R Q fr v1 h q
  have h' : dAll (flat r1) R r1.d := h
  generalize e1 : r1.d = d1 at h'
  cases d1 <;> first
    | exact h'.elim
    | skip
  obtain ⟨f, bs, rfl, hR⟩ := h'
  obtain ⟨a, vs, rfl, ha, hp⟩ := v1.lst f e1
  exact ⟨a, bs, rfl, .inl (.inl (by rw [← RpAll.of_bools bs hp]; exact ha)), q.bl fr hR⟩
theorem so_any {K : Fg} : SndO1 K (fun x H Q => rAny K [x] H Q) oAny := by
  intro ω T H x r1 R Q fr v1 h q
  have h' : dAny (flat r1) R r1.d := h
  generalize e1 : r1.d = d1 at h'
  cases d1 <;> first
    | exact h'.elim
    | skip
  obtain ⟨f, bs, rfl, hR⟩ := h'
  obtain ⟨a, vs, rfl, ha, hp⟩ := v1.lst f e1
  exact ⟨a, bs, rfl, .inl (.inl (by rw [← RpAll.of_bools bs hp]; exact ha)), q.bl fr hR⟩
theorem so_max {K : Fg} : SndO1 K (fun x H Q => rMax K [x] H Q ∨ rMaxT K [x] H Q) oMax := by
  intro ω T H x r1 R Q fr v1 h q
  have h' : dMax (flat r1) R r1.d := h
  generalize e1 : r1.d = d1 at h'
  cases d1 <;> first
    | exact h'.elim
    | skip
  · obtain ⟨f, ns, rfl, hn, hR⟩ := h'
    obtain ⟨a, vs, rfl, ha, hp⟩ := v1.lst f e1
    exact .inl ⟨a, ns, rfl, .inl (.inl (by rw [← RpAll.of_ints ns hp]; exact ha)), hn, fun m h1 h2 => q.int fr (hR m h1 h2)⟩
  · obtain ⟨ns, rfl, hn, hR⟩ := h'
    obtain ⟨a, vs, rfl, ha, hp⟩ := v1.tup e1
    exact .inr ⟨a, ns, rfl, by rw [← RpAll.of_ints ns hp]; exact ha, hn, fun m h1 h2 => q.int fr (hR m h1 h2)⟩
theorem so_min {K : Fg} : SndO1 K (fun x H Q => rMin K [x] H Q ∨ rMinT K [x] H Q) oMin := by
  intro ω T H x r1 R Q fr v1 h q
  have h' : dMin (flat r1) R r1.d := h
  generalize e1 : r1.d = d1 at h'
  cases d1 <;> first
    | exact h'.elim
    | skip
  · obtain ⟨f, ns, rfl, hn, hR⟩ := h'
    obtain ⟨a, vs, rfl, ha, hp⟩ := v1.lst f e1
    exact .inl ⟨a, ns, rfl, .inl (.inl (by rw [← RpAll.of_ints ns hp]; exact ha)), hn, fun m h1 h2 => q.int fr (hR m h1 h2)⟩
  · obtain ⟨ns, rfl, hn, hR⟩ := h'
    obtain ⟨a, vs, rfl, ha, hp⟩ := v1.tup e1
    exact .inr ⟨a, ns, rfl, by rw [← RpAll.of_ints ns hp]; exact ha, hn, fun m h1 h2 => q.int fr (hR m h1 h2)⟩
theorem so_sorted {K : Fg} : SndO1 K (fun x H Q => (rSortedI K [x] H Q ∨ rSortedPT K [x] H Q) ∨ rSortedIT K [x] H Q) oSorted := by
  intro ω T H x r1 R Q fr v1 h q
  have h' : dSorted (flat r1) R r1.d := h
  generalize e1 : r1.d = d1 at h'
  cases d1 <;> first
    | exact h'.elim
    | skip
  · obtain ⟨f, h'⟩ := h'
    obtain ⟨a, vs, rfl, ha, hp⟩ := v1.lst f e1
    rcases h' with ⟨ns, rfl, hR⟩ | ⟨ps, rfl, hR⟩
    · exact .inl (.inl ⟨a, ns, rfl, .inl (.inl (by rw [← RpAll.of_ints ns hp]; exact ha)), fun ns' p h1 h2 hp' => q.lst fr hp' (RpAll.ints ns') (hR ns' h1 h2)⟩)
    · refine .inl (.inr ⟨a, vs, rfl, .inl (.inl ha), hp.pairs, fun ys p h1 hp' => ?_⟩)
      obtain ⟨ms, h2, h3⟩ := RpAll.permF ijD h1 hp
      exact q.lst fr hp' h3 (hR ms h2)
  · obtain ⟨ns, rfl, hR⟩ := h'
    obtain ⟨a, vs, rfl, ha, hp⟩ := v1.tup e1
    exact .inr ⟨a, ns, rfl, by rw [← RpAll.of_ints ns hp]; exact ha, fun ns' p h1 h2 hp' => q.lst fr hp' (RpAll.ints ns') (hR ns' h1 h2)⟩
variable {e : Expr} {fa : FA} {p pos : Pos}
theorem c1 {u : Value} {r : List V → Hp → VK → Prop} (h : CallR X u r) : CallR X u (fun xs H Q => ∃ x, xs = [x] ∧ r [x] H Q) := cimp h fun xs H Q ⟨x, e, h⟩ => by subst e; exact h
theorem se_all (hc : X.calm = true) (hm : X.mg "all" = none) (ha : SA X [e] fa) (hg : Gl X "all" := by rfl) (he : starEach [e] X.env = [(false, eval e X.env)] := by rfl) : SE X (.Call (.Name "all" p) [e] [] pos) (fOpN (at1 oAll) fa) :=
  se_callB (c1 (cr_all hc)) (so_at1 so_all) (id := "all") (by decide +kernel) hm ha hg (by decide) (by decide) he rfl
theorem se_any (hc : X.calm = true) (hm : X.mg "any" = none) (ha : SA X [e] fa) (hg : Gl X "any" := by rfl) (he : starEach [e] X.env = [(false, eval e X.env)] := by rfl) : SE X (.Call (.Name "any" p) [e] [] pos) (fOpN (at1 oAny) fa) :=
  se_callB (c1 (cr_any hc)) (so_at1 so_any) (id := "any") (by decide +kernel) hm ha hg (by decide) (by decide) he rfl
theorem se_max {k : Nat} (hc : X.calm = true) (hr : Room k X.A) (hm : X.mg "max" = none) (ha : SA X [e] fa) (hg : Gl X "max" := by rfl) (he : starEach [e] X.env = [(false, eval e X.env)] := by rfl) : SE X (.Call (.Name "max" p) [e] [] pos) (fOpN (at1 oMax) fa) :=
  se_callB (c1 (cr_or (cr_max hc) (cr_maxT hc (by have := hu64 hr; omega)))) (so_at1 so_max) (id := "max") (by decide +kernel) hm ha hg (by decide) (by decide) he rfl
theorem se_min {k : Nat} (hc : X.calm = true) (hr : Room k X.A) (hm : X.mg "min" = none) (ha : SA X [e] fa) (hg : Gl X "min" := by rfl) (he : starEach [e] X.env = [(false, eval e X.env)] := by rfl) : SE X (.Call (.Name "min" p) [e] [] pos) (fOpN (at1 oMin) fa) :=
  se_callB (c1 (cr_or (cr_min hc) (cr_minT hc (by have := hu64 hr; omega)))) (so_at1 so_min) (id := "min") (by decide +kernel) hm ha hg (by decide) (by decide) he rfl
theorem se_sorted (hm : X.mg "sorted" = none) (ha : SA X [e] fa) (hg : Gl X "sorted" := by rfl) (he : starEach [e] X.env = [(false, eval e X.env)] := by rfl) : SE X (.Call (.Name "sorted" p) [e] [] pos) (fOpN (at1 oSorted) fa) :=
  se_callB (c1 (cr_or (cr_or cr_sortedI cr_sortedPT) cr_sortedIT)) (so_at1 so_sorted) (id := "sorted") (by decide +kernel) hm ha hg (by decide) (by decide) he rfl
end

/-! ### in, not in; list * int; is of bools -/
def flatD : D → Bool
  | .none => true
  | .bool _ => true
  | .int _ => true
  | .str _ => true
  | _ => false
def inD (d : D) (ds : List D) : Bool := ds.any fun z => PyData.eqv z d
def dIn (p : Bool → Bool) (x : D) (R : KC) : D → Prop
  | .tuple ds => shp x ∧ shp (.tuple ds) ∧ R 0 (.bool (p (inD x ds)))
  | .list ds => shp x ∧ shp (.list ds) ∧ R 0 (.bool (p (inD x ds)))
  | _ => False
def oIn : O2 := fun r1 r2 R => dIn (fun b => b) r1.d R r2.d
def oNotIn : O2 := fun r1 r2 R => dIn (fun b => !b) r1.d R r2.d
def dMulA (f : Prop) (R : KC) : D → D → Prop
  | .int i, .int j => CMul i j ∧ R 0 (.int (i * j))
  | .list ds, .int k => (f ∧ -(2 ^ 63) ≤ k ∧ k < 2 ^ 63 ∧ ds.length * k.toNat ≤ sizeLine) ∧ R 1 (.list (List.replicate k.toNat ds).flatten)
  | .tuple ds, .int k => (ds ≠ [] ∧ 1 ≤ k ∧ k ≤ 1000 ∧ ds.length ≤ 1000) ∧ R 0 (.tuple (List.replicate k.toNat ds).flatten)
  | _, _ => False
def oMulA : O2 := fun r1 r2 R => dMulA (flat r1) R r1.d r2.d
def dIsB (R : KC) : D → D → Prop
  | .bool a, .bool b => R 0 (.bool (decide (a = b)))
  | .none, .bool _ => R 0 (.bool false)
  | _, _ => False
def oIsB : O2 := fun r1 r2 R => dIsB R r1.d r2.d
def dNotB (R : KC) : D → D → Prop
  | .bool a, .bool b => R 0 (.bool (!decide (a = b)))
  | .none, .bool _ => R 0 (.bool true)
  | _, _ => False
def oNotB : O2 := fun r1 r2 R => dNotB R r1.d r2.d
section
variable {X : Cx} {K : Fg} {ω : Om} {H : Hp}
theorem Rp.flatV {v : V} {d : D} (h : Rp K ω H v d) (f : flatD d = true) : L2.flatV v = true := by
  cases h <;> first
    | rfl
    | cases f
theorem Rp.eqV {v w : V} {d e : D} (h : Rp K ω H v d) (h' : Rp K ω H w e) (f : flatD d = true) (f' : flatD e = true) : L2.eqV v w = PyData.eqv d e := by
  cases h <;> first
    | (cases f; done)
    | (cases h' <;> first
        | (cases f'; done)
        | (simp [L2.eqV, PyData.eqv]; done))
theorem inV_eq {x : V} {d : D} (h : Rp K ω H x d) (f : flatD d = true) : ∀ {vs : List V} {ds : List D}, RpAll K ω H vs ds → ds.all flatD = true → vs.all L2.flatV = true ∧ inV x vs = inD d ds
  | _, _, .nil, _ => ⟨rfl, rfl⟩
  | v :: vs, e :: ds, .cons h1 h2, g => by
    rw [List.all_cons, Bool.and_eq_true] at g
    obtain ⟨a, b⟩ := inV_eq h f h2 g.2
    refine ⟨by rw [List.all_cons, h1.flatV g.1, a]; rfl, ?_⟩
    have b' : (vs.any fun y => L2.eqV y x) = ds.any fun z => PyData.eqv z d := b
    show (List.any (v :: vs) fun y => L2.eqV y x) = List.any (e :: ds) fun z => PyData.eqv z d
    rw [List.any_cons, List.any_cons, b', h1.eqV h g.1 f]
theorem Vw.flat {v : V} {r : Res} (h : Vw K ω H v r) (f : flatD r.d = true) : Rp K ω H v r.d := by
  cases r with
  | v k d => exact h
  | b j k d =>
    have h' : OwR K ω H k (Ow.own j) [] v d := h
    cases k with
    | zero => exact h'
    | succ k =>
      rcases h' with ⟨_, h'⟩ | ⟨_, _, _, _, e2, _⟩ | ⟨_, _, _, _, e2, _⟩
      · exact h'
      · subst e2; cases f
      · subst e2; cases f
def rInDT (K : PySem.W.Frag) (p : Bool → Bool) : R2 := fun x y H Q => ∃ d ds, Dp K H x d ∧ Dp K H y (.tuple ds) ∧ SeqAt.shaped d = true ∧ SeqAt.shaped (.tuple ds) = true ∧ Q (.bl (p (ds.any fun z => PyData.eqv z d))) H
theorem op_inDT (hu : X.A.units + 65 < cLine) : OpR X (compareOp .In) (rInDT X.K fun b => b) := by
  intro pins s σ H x y v u Q I rx ry h
  obtain ⟨d, ds, hd, he, sd, se, q⟩ := h
  obtain ⟨as, r1⟩ := Dp.reads I d x v hd rx
  obtain ⟨bs, r2⟩ := Dp.reads I (.tuple ds) y u he ry
  exact SeqAt.in_tuple_reads r2 r1 (SeqAt.canLay_of_shaped se) (SeqAt.canLay_of_shaped sd) (room_in_shaped sd hu) ⟨.bl _, H, I, rfl, q⟩
theorem op_notInDT (hu : X.A.units + 65 < cLine) : OpR X (compareOp .NotIn) (rInDT X.K fun b => !b) := by
  intro pins s σ H x y v u Q I rx ry h
  obtain ⟨d, ds, hd, he, sd, se, q⟩ := h
  obtain ⟨as, r1⟩ := Dp.reads I d x v hd rx
  obtain ⟨bs, r2⟩ := Dp.reads I (.tuple ds) y u he ry
  exact SeqAt.notIn_tuple_reads r2 r1 (SeqAt.canLay_of_shaped se) (SeqAt.canLay_of_shaped sd) (room_in_shaped sd hu) ⟨.bl _, H, I, rfl, q⟩
theorem so_in : SndO2 K (fun x y H Q => rInDT K (fun b => b) x y H Q ∨ rInD K x y H Q) oIn := by
  intro ω T H x y r1 r2 R Q fr v1 v2 h q
  have h' : dIn (fun b => b) r1.d R r2.d := h
  generalize e2 : r2.d = d2 at h'
  cases d2 <;> first
    | exact h'.elim
    | skip
  · obtain ⟨s1, s2, hR⟩ := h'
    refine .inr ⟨_, _, v1.dp (SeqAt.canLay_of_shaped s1), ?_, s1, s2, q.bl fr hR⟩
    have := v2.dp (by rw [e2]; exact SeqAt.canLay_of_shaped s2)
    rw [e2] at this
    exact this
  · obtain ⟨s1, s2, hR⟩ := h'
    refine .inl ⟨_, _, v1.dp (SeqAt.canLay_of_shaped s1), ?_, s1, s2, q.bl fr hR⟩
    have := v2.dp (by rw [e2]; exact SeqAt.canLay_of_shaped s2)
    rw [e2] at this
    exact this
theorem so_notIn : SndO2 K (fun x y H Q => rInDT K (fun b => !b) x y H Q ∨ rNotInD K x y H Q) oNotIn := by
  intro ω T H x y r1 r2 R Q fr v1 v2 h q
  have h' : dIn (fun b => !b) r1.d R r2.d := h
  generalize e2 : r2.d = d2 at h'
  cases d2 <;> first
    | exact h'.elim
    | skip
  · obtain ⟨s1, s2, hR⟩ := h'
    refine .inr ⟨_, _, v1.dp (SeqAt.canLay_of_shaped s1), ?_, s1, s2, q.bl fr hR⟩
    have := v2.dp (by rw [e2]; exact SeqAt.canLay_of_shaped s2)
    rw [e2] at this
    exact this
  · obtain ⟨s1, s2, hR⟩ := h'
    refine .inl ⟨_, _, v1.dp (SeqAt.canLay_of_shaped s1), ?_, s1, s2, q.bl fr hR⟩
    have := v2.dp (by rw [e2]; exact SeqAt.canLay_of_shaped s2)
    rw [e2] at this
    exact this
theorem RpAll.rep {vs : List V} {ds : List D} (h : RpAll K ω H vs ds) : ∀ n : Nat, RpAll K ω H (List.replicate n vs).flatten (List.replicate n ds).flatten
  | 0 => .nil
  | n + 1 => by
    rw [List.replicate_succ, List.replicate_succ, List.flatten_cons, List.flatten_cons]
    exact h.append (RpAll.rep h n)
theorem tuple_mul1 (l : Addr) (items : Array Value) (n : Nat) (dd : Option Addr) (sl : Array (Option Value)) (u : Tok) :
    Meets (Builtin.«tuple.__mul__» ⟨[.ref l, .int 1 u], []⟩) (fun _ R s => s.heap.get? l = some { cls := .type "tuple", dict := dd, data := .seq items n, slots := sl } ∧
      R (.ok (.ret (Value.ref l))) s) :=
  .of_wp fun prog w A R s h => by
    obtain ⟨hp, g, d, tk, os⟩ := s
    obtain ⟨hl, h⟩ := h
    have f1 := AutoSeq1.idx_int
    have c1 : (items.isEmpty || (1 : Int) == 1) = true := by rw [Bool.or_eq_true]; exact .inr rfl
    wp_walk using wpAny_loadPart' hl
    repeat (first
      | (refine wpAny_ite_true (decide_eq_true (by rw [c1])) ?_; wp_walk using wpAny_loadPart' hl))
    exact ⟨_, rfl, h⟩
/-- a tuple once over is the same tuple -/
def rRep1 (K : Fg) : R2 := fun x y H Q => ∃ l xs, x = .ref l ∧ y = .int 1 ∧ SqT K H l xs ∧ Q (.ref l) H
theorem op_rep1 : OpR X (binaryOp .Mult) (rRep1 X.K) := by
  intro pins s σ H x y v u Q I rx ry h
  obtain ⟨l, xs, rfl, rfl, hT, q⟩ := h
  cases rx
  obtain ⟨t, rfl⟩ := ry
  obtain ⟨its, r, ⟨⟨cls, dd, data, sl⟩, ho, hc, n, hd⟩, hs⟩ := I.tuple hT
  simp only at hc hd
  subst hc hd
  refine wpAny_binaryOp_repeat_ref (T := "tuple") (U := "int") (by decide) ⟨_, ho, rfl⟩ (fun s' => typeIs_int s' 1 t) noFill_tuple_mul F.fills_int_mul F.slot_int_rmul repeat_tuple F.slot_int_index.lookup
    (call_meets F.slot_int_rmul (typeIs_int s 1 t) F.entry_int_rmul (F.args_int_rmul_2 _ _) (int_rmul_tuple 1 t l its.toArray n dd sl)
      ⟨ho, rfl, ⟨_, ho, rfl⟩, call_meets F.slot_tuple_mul ⟨_, ho, rfl⟩ F.entry_tuple_mul (F.args_tuple_mul_2 _ _) (tuple_mul1 l its.toArray n dd sl t) ⟨ho, ?_⟩⟩)
  exact ⟨.ref l, H, I, rfl, q⟩
theorem so_mulA : SndO2 K (fun x y H Q => rI CMul (fun i j => .int (i * j)) x y H Q ∨ (rRep x y H Q ∨ (rRepT K x y H Q ∨ rRep1 K x y H Q))) oMulA := by
  intro ω T H x y r1 r2 R Q fr v1 v2 h q
  have h' : dMulA (flat r1) R r1.d r2.d := h
  generalize e1 : r1.d = d1 at h'
  generalize e2 : r2.d = d2 at h'
  cases d1 <;> cases d2 <;> first
    | exact h'.elim
    | skip
  · exact .inl ⟨_, _, v1.int e1, v2.int e2, h'.1, q.int fr h'.2⟩
  · obtain ⟨⟨f, b1, b2, hl⟩, hR⟩ := h'
    obtain ⟨a, vs, rfl, ha, hp⟩ := v1.lst f e1
    exact .inr (.inl ⟨a, _, vs, rfl, v2.int e2, ha, b1, b2, by rw [hp.length]; exact hl, fun p hp' => q.lst fr hp' (hp.rep _) hR⟩)
  · obtain ⟨⟨hne, b1, b2, hl⟩, hR⟩ := h'
    rename_i ds k
    have w1 := v1.rpT e1
    obtain ⟨a, vs, rfl, ha, hp⟩ := v1.tup e1
    by_cases hk : k = 1
    · subst hk
      refine .inr (.inr (.inr ⟨a, vs, rfl, v2.int e2, ha, q.same fr w1 ?_⟩))
      have : (List.replicate (1 : Int).toNat ds).flatten = ds := by simp
      rw [this] at hR
      exact hR
    · refine .inr (.inr (.inl ⟨a, _, vs, rfl, v2.int e2, ha, fun z => ?_, by omega, b2, by rw [hp.length]; exact hl, fun p hp' => q.tup fr hp' (hp.rep _) hR⟩))
      subst z
      cases hp
      exact hne rfl
def rIsB2 : R2 := fun x y H Q => rIsB x y H Q ∨ (x = .non ∧ ∃ b : Bool, y = .bl b ∧ Q (.bl false) H)
def rNotB2 : R2 := fun x y H Q => rNotB x y H Q ∨ (x = .non ∧ ∃ b : Bool, y = .bl b ∧ Q (.bl true) H)
theorem op_isB2 : OpR X (compareOp .Is) rIsB2 := OpR.or op_isBl (by
  intro pins s σ H x y v u Q I rx ry ⟨hx, b, hy, q⟩
  subst hx
  subst hy
  cases (show v = Value.none from rx)
  cases (show u = Value.bool b from ry)
  exact wpAny_is_other rfl (fun z => by cases z) ⟨.bl false, H, I, rfl, q⟩)
theorem op_notB2 : OpR X (compareOp .IsNot) rNotB2 := OpR.or op_notBl (by
  intro pins s σ H x y v u Q I rx ry ⟨hx, b, hy, q⟩
  subst hx
  subst hy
  cases (show v = Value.none from rx)
  cases (show u = Value.bool b from ry)
  exact wpAny_isNot_other rfl (fun z => by cases z) ⟨.bl true, H, I, rfl, q⟩)
theorem so_isB : SndO2 K rIsB2 oIsB := by
  intro ω T H x y r1 r2 R Q fr v1 v2 h q
  have h' : dIsB R r1.d r2.d := h
  generalize e1 : r1.d = d1 at h'
  generalize e2 : r2.d = d2 at h'
  cases d1 <;> cases d2 <;> first
    | exact h'.elim
    | exact .inl ⟨_, _, v1.bl e1, v2.bl e2, q.bl fr h'⟩
    | exact .inr ⟨v1.non e1, _, v2.bl e2, q.bl fr h'⟩
theorem so_notB : SndO2 K rNotB2 oNotB := by
  intro ω T H x y r1 r2 R Q fr v1 v2 h q
  have h' : dNotB R r1.d r2.d := h
  generalize e1 : r1.d = d1 at h'
  generalize e2 : r2.d = d2 at h'
  cases d1 <;> cases d2 <;> first
    | exact h'.elim
    | exact .inl ⟨_, _, v1.bl e1, v2.bl e2, q.bl fr h'⟩
    | exact .inr ⟨v1.non e1, _, v2.bl e2, q.bl fr h'⟩
variable {a b c : Expr} {fa fb fc : FE} {pos : Pos}
theorem hu65 {A : Around} {k : Nat} (hr : Room k A) : A.units + 65 < cLine := by have := hr.un; omega
theorem se_in {k : Nat} (hr : Room k X.A) (ha : SE X a fa) (hb : SE X b fb) (hm : behindInMarks .In b = false := by with_unfolding_all rfl) : SE X (.Compare a [.In] [b] pos) (fOp2 oIn fa fb) := se_cmp (OpR.or (op_inDT (hu65 hr)) (op_inD (hu65 hr))) so_in ha hb hm
theorem se_notIn {k : Nat} (hr : Room k X.A) (ha : SE X a fa) (hb : SE X b fb) (hm : behindInMarks .NotIn b = false := by with_unfolding_all rfl) : SE X (.Compare a [.NotIn] [b] pos) (fOp2 oNotIn fa fb) := se_cmp (OpR.or (op_notInDT (hu65 hr)) (op_notInD (hu65 hr))) so_notIn ha hb hm
theorem st_in {k : Nat} (hr : Room k X.A) (ha : SE X a fa) (hb : SE X b fb) (hm : behindInMarks .In b = false := by with_unfolding_all rfl) : STs X (.Compare a [.In] [b] pos) (fTst (fOp2 oIn fa fb)) := st_cmp (OpR.or (op_inDT (hu65 hr)) (op_inD (hu65 hr))) so_in ha hb hm
theorem st_notIn {k : Nat} (hr : Room k X.A) (ha : SE X a fa) (hb : SE X b fb) (hm : behindInMarks .NotIn b = false := by with_unfolding_all rfl) : STs X (.Compare a [.NotIn] [b] pos) (fTst (fOp2 oNotIn fa fb)) := st_cmp (OpR.or (op_notInDT (hu65 hr)) (op_notInD (hu65 hr))) so_notIn ha hb hm
theorem se_mulA (ha : SE X a fa) (hb : SE X b fb) : SE X (.BinOp a .Mult b pos) (fOp2 oMulA fa fb) := se_op (OpR.or op_mul (OpR.or op_rep (OpR.or op_repT op_rep1))) so_mulA ha hb
theorem se_isB (ha : SE X a fa) (hb : SE X b fb) : SE X (.Compare a [.Is] [b] pos) (fOp2 oIsB fa fb) := se_cmp op_isB2 so_isB ha hb
theorem se_notB (ha : SE X a fa) (hb : SE X b fb) : SE X (.Compare a [.IsNot] [b] pos) (fOp2 oNotB fa fb) := se_cmp op_notB2 so_notB ha hb
theorem st_isB (ha : SE X a fa) (hb : SE X b fb) : STs X (.Compare a [.Is] [b] pos) (fTst (fOp2 oIsB fa fb)) := st_cmp op_isB2 so_isB ha hb
theorem st_notB (ha : SE X a fa) (hb : SE X b fb) : STs X (.Compare a [.IsNot] [b] pos) (fTst (fOp2 oNotB fa fb)) := st_cmp op_notB2 so_notB ha hb
end
end Pv

/-! Pv12: zip, enumerate. -/
namespace Pv
open PySem PySem.Spec PyProof.Rows L2
open AutoSeq1 (wpAny_loadPart')
open RZ (ItzT iZipA pi_zipA)

/-! ### enumerate of a tuple -/
def IteT (K : Fg) (a : Addr) : It :=
  ⟨fun i H => ∃ (xs : List V) (x : V), SqT K H a xs ∧ xs[i]? = some x, fun i H v H' => ∃ T x, v = .ref T ∧ H T = none ∧ H' = upd H T (.tup [.int (i : Nat), x]) ∧ ∀ xs, SqT K H a xs → xs[i]? = some x, fun i H => ∃ xs : List V, SqT K H a xs ∧ xs.length ≤ i⟩
theorem turn_enumT {P : Program} {w : World} {K : Fg} {elts : List Expr} {kk : Nat} {tpos : Pos} (a e it : Addr) (hai : a ≠ it) :
    Turn P w K (.Tuple elts kk tpos) (IteT K a) [e, it] e (fun i h => (∃ old, IsEnum h e it ((i : Nat) : Int) old) ∧ h.IsTupleIter it a i ∧ e ≠ it) where
  mem := by simp
  obj := fun i h st b hb => by
    obtain ⟨⟨old, he⟩, ⟨o, ho, hc, hd⟩, _⟩ := st
    have e' : b = e ∨ b = it := by simpa using hb
    rcases e' with z | z
    · rw [z]; exact ⟨_, he, fun v q => nomatch q⟩
    · rw [z]; exact ⟨o, ho, fun v q => by rw [hd] at q; cases q⟩
  keep := fun i h h' st k => let ⟨⟨old, he⟩, hi, hne⟩ := st; ⟨⟨old, k e (by simp) _ he⟩, hi.at fun o q => k it (by simp) o q, hne⟩
  item := by
    intro X hP hw hK hc i pins s σ H E I hf st hg
    subst hP hw hK
    obtain ⟨⟨old, he⟩, hit, hne⟩ := st
    obtain ⟨xs, x, hq, hx⟩ := hg
    obtain ⟨its, rv, p, hz⟩ := I.tuple hq
    obtain ⟨u, hu, ru⟩ := rv.get hx
    have hel : e < s.heap.objs.size := Heap.lt_size he
    have hil : it < s.heap.objs.size := by obtain ⟨_, q, _⟩ := hit; exact Heap.lt_size q
    have hu' : its.toArray[i]? = some u := by simpa using hu
    have hlt : i < its.toArray.size := (Array.getElem?_eq_some_iff.mp hu').1
    have D := Draws.tuple (prog := X.prog) (w := X.w) (A := X.A.in1) (I.ok.hd hc) it a hai its.toArray
    have hea : e ∉ [it, a] := fun hm => by
      rcases List.mem_cons.mp hm with z | hm
      · exact hne z
      · rw [List.mem_singleton.mp hm] at he
        obtain ⟨o, ho, hoc, _⟩ := (show s.heap.IsTuple a its.toArray from p)
        rw [he] at ho
        have this := Option.some.inj ho
        rw [← this] at hoc
        exact absurd (Value.type.inj hoc) (by decide)
    refine PySem.wpAny_pyNext_enum_itemD D he ⟨hit, (show s.heap.IsTuple a its.toArray from p)⟩ hlt hne hea fun x' h' tk hP ho hst hT hsz hk => ?_
    have ex : x' = u := by
      have hP' : its.toArray[i]? = some x' := hP
      rw [hu'] at hP'
      exact (Option.some.inj hP').symm
    subst ex
    obtain ⟨hit', _⟩ := hst
    refine ⟨_, rfl, wpAny_letOwnedTupleGo_enum (s := { s with heap := h', toks := tk + 1 }) ho fun h'' he' sb => ?_⟩
    have hT2 : h''.get? s.heap.objs.size = some { cls := .type "tuple", data := .seq #[.int i tk, x'] } := (sb.2 _ (Nat.ne_of_gt hel)).trans hT
    have new : ObjOk X.prog X.w (upd H s.heap.objs.size (.tup [.int (i : Nat), x])) h'' s.heap.objs.size (.tup [.int (i : Nat), x]) :=
      ⟨by show 2 ≤ sizeLine; decide, [.int i tk, x'], .cons ⟨_, rfl⟩ (.cons ru .nil), ⟨_, hT2, rfl, _, rfl⟩⟩
    have I1 : Inv X pins σ (upd H s.heap.objs.size (.tup [.int (i : Nat), x])) { s with heap := h'', toks := tk + 1 } :=
      I.turnedNew (ch := [e, it]) (fun b ob hb q => (sb.2 b (fun z => hb (by simp [z]))).trans (hk b ob (fun z => hb (by simp [z])) (fun z => hb (by simp [z])) q)) hf (Nat.le_refl _) new
    refine ⟨.ref s.heap.objs.size, _, I1, rfl, ⟨_, x, rfl, I.hok.fresh (Nat.le_refl _), rfl, fun ys hy => by rw [I.tuple_inj hy hq]; exact hx⟩, ⟨⟨x', ?_⟩, hit'.at fun o q => (sb.2 it (Ne.symm hne)).trans q, hne⟩, fun b hb => ?_⟩
    · have e1 : ((i + 1 : Nat) : Int) = (i : Int) + 1 := by omega
      rw [e1]; exact he'
    · have hb' : b < s.heap.objs.size := by
        have e' : b = e ∨ b = it := by simpa using hb
        rcases e' with z | z
        · rw [z]; exact hel
        · rw [z]; exact hil
      rw [upd_ne (Nat.ne_of_lt hb')]
      exact (hf b hb).1
  done := by
    intro X hP hw hK hc i pins s σ H E I hf st hg
    subst hP hw hK
    obtain ⟨⟨old, he⟩, hit, hne⟩ := st
    obtain ⟨xs, hq, hx⟩ := hg
    obtain ⟨its, rv, p, hz⟩ := I.tuple hq
    obtain ⟨f0, f1, f2, f3, f4, f5⟩ := hf it (by simp)
    have hl := rv.length
    have hh : X.A.in1.handled = none := I.ok.hd hc
    -- the end, by hand: the iterator at or past the end
    have hT : s.TypeIs (.ref e) "enumerate" := ⟨_, he, rfl⟩
    unfold pyNext
    refine wpAny_bind (wpAny_attempt (wpAny_callSpecial?_slot (name := Str.ofString "__next__") hT F.slot_enumerate_next
      (wpAny_call_entry F.slot_enumerate_next hT F.entry_enumerate_next ?_ (F.args_enumerate_next_1 _))))
    show wpAny _ _ (field (.ref e) 2 >>= _) _ _ _
    refine wpAny_bind (wpAny_field he rfl (x := .ref it) rfl ?_)
    refine wpAny_bind (PySem.wpAny_nextOf_tuple_end hh hit (show s.heap.IsTuple a its.toArray from p) (by simp; omega) fun h' x he' hx' => ?_)
    obtain ⟨o, ho, hcl⟩ := hx'
    refine wpAny_bind (wpAny_isInstance (T := "StopIteration") (b := true) ⟨o, ho, hcl⟩ isSubtype_stop ?_)
    exact wpAny_pure ⟨rfl, I.turned (t' := s.toks) (fun b o hb q => he' b o hb q) f0 f1 f3 f4 f5⟩
  self := fun A i s Q E st h => let ⟨⟨_, he⟩, _⟩ := st; wpAny_pyIter_enum he h

theorem meets_enumT {v : Value} {o : Obj} {Hh : Heap → Prop} (B : Begins v o Hh) :
    Meets (Builtin.«enumerate.__new__» ⟨[.type "enumerate", v], []⟩) (fun _ R s => Hh s.heap ∧
      R (.ok (.ret (.ref (s.heap.push o).objs.size))) { s with heap := (s.heap.push o).push { cls := .type "enumerate", data := .fields #[.none, .bool false, .ref s.heap.objs.size, rawInt 0, .none, .none] } }) :=
  .of_wp fun prog w A R s h => by
    obtain ⟨hp, g, d, tk, os⟩ := s; obtain ⟨h1, h⟩ := h
    have hsub := sub_enumerate
    have q1 : ∀ {A' : Around} {E : Value → Shared → Prop} {Q : Value → Shared → Prop}, Q (.ref hp.objs.size) ⟨hp.push o, g, d, tk, os⟩ → wpAny (model prog w) A' (pyIter v) Q E ⟨hp, g, d, tk, os⟩ :=
      fun q => B.iter prog w _ _ ⟨hp, g, d, tk, os⟩ _ h1 q
    wp_walk using q1
    refine wpAny_stack_any fun st => wpAny_pure ?_
    split
    · rename_i c _ _ _ _ _
      cases (c == Value.type "enumerate")
      · wp_walk using q1
        exact ⟨_, rfl, h⟩
      · wp_walk using q1
        exact ⟨_, rfl, h⟩
    · wp_walk using q1
      exact ⟨_, rfl, h⟩
theorem call_enumT {prog : Program} {w : World} {A : Around} {E : Value → Shared → Prop} {s : Shared} {a : Addr} {items : Array Value} {Q : Value → Shared → Prop} (ht : s.heap.IsTuple a items)
    (h : ∀ h', IsEnum h' (s.heap.objs.size + 1) s.heap.objs.size 0 .none → h'.IsTupleIter s.heap.objs.size a 0 → h'.objs.size = s.heap.objs.size + 2 →
      (∀ b o, s.heap.get? b = some o → h'.get? b = some o) → Q (.ref (s.heap.objs.size + 1)) { s with heap := h' }) : wpAny (model prog w) A (call (.type "enumerate") [.ref a]) Q E s := by
  refine callType_new F.called_enumerate (by decide) (F.typeCall_enumerate_1 _) (F.newCall_enumerate_1 _) (fun obj => F.args_object_init_2 obj _) F.entry_enumerate_new
    (meets_enumT (begins_tuple a items)) ⟨ht, ?_⟩
  have hz : (s.heap.push { cls := .type "tuple_iterator", data := .fields #[.ref a, .int 0 0] }).objs.size = s.heap.objs.size + 1 := Heap.size_push ..
  show _ ∧ _
  rw [hz]
  have he : IsEnum ((s.heap.push { cls := .type "tuple_iterator", data := .fields #[.ref a, .int 0 0] }).push
      { cls := .type "enumerate", data := .fields #[.none, .bool false, .ref s.heap.objs.size, rawInt 0, .none, .none] }) (s.heap.objs.size + 1) s.heap.objs.size 0 .none := by
    have := Heap.get?_push_size (s.heap.push { cls := .type "tuple_iterator", data := .fields #[.ref a, .int 0 0] })
      (o := { cls := .type "enumerate", data := .fields #[.none, .bool false, .ref s.heap.objs.size, rawInt 0, .none, .none] }) rfl
    rw [hz] at this; exact this
  refine ⟨⟨_, he, rfl⟩, h _ he ⟨_, Heap.get?_push_of_some _ (Heap.get?_push_size _ rfl), rfl, rfl⟩ (by rw [Heap.size_push, hz]) fun b o x => Heap.get?_push_of_some _ (Heap.get?_push_of_some _ x)⟩
def iEnumA (K : Fg) (ta : TA) : TI := fun σ H R => ta σ H fun vs H1 => ∃ a xs, vs = [.ref a] ∧ ((SqL K H1 a xs ∧ R (Ite K a) H1) ∨ (SqT K H1 a xs ∧ R (IteT K a) H1))
theorem pi_enumA {X : Cx} {e : Expr} {ta : TA} {p pos tpos : Pos} {elts : List Expr} {kk : Nat} (hg : Gl X "enumerate") (hm : X.mg "enumerate" = none) (ha : PA X [e] ta) (hs : starEach [e] X.env = [(false, eval e X.env)] := by rfl) :
    PI X (.Tuple elts kk tpos) (.Call (.Name "enumerate" p) [e] [] pos) (iEnumA X.K ta) := by
  refine ⟨fun pins s σ H R I h => ?_⟩
  refine Call_ (ld_blt I hg hm boot_enumerate (PyProof.Rows.callWith_type1 (thn (ha.run pos pins s σ H _ I h) fun us s1 ⟨vs, H1, I1, r1, q1⟩ => ?_) hs rfl))
  obtain ⟨a, xs, ex, q1⟩ := q1
  subst ex
  cases r1 with
  | cons r rr =>
    cases rr
    cases r
    have fresh2 : ∀ b ∈ [s1.heap.objs.size + 1, s1.heap.objs.size], FpOk X pins H1 b := fun b hb => by
      have e' : b = s1.heap.objs.size + 1 ∨ b = s1.heap.objs.size := by simpa using hb
      have hle : s1.heap.objs.size ≤ b := by
        rcases e' with z | z
        · rw [z]; exact Nat.le_add_right _ _
        · rw [z]; exact Nat.le_refl _
      exact I1.fpOk hle (I1.hok.fresh hle)
    rcases q1 with ⟨hq, q⟩ | ⟨hq, q⟩
    · obtain ⟨its, rv, p', hz⟩ := I1.list hq
      refine call_enumerate_list p'.isList fun h' he hit hsz hk => wpAny_pyIter_enum he ?_
      have I2 : Inv X pins σ H1 { s1 with heap := h' } := I1.kept (t' := s1.toks) hk
      exact ⟨s1.heap.objs.size + 1, [s1.heap.objs.size + 1, s1.heap.objs.size], _, _, H1, rfl, I2, turn_enum a (s1.heap.objs.size + 1) s1.heap.objs.size, ⟨⟨.none, he⟩, hit, Nat.succ_ne_self _⟩, fresh2, q⟩
    · obtain ⟨its, rv, p', hz⟩ := I1.tuple hq
      have hlt : a < s1.heap.objs.size := by obtain ⟨o, ho, _⟩ := (show s1.heap.IsTuple a its.toArray from p'); exact Heap.lt_size ho
      refine call_enumT (show s1.heap.IsTuple a its.toArray from p') fun h' he hit hsz hk => wpAny_pyIter_enum he ?_
      have I2 : Inv X pins σ H1 { s1 with heap := h' } := I1.kept (t' := s1.toks) hk
      exact ⟨s1.heap.objs.size + 1, [s1.heap.objs.size + 1, s1.heap.objs.size], _, _, H1, rfl, I2, turn_enumT a (s1.heap.objs.size + 1) s1.heap.objs.size (Nat.ne_of_lt hlt), ⟨⟨.none, he⟩, hit, Nat.succ_ne_self _⟩, fresh2, q⟩

/-! ### over data -/
def enumD : Nat → List D → List D
  | _, [] => []
  | n, d :: ds => .tuple [.int n, d] :: enumD (n + 1) ds
def zipD : List D → List D → List D
  | d :: ds, e :: es => .tuple [d, e] :: zipD ds es
  | _, _ => []
theorem enumD_len : ∀ (ds : List D) (n : Nat), (enumD n ds).length = ds.length
  | [], _ => rfl
  | d :: ds, n => by show (enumD (n + 1) ds).length + 1 = _; rw [enumD_len ds]; rfl
theorem enumD_get : ∀ {ds : List D} {n i : Nat} {c : D}, (enumD n ds)[i]? = some c → ∃ d, ds[i]? = some d ∧ c = .tuple [.int ((n + i : Nat) : Int), d]
  | [], _, _, _, h => by simp [enumD] at h
  | d :: ds, n, 0, c, h => by
    have h' := Option.some.inj h
    subst h'
    exact ⟨d, rfl, rfl⟩
  | d :: ds, n, i + 1, c, h => by
    have h' : (enumD (n + 1) ds)[i]? = some c := by simpa [enumD] using h
    obtain ⟨e, h1, h2⟩ := enumD_get h'
    exact ⟨e, by simpa using h1, by rw [h2, show n + 1 + i = n + (i + 1) by omega]⟩
theorem zipD_len : ∀ (ds es : List D), (zipD ds es).length = min ds.length es.length
  | [], _ => by simp [zipD]
  | _ :: _, [] => by simp [zipD]
  | d :: ds, e :: es => by show (zipD ds es).length + 1 = _; rw [zipD_len ds es, List.length_cons, List.length_cons]; omega
theorem zipD_get : ∀ {ds es : List D} {i : Nat} {c : D}, (zipD ds es)[i]? = some c → ∃ d e, ds[i]? = some d ∧ es[i]? = some e ∧ c = .tuple [d, e]
  | [], _, _, _, h => by simp [zipD] at h
  | _ :: _, [], _, _, h => by simp [zipD] at h
  | d :: ds, e :: es, 0, c, h => by
    have h' := Option.some.inj h
    subst h'
    exact ⟨d, e, rfl, rfl, rfl⟩
  | d :: ds, e :: es, i + 1, c, h => by
    have h' : (zipD ds es)[i]? = some c := by simpa [zipD] using h
    obtain ⟨x, y, h1, h2, h3⟩ := zipD_get h'
    exact ⟨x, y, by simpa using h1, by simpa using h2, h3⟩
def overEnum (P : List D → Prop) : D → Prop
  | .list ds => P (enumD 0 ds)
  | .tuple ds => P (enumD 0 ds)
  | _ => False
def fEnum (fa : FA) : FI := fun env R => fa env fun rs e => noB rs ∧ match rs with
  | [r] => ovr (overEnum fun ds => R (.v 0 .none) ds e) r.d
  | _ => False
def overZip (P : List D → Prop) : D → D → Prop
  | .list ds, .list es => P (zipD ds es)
  | .tuple ds, .tuple es => P (zipD ds es)
  | _, _ => False
def fZip (fa : FA) : FI := fun env R => fa env fun rs e => noB rs ∧ match rs with
  | [r, r'] => ovr2 (overZip fun ds => R (.v 0 .none) ds e) r.d r'.d
  | _ => False
section
variable {X : Cx} {K : Fg} {σ : Sg} {ω : Om} {H : Hp}
theorem new_pair {H1 : Hp} {ω1 : Om} {T : Addr} {x y : V} {d e : D} (hT : H1 T = none) (hx : Rp K ω1 H1 x d) (hy : Rp K ω1 H1 y e) : ∃ ω2, Grow ω1 H1 ω2 (upd H1 T (.tup [x, y])) ∧ (∀ T0, Free ω1 T0 → Free ω2 T0) ∧ Rp K ω2 (upd H1 T (.tup [x, y])) (.ref T) (.tuple [d, e]) := by
  have gr : Grow ω1 H1 (putO T .shr ω1) (upd H1 T (.tup [x, y])) := put_grow hT
  refine ⟨putO T .shr ω1, gr, fun T0 f a t p e => ?_, .tup (.inl ⟨upd_same, putO_same⟩) (.cons (Rp.sh gr.step.sh _ _ hx) (.cons (Rp.sh gr.step.sh _ _ hy) .nil))⟩
  by_cases h : a = T
  · subst h; rw [putO_same] at e; cases e
  · rw [putO_ne h] at e; exact f a t p e
theorem iters_enumL {a : Addr} {vs : List V} {ds : List D} (h : H a = some (.lst vs)) (ho : ω a = .shr) (hp : RpAll K ω H vs ds) : Iters K σ ω H (Ite K a) (.v 0 .none) (enumD 0 ds) := by
  intro ω1 H1 env1 σ1 rel g _ _ i
  obtain ⟨h1, _⟩ := g a _ h ho
  have hs : SqL K H1 a vs := .inl (.inl h1)
  have hp1 := RpAll.sh g _ _ hp
  refine ⟨fun c hc => ?_, fun hl => ⟨vs, hs, by rw [enumD_len] at hl; rw [hp.length]; exact hl⟩⟩
  obtain ⟨d, hd, rfl⟩ := enumD_get hc
  obtain ⟨v, hv, rv⟩ := hp1.at_ hd
  refine ⟨⟨vs, v, hs, hv⟩, fun x H2 y => ?_⟩
  obtain ⟨T, w, y1, y2, y3, y4⟩ := y
  subst y1 y3
  have e := y4 vs hs
  rw [hv] at e
  cases e
  rw [Nat.zero_add]
  exact new_pair y2 (.int _) rv
theorem iters_enumT {a : Addr} {vs : List V} {ds : List D} (h : SU K ω H a vs) (hp : RpAll K ω H vs ds) : Iters K σ ω H (IteT K a) (.v 0 .none) (enumD 0 ds) := by
  intro ω1 H1 env1 σ1 rel g _ _ i
  have hs : SqT K H1 a vs := (h.sh g).seq
  have hp1 := RpAll.sh g _ _ hp
  refine ⟨fun c hc => ?_, fun hl => ⟨vs, hs, by rw [enumD_len] at hl; rw [hp.length]; exact hl⟩⟩
  obtain ⟨d, hd, rfl⟩ := enumD_get hc
  obtain ⟨v, hv, rv⟩ := hp1.at_ hd
  refine ⟨⟨vs, v, hs, hv⟩, fun x H2 y => ?_⟩
  obtain ⟨T, w, y1, y2, y3, y4⟩ := y
  subst y1 y3
  have e := y4 vs hs
  rw [hv] at e
  cases e
  rw [Nat.zero_add]
  exact new_pair y2 (.int _) rv
theorem iters_zipL {a b : Addr} {vs ws : List V} {ds es : List D} (h : H a = some (.lst vs)) (ho : ω a = .shr) (hp : RpAll K ω H vs ds) (h' : H b = some (.lst ws)) (ho' : ω b = .shr) (hp' : RpAll K ω H ws es) : Iters K σ ω H (Itz K a b) (.v 0 .none) (zipD ds es) := by
  intro ω1 H1 env1 σ1 rel g _ _ i
  have hs : SqL K H1 a vs := .inl (.inl (g a _ h ho).1)
  have hs' : SqL K H1 b ws := .inl (.inl (g b _ h' ho').1)
  have hp1 := RpAll.sh g _ _ hp
  have hp2 := RpAll.sh g _ _ hp'
  refine ⟨fun c hc => ?_, fun hl => ⟨vs, ws, hs, hs', by rw [zipD_len] at hl; rw [hp.length, hp'.length]; omega⟩⟩
  obtain ⟨d, e, hd, he, rfl⟩ := zipD_get hc
  obtain ⟨v, hv, rv⟩ := hp1.at_ hd
  obtain ⟨u, hu, ru⟩ := hp2.at_ he
  refine ⟨⟨vs, ws, v, u, hs, hs', hv, hu⟩, fun x H2 y => ?_⟩
  obtain ⟨T, p, q, y1, y2, y3, y4, y5⟩ := y
  subst y1 y3
  have e1 := y4 vs hs
  rw [hv] at e1
  cases e1
  have e2 := y5 ws hs'
  rw [hu] at e2
  cases e2
  exact new_pair y2 rv ru
theorem iters_zipT {a b : Addr} {vs ws : List V} {ds es : List D} (h : SU K ω H a vs) (hp : RpAll K ω H vs ds) (h' : SU K ω H b ws) (hp' : RpAll K ω H ws es) : Iters K σ ω H (ItzT K a b) (.v 0 .none) (zipD ds es) := by
  intro ω1 H1 env1 σ1 rel g _ _ i
  have hs : SqT K H1 a vs := (h.sh g).seq
  have hs' : SqT K H1 b ws := (h'.sh g).seq
  have hp1 := RpAll.sh g _ _ hp
  have hp2 := RpAll.sh g _ _ hp'
  refine ⟨fun c hc => ?_, fun hl => ⟨vs, ws, hs, hs', by rw [zipD_len] at hl; rw [hp.length, hp'.length]; omega⟩⟩
  obtain ⟨d, e, hd, he, rfl⟩ := zipD_get hc
  obtain ⟨v, hv, rv⟩ := hp1.at_ hd
  obtain ⟨u, hu, ru⟩ := hp2.at_ he
  refine ⟨⟨vs, ws, v, u, hs, hs', hv, hu⟩, fun x H2 y => ?_⟩
  obtain ⟨T, p, q, y1, y2, y3, y4, y5⟩ := y
  subst y1 y3
  have e1 := y4 vs hs
  rw [hv] at e1
  cases e1
  have e2 := y5 ws hs'
  rw [hu] at e2
  cases e2
  exact new_pair y2 rv ru
theorem si_enum {elts : List Expr} {kk : Nat} {tpos : Pos} {a : Expr} {fa : FA} {p pos : Pos} (hm : X.mg "enumerate" = none) (ha : SA X [a] fa) (hg : Gl X "enumerate" := by rfl) (hs : starEach [a] X.env = [(false, eval a X.env)] := by rfl) : SI X (.Tuple elts kk tpos) (.Call (.Name "enumerate" p) [a] [] pos) (fEnum fa) := by
  obtain ⟨t, p, s⟩ := ha.ex
  refine ⟨_, pi_enumA hg hm p hs, fun ω T env σ H R Q rel fr hR q => ?_⟩
  refine s ω T env σ H _ _ rel fr hR fun vs H1 ω1 e1 rs rel1 st1 fr1 rr1 h1 => ?_
  obtain ⟨nb, h1⟩ := h1
  match rs, nb, h1, rr1 with
  | [.v k d], nb, h1, rr1 =>
    obtain ⟨v, rfl, hv⟩ := (rr1.gc (T0 := T) rel1 (Nat.le_refl _)).one
    have rp : Rp X.K (gc T ω1) H1 v d := hv
    have h2 : overEnum (fun ds => R (.v 0 .none) ds e1) d := ovr_cl h1
    cases d <;> first
      | exact h2.elim
      | skip
    · cases rp with
      | lst hs hp => exact ⟨_, _, rfl, .inl ⟨hs.seq, q _ H1 (gc T ω1) e1 _ _ (rel1.gc T) (st1.gc fr) gc_free (iters_enumL hs.1 hs.2 hp) trivial h2⟩⟩
    · cases rp with
      | tup hs hp => exact ⟨_, _, rfl, .inr ⟨hs.seq, q _ H1 (gc T ω1) e1 _ _ (rel1.gc T) (st1.gc fr) gc_free (iters_enumT hs hp) trivial h2⟩⟩
theorem si_zip {elts : List Expr} {kk : Nat} {tpos : Pos} {a b : Expr} {fa : FA} {p pos : Pos} (hm : X.mg "zip" = none) (ha : SA X [a, b] fa) (hg : Gl X "zip" := by rfl) (hs : starEach [a, b] X.env = (false, eval a X.env) :: starEach [b] X.env := by rfl) (hpl : (backTo pos (starEach [b] X.env)).any (·.1) = false := by rfl) : SI X (.Tuple elts kk tpos) (.Call (.Name "zip" p) [a, b] [] pos) (fZip fa) := by
  obtain ⟨t, p, s⟩ := ha.ex
  refine ⟨_, pi_zipA hg hm p hs hpl, fun ω T env σ H R Q rel fr hR q => ?_⟩
  refine s ω T env σ H _ _ rel fr hR fun vs H1 ω1 e1 rs rel1 st1 fr1 rr1 h1 => ?_
  obtain ⟨nb, h1⟩ := h1
  match rs, nb, h1, rr1 with
  | [.v k d, .v k' d'], nb, h1, rr1 =>
    obtain ⟨v, v', rfl, hv, hv'⟩ := (rr1.gc (T0 := T) rel1 (Nat.le_refl _)).two
    have rp : Rp X.K (gc T ω1) H1 v d := hv
    have rp' : Rp X.K (gc T ω1) H1 v' d' := hv'
    have h2 : overZip (fun ds => R (.v 0 .none) ds e1) d d' := ovr2_cl h1
    cases d <;> cases d' <;> first
      | exact h2.elim
      | skip
    · cases rp with
      | lst hs hp =>
        cases rp' with
        | lst hs' hp' => exact ⟨_, _, _, _, rfl, .inl ⟨hs.seq, hs'.seq, q _ H1 (gc T ω1) e1 _ _ (rel1.gc T) (st1.gc fr) gc_free (iters_zipL hs.1 hs.2 hp hs'.1 hs'.2 hp') trivial h2⟩⟩
    · cases rp with
      | tup hs hp =>
        cases rp' with
        | tup hs' hp' => exact ⟨_, _, _, _, rfl, .inr ⟨hs.seq, hs'.seq, q _ H1 (gc T ω1) e1 _ _ (rel1.gc T) (st1.gc fr) gc_free (iters_zipT hs hp hs' hp') trivial h2⟩⟩
end
end Pv

/-! Pv13: constants of a module, tuple(range(..)), list(range(..)). -/
namespace Pv
open PySem PySem.Spec PyProof.Rows L2

section
variable {X : Cx}
theorem se_gstr {x z : Str} {pos : Pos} (h : ∃ t, X.mg x = some (.str z t)) (hg : Gl X x := by rfl) (hd : (x == ("__debug__" : Str)) = false := by decide) : SE X (.Name x pos) (fC (.str z)) := by
  obtain ⟨t, h⟩ := h
  exact se_glob h ⟨.str z, ⟨t, rfl⟩, fun _ _ => .str z⟩ hg hd
end
/-! ### tuple(range(..)), list(range(..)) -/
def fRngT1 (fa : FE) : FE := fun env R => fa env fun r e => atInt (fun n => RgOk 0 n ∧ R (.v 0 (.tuple (rngD 0 n))) e) r.d
def fRngL1 (fa : FE) : FE := fun env R => fa env fun r e => atInt (fun n => RgOk 0 n ∧ R (.v 1 (.list (rngD 0 n))) e) r.d
def fRngT2 (fa fb : FE) : FE := fun env R => fa env fun r e => atInt (fun m => fb e fun r' e' => atInt (fun n => RgOk m n ∧ R (.v 0 (.tuple (rngD m n))) e') r'.d) r.d
def fRngL2 (fa fb : FE) : FE := fun env R => fa env fun r e => atInt (fun m => fb e fun r' e' => atInt (fun n => RgOk m n ∧ R (.v 1 (.list (rngD m n))) e') r'.d) r.d
section
variable {X : Cx} {K : Fg} {ω : Om} {H : Hp} {a b : Expr} {fa fb : FE} {p p2 pos pos2 : Pos}
theorem rp_rng (lo hi : Int) : RpAll K ω H (rgV lo hi) (rngD lo hi) := by
  have := RpAll.ints (K := K) (ω := ω) (H := H) ((List.range (hi - lo).toNat).map fun i : Nat => lo + (i : Int))
  rw [List.map_map, List.map_map] at this
  exact this
theorem se_rngT1 (hm : X.mg "tuple" = none) (hm2 : X.mg "range" = none) (ha : SE X a fa) (hg : Gl X "tuple" := by rfl) (hg2 : Gl X "range" := by rfl) (na : starEach [a] X.env = (false, eval a X.env) :: starEach [] X.env := by rfl)
    (ne : starEach [.Call (.Name "range" p2) [a] [] pos2] X.env = (false, eval (.Call (.Name "range" p2) [a] [] pos2) X.env) :: starEach [] X.env := by rfl) (hc : X.calm = true := by rfl) : SE X (.Call (.Name "tuple" p) [.Call (.Name "range" p2) [a] [] pos2] [] pos) (fRngT1 fa) := by
  obtain ⟨t, q, s⟩ := ha.ex
  refine ⟨_, pe_tupRg hc hg hm (prg_1 hg2 hm2 q na) ne, fun ω T env σ H R Q rel fre hR qq => ?_⟩
  refine s ω T env σ H _ _ rel fre hR fun v H1 ω1 e1 r rel1 st1 fr1 rr1 h1 => ?_
  obtain ⟨n, en, ok, hn⟩ := atInt_ex h1
  exact ⟨n, rr1.int_ rel1 en, ok, fun q hq => (out_of (R := R) (rel1.gc T) (st1.gc fre) qq).tup gc_free hq (rp_rng 0 n) hn⟩
theorem se_rngL1 (hm : X.mg "list" = none) (hm2 : X.mg "range" = none) (ha : SE X a fa) (hg : Gl X "list" := by rfl) (hg2 : Gl X "range" := by rfl) (na : starEach [a] X.env = (false, eval a X.env) :: starEach [] X.env := by rfl)
    (ne : starEach [.Call (.Name "range" p2) [a] [] pos2] X.env = (false, eval (.Call (.Name "range" p2) [a] [] pos2) X.env) :: starEach [] X.env := by rfl) (hc : X.calm = true := by rfl) : SE X (.Call (.Name "list" p) [.Call (.Name "range" p2) [a] [] pos2] [] pos) (fRngL1 fa) := by
  obtain ⟨t, q, s⟩ := ha.ex
  refine ⟨_, pe_listRg hc hg hm (prg_1 hg2 hm2 q na) ne, fun ω T env σ H R Q rel fre hR qq => ?_⟩
  refine s ω T env σ H _ _ rel fre hR fun v H1 ω1 e1 r rel1 st1 fr1 rr1 h1 => ?_
  obtain ⟨n, en, ok, hn⟩ := atInt_ex h1
  exact ⟨n, rr1.int_ rel1 en, ok, fun q hq => (out_of (R := R) (rel1.gc T) (st1.gc fre) qq).lst gc_free hq (rp_rng 0 n) hn⟩
theorem se_rngT2 (hm : X.mg "tuple" = none) (hm2 : X.mg "range" = none) (ha : SE X a fa) (hb : SE X b fb) (hg : Gl X "tuple" := by rfl) (hg2 : Gl X "range" := by rfl) (na : starEach [a, b] X.env = (false, eval a X.env) :: starEach [b] X.env := by rfl) (nb : starEach [b] X.env = (false, eval b X.env) :: starEach [] X.env := by rfl) (hp : (backTo pos2 (starEach [b] X.env)).any (·.1) = false := by rfl)
    (ne : starEach [.Call (.Name "range" p2) [a, b] [] pos2] X.env = (false, eval (.Call (.Name "range" p2) [a, b] [] pos2) X.env) :: starEach [] X.env := by rfl) (hc : X.calm = true := by rfl) : SE X (.Call (.Name "tuple" p) [.Call (.Name "range" p2) [a, b] [] pos2] [] pos) (fRngT2 fa fb) := by
  obtain ⟨t, q, s⟩ := ha.ex
  obtain ⟨u, q', s'⟩ := hb.ex
  refine ⟨_, pe_tupRg hc hg hm (prg_2 hg2 hm2 q q' na nb hp) ne, fun ω T env σ H R Q rel fre hR qq => ?_⟩
  refine s ω T env σ H _ _ rel fre hR fun v H1 ω1 e1 r rel1 st1 fr1 rr1 h1 => ?_
  obtain ⟨m, em, h1⟩ := atInt_ex h1
  refine s' (gc T ω1) T e1 σ H1 _ _ (rel1.gc T) gc_free h1 fun w H2 ω2 e2 r' rel2 st2 fr2 rr2 h2 => ?_
  obtain ⟨n, en, ok, hn⟩ := atInt_ex h2
  exact ⟨m, n, rr1.int_ rel1 em, rr2.int_ rel2 en, ok, fun q hq => (out_of (R := R) (rel2.gc T) (((st1.gc fre).trans st2).gc fre) qq).tup gc_free hq (rp_rng m n) hn⟩
theorem se_rngL2 (hm : X.mg "list" = none) (hm2 : X.mg "range" = none) (ha : SE X a fa) (hb : SE X b fb) (hg : Gl X "list" := by rfl) (hg2 : Gl X "range" := by rfl) (na : starEach [a, b] X.env = (false, eval a X.env) :: starEach [b] X.env := by rfl) (nb : starEach [b] X.env = (false, eval b X.env) :: starEach [] X.env := by rfl) (hp : (backTo pos2 (starEach [b] X.env)).any (·.1) = false := by rfl)
    (ne : starEach [.Call (.Name "range" p2) [a, b] [] pos2] X.env = (false, eval (.Call (.Name "range" p2) [a, b] [] pos2) X.env) :: starEach [] X.env := by rfl) (hc : X.calm = true := by rfl) : SE X (.Call (.Name "list" p) [.Call (.Name "range" p2) [a, b] [] pos2] [] pos) (fRngL2 fa fb) := by
  obtain ⟨t, q, s⟩ := ha.ex
  obtain ⟨u, q', s'⟩ := hb.ex
  refine ⟨_, pe_listRg hc hg hm (prg_2 hg2 hm2 q q' na nb hp) ne, fun ω T env σ H R Q rel fre hR qq => ?_⟩
  refine s ω T env σ H _ _ rel fre hR fun v H1 ω1 e1 r rel1 st1 fr1 rr1 h1 => ?_
  obtain ⟨m, em, h1⟩ := atInt_ex h1
  refine s' (gc T ω1) T e1 σ H1 _ _ (rel1.gc T) gc_free h1 fun w H2 ω2 e2 r' rel2 st2 fr2 rr2 h2 => ?_
  obtain ⟨n, en, ok, hn⟩ := atInt_ex h2
  exact ⟨m, n, rr1.int_ rel1 em, rr2.int_ rel2 en, ok, fun q hq => (out_of (R := R) (rel2.gc T) (((st1.gc fre).trans st2).gc fre) qq).lst gc_free hq (rp_rng m n) hn⟩
end
end Pv

/-! Pv14: list(range(i, j, -1)), index, more methods of an own list, chains. -/
namespace Pv
open PySem PySem.Spec PyProof.Rows L2
/-! ### list(range(i, j, -1)) -/
def rgDn (a b : Int) : List V := (List.range (a - b).toNat).map fun i => V.int (a - (i : Nat))
def rngDn (a b : Int) : List D := (List.range (a - b).toNat).map fun i => PyData.int (a - (i : Nat))
theorem vals_rgDn {a b : Int} {acc : Array Value} (h : ItemsOf (fun i v => ∃ t, v = .int (a + i * (-1)) t) acc (a - b).toNat) : Vals (rgDn a b) acc.toList := by
  have e : acc.toList.length = (a - b).toNat := by rw [Array.length_toList]; exact h.1
  unfold rgDn
  rw [← e]
  refine vals_of_get acc.toList _ fun j u hj => ?_
  obtain ⟨t, rfl⟩ := h.2 j u (by rw [← hj, Array.getElem?_toList])
  exact ⟨t, by congr 1; omega⟩
def RgDn (a b : Int) : Prop := -(2 ^ 62) ≤ a ∧ a < 2 ^ 62 ∧ -(2 ^ 62) ≤ b ∧ b < 2 ^ 62 ∧ (a - b).toNat ≤ 2 ^ 24
def tLR3 (ta : TA) : TE := fun σ H Q => ta σ H fun vs H1 => ∃ i j : Int, vs = [.int i, .int j, .int (-1)] ∧ RgDn i j ∧ ∀ q, H1 q = none → Q (.ref q) (upd H1 q (.lst (rgDn i j)))
section
variable {X : Cx}
theorem pe_listRg3 {a b c : Expr} {ta : TA} {p pos p2 pos2 : Pos} (hc : X.calm = true) (hg : Gl X "list") (hm : X.mg "list" = none) (hg2 : Gl X "range") (hm2 : X.mg "range" = none) (ha : PA X [a, b, c] ta)
    (hs : starEach [a, b, c] X.env = (false, eval a X.env) :: starEach [b, c] X.env := by rfl) (hpl : (backTo pos2 (starEach [b, c] X.env)).any (·.1) = false := by rfl)
    (na : starEach [.Call (.Name "range" p2) [a, b, c] [] pos2] X.env = (false, eval (.Call (.Name "range" p2) [a, b, c] [] pos2) X.env) :: starEach [] X.env := by rfl) :
    PE X (.Call (.Name "list" p) [.Call (.Name "range" p2) [a, b, c] [] pos2] [] pos) (tLR3 ta) := by
  refine ⟨fun pins s σ H Q I h => ?_⟩
  have inner : wpAny (model X.prog X.w) X.A (eval (.Call (.Name "range" p2) [a, b, c] [] pos2) X.env) (fun x s' => ∃ r i j t u v H', x = .ref r ∧ IsRange s'.heap r i j (-1) t u v ∧ Inv X pins σ H' s' ∧ RgDn i j ∧ ∀ q, H' q = none → Q (.ref q) (upd H' q (.lst (rgDn i j)))) X.xe s := by
    refine Call_ (ld_blt I hg2 hm2 boot_range (PyProof.Rows.callWith_type1 (thn (ha.run pos2 pins s σ H _ I h) fun us s1 ⟨vs, H1, I1, r1, q1⟩ => ?_) hs hpl))
    obtain ⟨i, j, e, ok, q⟩ := q1
    subst e
    cases r1 with
    | cons r rr =>
      cases rr with
      | cons r' rr =>
        cases rr with
        | cons r'' rr =>
          cases rr
          obtain ⟨t, rfl⟩ := r
          obtain ⟨t', rfl⟩ := r'
          obtain ⟨t'', rfl⟩ := r''
          exact call_range_3 (by decide) ⟨_, i, j, _, _, _, H1, rfl, IsRange.new _ _ _ _ _ _ _, I1.kept fun b u e => Heap.get?_push_of_some _ e, ok, q⟩ (.inl (PyProof.noPylong_small (by decide)))
  refine Call_ (ld_blt I hg hm boot_list (PyProof.Rows.callWith_type1 (args_cons (thn inner fun x s1 ⟨r, a, b, t, u, v, H1, ex, hr, I1, ok, q⟩ => args_nil ?_) na) na))
  subst ex
  obtain ⟨b1, b2, b3, b4, b5⟩ := ok
  refine call_list_range (n := (a - b).toNat) (I1.ok.hd hc) hr (PySem.W.small_down b1 b2 b3 b4) (PySem.W.rangeSize_downNat a b) b5 fun h' tk acc c' hk e' hi => ?_
  refine ⟨.ref s1.heap.objs.size, upd H1 s1.heap.objs.size (.lst (rgDn a b)), I1.laid hk (Nat.le_refl _) (show ObjOk X.prog X.w _ _ _ (.lst (rgDn a b)) from ⟨?_, acc.toList, c', vals_rgDn hi, ?_⟩), rfl, q _ (I1.hok.fresh (Nat.le_refl _))⟩
  · unfold rgDn; rw [List.length_map, List.length_range, sizeLine_eq]; omega
  · rw [Array.toArray_toList]; exact e'
end
section
variable {K : Fg} {ω : Om} {H : Hp}
theorem rp_rngDn (lo hi : Int) : RpAll K ω H (rgDn lo hi) (rngDn lo hi) := by
  have := RpAll.ints (K := K) (ω := ω) (H := H) ((List.range (lo - hi).toNat).map fun i : Nat => lo - (i : Int))
  rw [List.map_map, List.map_map] at this
  exact this
end
def dI3 (R : Int → Int → Prop) : List Res → Prop
  | [r, r', r''] => atInt (fun i => atInt (fun j => atInt (fun c => c = -1 ∧ R i j) r''.d) r'.d) r.d
  | _ => False
def fRngL3 (fa : FA) : FE := fun env R => fa env fun rs e => dI3 (fun i j => RgDn i j ∧ R (.v 1 (.list (rngDn i j))) e) rs
theorem VwAll.three {K : Fg} {ω : Om} {H : Hp} {vs : List V} {r r' r'' : Res} (h : VwAll K ω H vs [r, r', r'']) : ∃ v v' v'', vs = [v, v', v''] ∧ Vw K ω H v r ∧ Vw K ω H v' r' ∧ Vw K ω H v'' r'' := by
  match vs, h with
  | [v, v', v''], h => exact ⟨v, v', v'', rfl, h.1, h.2.1, h.2.2.1⟩
section
variable {X : Cx}
theorem se_rngL3 {a b c : Expr} {fa : FA} {p pos p2 pos2 : Pos} (hm : X.mg "list" = none) (hm2 : X.mg "range" = none) (ha : SA X [a, b, c] fa) (hg : Gl X "list" := by rfl) (hg2 : Gl X "range" := by rfl)
    (hs : starEach [a, b, c] X.env = (false, eval a X.env) :: starEach [b, c] X.env := by rfl) (hpl : (backTo pos2 (starEach [b, c] X.env)).any (·.1) = false := by rfl)
    (na : starEach [.Call (.Name "range" p2) [a, b, c] [] pos2] X.env = (false, eval (.Call (.Name "range" p2) [a, b, c] [] pos2) X.env) :: starEach [] X.env := by rfl) (hc : X.calm = true := by rfl) :
    SE X (.Call (.Name "list" p) [.Call (.Name "range" p2) [a, b, c] [] pos2] [] pos) (fRngL3 fa) := by
  obtain ⟨t, q, s⟩ := ha.ex
  refine ⟨_, pe_listRg3 hc hg hm hg2 hm2 q hs hpl na, fun ω T env σ H R Q rel fre hR qq => ?_⟩
  refine s ω T env σ H _ _ rel fre hR fun vs H1 ω1 e1 rs rel1 st1 fr1 rr1 h1 => ?_
  match rs, h1, rr1 with
  | [r, r', r''], h1, rr1 =>
    obtain ⟨v, v', v'', rfl, w1, w2, w3⟩ := (rr1.gc (T0 := T) rel1 (Nat.le_refl _)).three
    obtain ⟨i, ei, h1⟩ := atInt_ex h1
    obtain ⟨j, ej, h1⟩ := atInt_ex h1
    obtain ⟨c, ec, rfl, ok, hn⟩ := atInt_ex h1
    rw [w1.int ei, w2.int ej, w3.int ec]
    exact ⟨i, j, rfl, ok, fun q hq => (out_of (R := R) (rel1.gc T) (st1.gc fre) qq).lst gc_free hq (rp_rngDn i j) hn⟩
end
/-! ### xs.index(y) of a list of flat things -/
def firstAt (d : D) : List D → Option Nat
  | [] => none
  | e :: es => if PyData.eqv e d then some 0 else (firstAt d es).map (· + 1)
theorem firstAt_some {d : D} : ∀ {ds : List D} {j : Nat}, firstAt d ds = some j → (∃ z, ds[j]? = some z ∧ PyData.eqv z d = true) ∧ ∀ m z, m < j → ds[m]? = some z → PyData.eqv z d = false
  | [], _, h => by cases h
  | e :: es, j, h => by
    rw [firstAt] at h
    by_cases hq : PyData.eqv e d = true
    · rw [if_pos hq] at h; cases h
      exact ⟨⟨e, rfl, hq⟩, fun m z hm => by omega⟩
    · rw [if_neg hq] at h
      cases hj : firstAt d es with
      | none => rw [hj] at h; cases h
      | some k =>
        rw [hj] at h; cases h
        obtain ⟨h1, h2⟩ := firstAt_some hj
        refine ⟨h1, fun m z hm hz => ?_⟩
        cases m with
        | zero => cases hz; simpa using hq
        | succ m => exact h2 m z (by simpa using hm) (by simpa using hz)
def isL : D → Prop
  | .list _ => True
  | _ => False
def dIndex (f : Prop) (d : D) (R : KC) : D → Prop
  | .list ds => (f ∧ flatD d = true ∧ ds.all flatD = true) ∧ ∃ j, firstAt d ds = some j ∧ R 0 (.int (j : Nat))
  | _ => False
def oIndex : O2 := fun r1 r2 R => dIndex (flat r1) r2.d R r1.d
def fIdx (fa fb : FE) : FE := fun env R => fa env fun r1 e1 => (isL r1.d ∧ flat r1) ∧ fb e1 fun r2 e2 => okb e2 r1 ∧ ap2 oIndex r1 r2 fun k d => R (.v k d) e2
section
variable {K : Fg}
theorem isL_ex {d : D} (h : isL d) : ∃ ds, d = .list ds := by
  cases d <;> first
    | exact ⟨_, rfl⟩
    | exact h.elim
theorem allFlat {ω : Om} {H : Hp} : ∀ {vs : List V} {ds : List D}, RpAll K ω H vs ds → ds.all flatD = true → vs.all L2.flatV = true
  | _, _, .nil, _ => rfl
  | _, _, .cons h t, z => by
    rw [List.all_cons, Bool.and_eq_true] at z
    rw [List.all_cons, Rp.flatV h z.1, allFlat t z.2]; rfl
theorem snd_idx {ta tb : TE} {fa fb : FE} (ha : SndE K ta fa) (hb : SndE K tb fb) : SndE K (tBM K "list" (rIndex K) ta (tCons tb tNil)) (fIdx fa fb) := by
  intro ω T env σ H R Q rel fre hR q
  refine ha ω T env σ H _ _ rel fre hR fun x H1 ω1 e1 r1 rel1 st1 fr1 rr1 h1 => ?_
  obtain ⟨⟨hl, hfl⟩, h1⟩ := h1
  obtain ⟨ds0, e0⟩ := isL_ex hl
  obtain ⟨a0, vs0, rfl, hs0, _⟩ := Vw.lst (rr1.gc (T := T) rel1 (Nat.le_refl _)) hfl e0
  refine ⟨.inl ⟨rfl, vs0, .inl (.inl hs0)⟩, ?_⟩
  refine hb ω1 (T + 1) e1 σ H1 _ _ rel1 fr1 h1 fun y H2 ω2 e2 r2 rel2 st2 fr2 rr2 h2 => ?_
  obtain ⟨ok, h2⟩ := h2
  have h2 := ap2_cl h2
  have rr1' : ResR K ω2 H2 σ e2 T (.ref a0) r1 := by
    cases r1 with
    | v k d => exact ResR.step (T' := T) rr1 st2
    | b i k d => exact ⟨ok, rr1.2⟩
  have v1 := rr1'.gc (T := T) rel2 (Nat.le_refl _)
  have v2 := rr2.gc (T := T) rel2 (Nat.le_succ _)
  have h3 : dIndex (flat r1) r2.d (fun k d => R (.v k d) e2) r1.d := h2
  rw [e0] at h3
  obtain ⟨⟨f1, f2, f3⟩, j, hj, hR'⟩ := h3
  obtain ⟨a, vs, ea, hs, hp⟩ := Vw.lst v1 f1 e0
  cases ea
  have ry := Vw.flat v2 f2
  obtain ⟨⟨z, hz, hq⟩, hno⟩ := firstAt_some hj
  obtain ⟨v, hv, rv⟩ := hp.at_ hz
  have fz : ∀ {m : Nat} {z : D}, ds0[m]? = some z → flatD z = true := fun h => List.all_eq_true.mp f3 _ (List.mem_of_getElem? h)
  refine ⟨a0, vs, y, j, v, rfl, rfl, .inl (.inl hs), Rp.flatV ry f2, allFlat hp f3, hv, (Rp.eqV rv ry (fz hz) f2).trans hq, fun m z' hm hz' => ?_, ?_⟩
  · have hlt : m < ds0.length := by rw [← hp.length]; exact (List.getElem?_eq_some_iff.mp hz').1
    have hd := List.getElem?_eq_getElem hlt
    exact (Rp.eqV (hp.get hz' hd) ry (fz hd) f2).trans (hno m _ hm hd)
  · exact (out_of (R := R) (rel2.gc T) ((st1.trans st2).gc fre) q).int gc_free hR'
end
section
variable {X : Cx} {o e : Expr} {fa fb : FE} {apos cpos : Pos}
theorem se_index (ha : SE X o fa) (hb : SE X e fb) (hbase : attributeBase o "index" X.env (eval o X.env) = eval o X.env := by rfl)
    (hfew : ((backTo cpos (starEach [e] X.env)).all (fun x => !x.1) && (backToKw cpos (keywordEach [] X.env)).all (fun x => x.1.isSome) && decide ([e].length + ([] : List Keyword).length + (if ([] : List Keyword).isEmpty then 0 else 1) < 30)) = true := by rfl)
    (hline : (apos.endLine == cpos.line) = true := by rfl) (hs : starEach [e] X.env = (false, eval e X.env) :: starEach [] X.env := by rfl) :
    SE X (.Call (.Attribute o "index" apos) [e] [] cpos) (fIdx fa fb) := by
  obtain ⟨t, q, s⟩ := ha.ex
  obtain ⟨u, q', s'⟩ := hb.ex
  exact ⟨_, pe_bm PySem.F.plainAttrs_list PySem.F.slot_list_index PySem.F.type_list_index mt_index q (pa_cons q' pa_nil hs) hbase hfew hline hs rfl, snd_idx s s'⟩
end
/-! ### methods of an own list without arguments -/
def fMth0 (i : Nat) (m : MT) : FE := fun env R => onOwn (getC env i) fun ds => m ds [] fun res ds' => R (.v 0 res) (env.set i (some (ow (.list ds'))))
def mReverse : MT := fun ds es R => match es with
  | [] => R .none ds.reverse
  | _ => False
def mClear : MT := fun ds es R => match es with
  | [] => R .none []
  | _ => False
def mPop : MT := fun ds es R => match es with
  | [] => ∃ y, ds.getLast? = some y ∧ R y ds.dropLast
  | _ => False
section
variable {K : Fg}
theorem snd_mth0 {i : Nat} {r : V → List V → Hp → VK → Prop} {m : MT} (hm : SndM K r m) : SndE K (tBM0 K "list" r (tVar i)) (fMth0 i m) := by
  intro ω T env σ H R Q rel fr hR q
  obtain ⟨ds, e2, h2⟩ := onOwn_ex hR
  obtain ⟨a, vs, hσ, hH, ho, hp⟩ := rel.own e2
  refine ⟨.ref a, hσ, .inl ⟨rfl, vs, .inl (.inl hH)⟩, ?_⟩
  have il : i < env.length := (List.getElem?_eq_some_iff.mp (getC_some e2)).1
  have ho2 : gc T ω a = .own i [] := by show gcO T (ω a) = _; rw [ho]; rfl
  refine hm (gc T ω) H a vs ds [] [] _ Q hH (RpAll.sh gc_sh _ _ hp) .nil h2 fun y vs' res ds' hv hy hR' => ?_
  obtain ⟨rel2, st2⟩ := (rel.gc T).wr hσ il ho2 hv
  refine q y _ (gc T ω) _ (.v 0 res) rel2 ((Step.refl.gc fr).trans st2) gc_free.up ?_ hR'
  exact Rp.sh (sh_upd (by rw [ho2]; exact fun z => by cases z)) _ _ hy
theorem sm_reverse : SndM K rReverse mReverse := by
  intro ω H a vs ds xs es R Q hH hp he h q
  cases he with
  | nil => exact ⟨a, vs, rfl, rfl, hH, q .non _ .none _ hp.reverse .non h⟩
  | cons _ _ => exact h.elim
theorem sm_clear : SndM K rClear mClear := by
  intro ω H a vs ds xs es R Q hH hp he h q
  cases he with
  | nil => exact ⟨a, vs, rfl, rfl, hH, q .non _ .none _ .nil .non h⟩
  | cons _ _ => exact h.elim
theorem RpAll.dropLast {ω : Om} {H : Hp} {vs : List V} {ds : List D} (h : RpAll K ω H vs ds) : RpAll K ω H vs.dropLast ds.dropLast := by
  rw [List.dropLast_eq_take, List.dropLast_eq_take, h.length]
  exact h.take _
theorem sm_pop : SndM K rPop mPop := by
  intro ω H a vs ds xs es R Q hH hp he h q
  cases he with
  | nil =>
    obtain ⟨y, hy, hR⟩ := h
    rw [List.getLast?_eq_getElem?] at hy
    obtain ⟨v, hv, rv⟩ := hp.at_ hy
    exact ⟨a, vs, v, rfl, rfl, hH, by rw [hp.length]; exact hv, q v _ y _ hp.dropLast rv hR⟩
  | cons _ _ => exact h.elim
end
section
variable {X : Cx} {x : Str} {p apos cpos : Pos}
theorem se_mth0 {nm : Str} {id : String} {r : V → List V → Hp → VK → Prop} {m : MT} (i : Nat) (slot : Slot "list" nm id) (hty : typeOf (.builtin id) = pure (.type "method_descriptor")) (hm : MtR X id r) (sm : SndM X.K r m)
    (hN : X.N[i]? = some x := by rfl) (hv : Vis X.env.scope x := by first | exact Or.inl rfl | exact Or.inr (Or.inl rfl) | exact Or.inr (Or.inr rfl)) (hbase : attributeBase (.Name x p) nm X.env (eval (.Name x p) X.env) = eval (.Name x p) X.env := by rfl)
    (hline : (apos.endLine == cpos.line) = true := by rfl) (hd : (x == ("__debug__" : Str)) = false := by decide) (hcd : (x == ("__classdict__" : Str)) = false := by decide) :
    SE X (.Call (.Attribute (.Name x p) nm apos) [] [] cpos) (fMth0 i m) :=
  ⟨_, pe_bm0 PySem.F.plainAttrs_list slot hty hm (pe_var hN hv hd hcd) hbase hline, snd_mth0 sm⟩
theorem se_reverse (i : Nat) (hN : X.N[i]? = some x := by rfl) (hv : Vis X.env.scope x := by first | exact Or.inl rfl | exact Or.inr (Or.inl rfl) | exact Or.inr (Or.inr rfl)) (hbase : attributeBase (.Name x p) "reverse" X.env (eval (.Name x p) X.env) = eval (.Name x p) X.env := by rfl)
    (hline : (apos.endLine == cpos.line) = true := by rfl) (hd : (x == ("__debug__" : Str)) = false := by decide) (hcd : (x == ("__classdict__" : Str)) = false := by decide) : SE X (.Call (.Attribute (.Name x p) "reverse" apos) [] [] cpos) (fMth0 i mReverse) :=
  se_mth0 i PySem.F.slot_list_reverse PySem.F.type_list_reverse mt_reverse sm_reverse hN hv hbase hline hd hcd
theorem se_clear (i : Nat) (hN : X.N[i]? = some x := by rfl) (hv : Vis X.env.scope x := by first | exact Or.inl rfl | exact Or.inr (Or.inl rfl) | exact Or.inr (Or.inr rfl)) (hbase : attributeBase (.Name x p) "clear" X.env (eval (.Name x p) X.env) = eval (.Name x p) X.env := by rfl)
    (hline : (apos.endLine == cpos.line) = true := by rfl) (hd : (x == ("__debug__" : Str)) = false := by decide) (hcd : (x == ("__classdict__" : Str)) = false := by decide) : SE X (.Call (.Attribute (.Name x p) "clear" apos) [] [] cpos) (fMth0 i mClear) :=
  se_mth0 i PySem.F.slot_list_clear PySem.F.type_list_clear mt_clear sm_clear hN hv hbase hline hd hcd
theorem se_pop (i : Nat) (hN : X.N[i]? = some x := by rfl) (hv : Vis X.env.scope x := by first | exact Or.inl rfl | exact Or.inr (Or.inl rfl) | exact Or.inr (Or.inr rfl)) (hbase : attributeBase (.Name x p) "pop" X.env (eval (.Name x p) X.env) = eval (.Name x p) X.env := by rfl)
    (hline : (apos.endLine == cpos.line) = true := by rfl) (hd : (x == ("__debug__" : Str)) = false := by decide) (hcd : (x == ("__classdict__" : Str)) = false := by decide) : SE X (.Call (.Attribute (.Name x p) "pop" apos) [] [] cpos) (fMth0 i mPop) :=
  se_mth0 i PySem.F.slot_list_pop PySem.F.type_list_pop mt_pop sm_pop hN hv hbase hline hd hcd
theorem se_mth1 {nm : Str} {id : String} {r : V → List V → Hp → VK → Prop} {m : MT} {e : Expr} {es : List Expr} {fa : FA} (i : Nat) (slot : Slot "list" nm id) (hty : typeOf (.builtin id) = pure (.type "method_descriptor")) (hm : MtR X id r) (sm : SndM X.K r m) (ha : SA X (e :: es) fa)
    (hN : X.N[i]? = some x := by rfl) (hv : Vis X.env.scope x := by first | exact Or.inl rfl | exact Or.inr (Or.inl rfl) | exact Or.inr (Or.inr rfl)) (hbase : attributeBase (.Name x p) nm X.env (eval (.Name x p) X.env) = eval (.Name x p) X.env := by rfl)
    (hfew : ((backTo cpos (starEach (e :: es) X.env)).all (fun x => !x.1) && (backToKw cpos (keywordEach [] X.env)).all (fun x => x.1.isSome) && decide ((e :: es).length + ([] : List Keyword).length + (if ([] : List Keyword).isEmpty then 0 else 1) < 30)) = true := by rfl)
    (hline : (apos.endLine == cpos.line) = true := by rfl) (hs : starEach (e :: es) X.env = (false, eval e X.env) :: starEach es X.env := by rfl) (hpl : (backTo cpos (starEach es X.env)).any (·.1) = false := by rfl) (hd : (x == ("__debug__" : Str)) = false := by decide) (hcd : (x == ("__classdict__" : Str)) = false := by decide) :
    SE X (.Call (.Attribute (.Name x p) nm apos) (e :: es) [] cpos) (fMth i m fa) := by
  obtain ⟨t, q, s⟩ := ha.ex
  exact ⟨_, pe_bm PySem.F.plainAttrs_list slot hty hm (pe_var hN hv hd hcd) q hbase hfew hline hs hpl, snd_mth sm s⟩
end
end Pv

/-! Pv15: a test that borrows a slot's own list. -/
namespace Pv
open PySem PySem.Spec PyProof.Rows L2
/-- behind a test that borrows slot i: it and the boxes as they were, of the other slots what is shared -/
def lendG (i : Nat) (bx : List Nat) : Nat → Env → Env
  | _, [] => []
  | n, c :: e => (bif (n == i || bx.contains n) then c else keepC c) :: lendG i bx (n + 1) e
def fLend (i : Nat) (bx : List Nat) (fc : FT) : FT := fun env R => match getC env i with
  | some c => fc (env.set i (some (sh c.d))) fun b e' => (∀ j ∈ bx, e'[j]? = env[j]? ∧ ∃ ns : List Int, env[j]? = some (some ⟨1, .list (ns.map .int)⟩)) ∧ R b (lendG i bx 0 env)
  | none => False
theorem lendG_len (i : Nat) (bx : List Nat) : ∀ (n : Nat) (e : Env), (lendG i bx n e).length = e.length
  | _, [] => rfl
  | n, c :: e => congrArg (· + 1) (lendG_len i bx (n + 1) e)
theorem lendG_get {i : Nat} {bx : List Nat} {c' : Cell} : ∀ (n : Nat) (e : Env) (j : Nat), (lendG i bx n e)[j]? = some (some c') → e[j]? = some (some c') ∧ (n + j = i ∨ n + j ∈ bx ∨ c'.k = 0)
  | _, [], j, h => by cases j <;> cases h
  | n, c :: e, 0, h => by
    have h : (bif (n == i || bx.contains n) then c else keepC c) = some c' := Option.some.inj h
    by_cases hz : (n == i || bx.contains n) = true
    · rw [hz] at h
      have h : c = some c' := h
      subst h
      refine ⟨rfl, ?_⟩
      rcases (Bool.or_eq_true _ _).mp hz with z | z
      · exact .inl (by simpa using z)
      · exact .inr (.inl (by simpa using z))
    · have hz2 : (n == i || bx.contains n) = false := by cases hq : (n == i || bx.contains n) with
        | true => exact absurd hq hz
        | false => rfl
      rw [hz2] at h
      have h : keepC c = some c' := h
      match c, h with
      | some ⟨0, d⟩, h => cases h; exact ⟨rfl, .inr (.inr rfl)⟩
      | some ⟨k + 1, d⟩, h => cases h
      | none, h => cases h
  | n, c :: e, j + 1, h => by
    obtain ⟨h1, h2⟩ := lendG_get (n + 1) e j h
    exact ⟨h1, by rw [show n + (j + 1) = n + 1 + j by omega]; exact h2⟩
section
variable {K : Fg}
theorem snd_lend {t : TT} {fc : FT} (i : Nat) (bx : List Nat) (hc : SndT K t fc) : SndT K t (fLend i bx fc) := by
  intro ω T env σ H R Q rel fr h0 q
  obtain ⟨c, hcell, hR⟩ : ∃ c : Cell, env[i]? = some (some c) ∧ fc (env.set i (some (sh c.d))) (fun b e' => (∀ j ∈ bx, e'[j]? = env[j]? ∧ ∃ ns : List Int, env[j]? = some (some ⟨1, .list (ns.map .int)⟩)) ∧ R b (lendG i bx 0 env)) := by
    unfold fLend at h0
    cases hc : getC env i with
    | none => rw [hc] at h0; exact h0.elim
    | some c => rw [hc] at h0; exact ⟨c, getC_some hc, h0⟩
  obtain ⟨v, hv, ho⟩ := rel.cell i c hcell
  have gsh : Sh ω H (ren (fzO i) ω) H := fun a o h e => ⟨h, by show fzO i (ω a) = _; rw [e]; rfl⟩
  have own1 : ∀ a p, ω a = .own i p → ren (fzO i) ω a = .shr := fun a p z => by
    show fzO i (ω a) = _
    rw [z]
    show (if i = i then Ow.shr else _) = _
    rw [if_pos rfl]
  have own2 : ∀ a j p, j ≠ i → ω a = .own j p → ren (fzO i) ω a = .own j p := fun a j p hj z => by
    show fzO i (ω a) = _
    rw [z]
    show (if j = i then Ow.shr else _) = _
    rw [if_neg hj]
  have rp : Rp K (ren (fzO i) ω) H v c.d := OwR.fz gsh (fun a u p z1 z2 => ⟨z1, own1 a p z2⟩) _ _ _ _ ho
  have rel1 : Rel K (ren (fzO i) ω) (env.set i (some (sh c.d))) σ H := by
    refine ⟨by rw [List.length_set]; exact rel.len, fun j c' e => ?_⟩
    by_cases hj : i = j
    · subst hj
      have hlt : i < env.length := (List.getElem?_eq_some_iff.mp hcell).1
      rw [List.getElem?_set_self hlt] at e
      cases e
      exact ⟨v, hv, rp⟩
    · rw [List.getElem?_set_ne hj] at e
      obtain ⟨v', hv', ho'⟩ := rel.cell j c' e
      exact ⟨v', hv', OwR.go gsh (fun a u p z1 z2 => ⟨z1, own2 a j p (fun z => hj z.symm) z2⟩) _ _ _ _ ho'⟩
  have fr1 : Free (ren (fzO i) ω) T := fun a t p e => by
    have e' : fzO i (ω a) = .tmp t p := e
    cases y : ω a with
    | own j p' =>
      rw [y] at e'
      have e2 : (if j = i then Ow.shr else .own j p') = .tmp t p := e'
      by_cases hj : j = i
      · rw [if_pos hj] at e2; cases e2
      · rw [if_neg hj] at e2; cases e2
    | tmp t' p' => rw [y] at e'; cases e'; exact fr a _ _ y
    | _ => rw [y] at e'; cases e'
  refine hc (ren (fzO i) ω) T _ σ H _ _ rel1 fr1 hR fun b H' ω' env' rel' st' fr' h' => ?_
  obtain ⟨lo, hRb⟩ := h'
  -- the owners at the end
  let ω2 : Om := fun a => match H a, ω a with
    | some _, .own j p => if j = i then .own i p else ω' a
    | _, _ => ω' a
  have keep : ∀ a o, H a = some o → (∀ j p, j ≠ i → ω a ≠ .own j p) → H' a = some o ∧ ω2 a = ω a := fun a o h hn => by
    have hs := st' a o h
    cases y : ω a with
    | own j p =>
      by_cases hj : j = i
      · subst hj
        have e1 := own1 a p y
        rcases hs with ⟨j', p', z⟩ | ⟨z1, z2⟩
        · rw [e1] at z; cases z
        · refine ⟨z1, ?_⟩
          show (match H a, ω a with | some _, .own j' p => if j' = j then Ow.own j p else ω' a | _, _ => ω' a) = _
          rw [h, y]
          show (if j = j then Ow.own j p else _) = _
          rw [if_pos rfl]
      · exact absurd y (hn j p hj)
    | _ =>
      have e1 : ren (fzO i) ω a = ω a := by show fzO i (ω a) = ω a; rw [y]; rfl
      rcases hs with ⟨j', p', z⟩ | ⟨z1, z2⟩
      · rw [e1, y] at z; cases z
      · refine ⟨z1, ?_⟩
        show (match H a, ω a with | some _, .own j' p => if j' = i then Ow.own i p else ω' a | _, _ => ω' a) = _
        rw [h]
        simp only [y]
        rw [z2, e1, y]
  have gsh2 : Sh ω H ω2 H' := fun a o h e => by
    obtain ⟨k1, k2⟩ := keep a o h fun j p _ z => by rw [e] at z; cases z
    exact ⟨k1, k2.trans e⟩
  have same : ∀ a, (∀ p, ω a ≠ .own i p) ∨ H a = none → ω2 a = ω' a := fun a hn => by
    show (match H a, ω a with | some _, .own j' p => if j' = i then Ow.own i p else ω' a | _, _ => ω' a) = _
    cases y1 : H a with
    | none => rfl
    | some o =>
      cases y : ω a with
      | own j p =>
        have hj : j ≠ i := fun z => by
          subst z
          rcases hn with hn | hn
          · exact hn p y
          · rw [y1] at hn; cases hn
        show (if j = i then Ow.own i p else ω' a) = _
        rw [if_neg hj]
      | _ => rfl
  refine q b H' ω2 _ ⟨by rw [lendG_len]; exact rel.len, fun j c' e => ?_⟩ (fun a o h => ?_) (fun a t p e => ?_) hRb
  · obtain ⟨e, hk⟩ := lendG_get 0 env j e
    rw [Nat.zero_add] at hk
    obtain ⟨v', hv', ho'⟩ := rel.cell j c' e
    by_cases hj : j = i
    · subst hj
      exact ⟨v', hv', OwR.go gsh2 (fun a u p z1 z2 => by
        obtain ⟨k1, k2⟩ := keep a u z1 fun j' p' hj' z => by rw [z2] at z; cases z; exact hj' rfl
        exact ⟨k1, k2.trans z2⟩) _ _ _ _ ho'⟩
    · obtain ⟨k, d⟩ := c'
      cases k with
      | zero => exact ⟨v', hv', Rp.sh gsh2 d v' ho'⟩
      | succ k =>
        have hb : j ∈ bx := by
          rcases hk with z | z | z
          · exact absurd z hj
          · exact z
          · cases z
        obtain ⟨l1, ns, l2⟩ := lo j hb
        rw [e] at l2
        cases l2
        obtain ⟨v2, hv2, ho2⟩ := rel'.cell j _ (by rw [l1]; exact e)
        refine ⟨v2, hv2, ?_⟩
        rcases ho2 with ⟨im, _⟩ | ⟨a, vs, ds, e1, e2, q1, q2, el, hc⟩ | ⟨_, _, _, _, e2, _⟩
        · cases im
        rotate_left
        · cases e2
        · refine .inr (.inl ⟨a, vs, ds, e1, e2, q1, ?_, el, fun j2 w d2 z1 z2 => ?_⟩)
          · refine (same a ?_).trans q2
            by_cases hn : H a = none
            · exact .inr hn
            · refine .inl fun p z => ?_
              obtain ⟨o, ho⟩ := Option.ne_none_iff_exists'.mp hn
              have e3 := own1 a p z
              rcases st' a o ho with ⟨j', p', y⟩ | ⟨_, y⟩
              · rw [e3] at y; cases y
              · rw [y, e3] at q2; cases q2
          · have h3 := hc j2 w d2 z1 z2
            cases e2
            rw [List.getElem?_map] at z2
            cases z3 : ns[j2]? with
            | none => rw [z3] at z2; cases z2
            | some n =>
              rw [z3] at z2
              cases z2
              have h3 : Rp K ω' H' w (.int n) := h3
              cases h3
              exact Rp.int n
  · cases y : ω a with
    | own j p => exact .inl ⟨j, p, rfl⟩
    | _ =>
      obtain ⟨k1, k2⟩ := keep a o h fun j p _ z => by rw [y] at z; cases z
      exact .inr ⟨k1, k2.trans y⟩
  · by_cases hn : (∀ p, ω a ≠ .own i p) ∨ H a = none
    · rw [same a hn] at e
      exact fr' a t p e
    · obtain ⟨h1, h2⟩ := not_or.mp hn
      obtain ⟨p', hp'⟩ := Classical.not_forall.mp h1
      have hp2 : ω a = .own i p' := Classical.byContradiction fun z => hp' z
      obtain ⟨o, ho⟩ := Option.ne_none_iff_exists'.mp h2
      obtain ⟨_, k2⟩ := keep a o ho fun j' p2 hj' z => by rw [hp2] at z; cases z; exact hj' rfl
      rw [k2, hp2] at e
      cases e
end
theorem st_lend {X : Cx} {e : Expr} {fc : FT} (i : Nat) (bx : List Nat) (h : STs X e fc) : STs X e (fLend i bx fc) := by
  obtain ⟨t, p, s⟩ := h.ex
  exact ⟨_, p, snd_lend i bx s⟩
end Pv

/-! Pv16: chains of comparisons, tuples of the module, what is never reached. -/
namespace Pv
open PySem PySem.Spec PyProof.Rows L2
/-! ### a op b op' c -/
def fChain (o o' : O2) (fa fb fc : FE) : FE := fun env R => fa env fun r1 e1 => fb e1 fun r2 e2 => okb e2 r1 ∧ ap2 o r1 r2 fun _ d => dB (fun b => match b with
  | true => fc e2 fun r3 e3 => okb e3 r2 ∧ ap2 o' r2 r3 fun k d => R (.v k d) e3
  | false => R (.v 0 (.bool false)) e2) d
section
variable {K : Fg}
theorem snd_chain {r r' : R2} {o o' : O2} {ta tb tc : TE} {fa fb fc : FE} (ho : SndO2 K r o) (ho' : SndO2 K r' o') (ha : SndE K ta fa) (hb : SndE K tb fb) (hc : SndE K tc fc) : SndE K (tChain r r' ta tb tc) (fChain o o' fa fb fc) := by
  intro ω T env σ H R Q rel fre hR q
  refine ha ω T env σ H _ _ rel fre hR fun x H1 ω1 e1 r1 rel1 st1 fr1 rr1 h1 => ?_
  refine hb ω1 (T + 1) e1 σ H1 _ _ rel1 fr1 h1 fun y H2 ω2 e2 r2 rel2 st2 fr2 rr2 h2 => ?_
  have rr1' : ResR K ω2 H2 σ e2 T x r1 := by
    cases r1 with
    | v k d => exact ResR.step (T' := T) rr1 st2
    | b i k d => exact ⟨h2.1, rr1.2⟩
  have v1 := rr1'.gc rel2 (Nat.le_refl T)
  have v2 := rr2.gc rel2 (Nat.le_succ T)
  have stA : Step ω H (gc T ω2) H2 := (st1.trans st2).gc fre
  refine ho (gc T ω2) T H2 x y r1 r2 _ _ gc_free v1 v2 (ap2_cl h2.2) (fun z H3 ω3 k d g3 fr3 hz hR3 => ?_)
  obtain ⟨b, rfl, hb⟩ := dB_ex hR3
  have rel3 : Rel K ω3 e2 σ H3 := (rel2.gc T).grow g3
  have hz' : z = .bl b := ResR.bl (T := T) (r := .v k (.bool b)) rel3 hz rfl
  refine ⟨b, hz', ?_⟩
  cases b with
  | false => exact q (.bl false) H3 ω3 e2 (.v 0 (.bool false)) rel3 (stA.grow g3) fr3 (Rp.bl false) hb
  | true =>
    show tc σ H3 _
    refine hc ω3 (T + 1) e2 σ H3 _ _ rel3 fr3 hb fun w H4 ω4 e4 r3 rel4 st4 fr4 rr3 h4 => ?_
    have v2' : Vw K (gc T ω4) H4 y r2 := by
      cases r2 with
      | v k d =>
        have w1 : Rp K (gc T ω2) H2 y d := v2
        exact Rp.sh gc_sh _ _ (Rp.sh st4.sh _ _ (Rp.sh g3.step.sh _ _ w1))
      | b i k d =>
        have e1 : e4[i]? = some (some ⟨k, d⟩) := h4.1
        obtain ⟨v', hv, hw⟩ := (rel4.gc T).cell i _ e1
        have e2 := rr2.2
        rw [hv] at e2
        have e3 : v' = y := Option.some.inj (Option.some.inj e2)
        subst e3
        exact hw
    exact ho' (gc T ω4) T H4 y w r2 r3 _ Q gc_free v2' (rr3.gc rel4 (Nat.le_succ T)) (ap2_cl h4.2) (out_of (rel4.gc T) (((stA.grow g3).trans st4).gc fre) q)
end
section
variable {X : Cx} {a b c : Expr} {fa fb fc : FE} {pos : Pos}
theorem se_chain {op op' : CmpOp} {r r' : R2} {o o' : O2} (ho : OpR X (compareOp op) r) (so : SndO2 X.K r o) (ho' : OpR X (compareOp op') r') (so' : SndO2 X.K r' o') (ha : SE X a fa) (hb : SE X b fb) (hc : SE X c fc) (hm : lastMarks [op, op'] [b, c] = false := by rfl) :
    SE X (.Compare a [op, op'] [b, c] pos) (fChain o o' fa fb fc) := by
  obtain ⟨t, p, s⟩ := ha.ex
  obtain ⟨t', p', s'⟩ := hb.ex
  obtain ⟨t2, p2, s2⟩ := hc.ex
  exact ⟨_, pe_chain ho ho' p p' p2 (hm := hm), snd_chain so so' s s' s2⟩
theorem st_chain {op op' : CmpOp} {r r' : R2} {o o' : O2} (ho : OpR X (compareOp op) r) (so : SndO2 X.K r o) (ho' : OpR X (compareOp op') r') (so' : SndO2 X.K r' o') (ha : SE X a fa) (hb : SE X b fb) (hc : SE X c fc) (hm : lastMarks [op, op'] [b, c] = false := by rfl) :
    STs X (.Compare a [op, op'] [b, c] pos) (fTst (fChain o o' fa fb fc)) := by
  obtain ⟨t, p, s⟩ := ha.ex
  obtain ⟨t', p', s'⟩ := hb.ex
  obtain ⟨t2, p2, s2⟩ := hc.ex
  exact ⟨_, pt_chain ho ho' p p' p2 (hm := hm), snd_tst (snd_chain so so' s s' s2)⟩
/-! ### constants of the module -/
theorem se_gk {x : Str} {d : D} {pos : Pos} (h : ∃ u, X.mg x = some u ∧ KD X.K u d) (hg : Gl X x := by rfl) (hd : (x == ("__debug__" : Str)) = false := by decide) : SE X (.Name x pos) (fC d) := by
  obtain ⟨u, h, k⟩ := h
  exact se_glob h k hg hd
end
theorem kd_int {K : Fg} {i : Int} {t : Tok} : KD K (.int i t) (.int i) := ⟨.int i, ⟨t, rfl⟩, fun _ _ => .int i⟩
theorem vals_strs : ∀ (xs : List (Str × Tok)), Vals (xs.map fun p => V.str p.1) (xs.map fun p => Value.str p.1 p.2)
  | [] => .nil
  | p :: xs => .cons ⟨p.2, rfl⟩ (vals_strs xs)
theorem kd_tupS {K : Fg} {a : Addr} {od : Option Addr} {its : Array Value} {n : Nat} {sl : Array (Option Value)} (xs : List Str) (l : K.lookup a = some ⟨.type "tuple", od, .seq its n, sl⟩) (hv : Vals (xs.map V.str) its.toList) (hn : its.size ≤ sizeLine) : KD K (.ref a) (.tuple (xs.map .str)) :=
  ⟨.ref a, rfl, fun ω H => .tup (.inr ⟨_, its, n, l, rfl, rfl, hn, hv⟩) (by
    clear hv
    induction xs with
    | nil => exact .nil
    | cons x xs ih => exact .cons (.str x) ih)⟩
/-! ### what is never reached -/
def fNoS : FS := fun _ _ => False
def fNoE : FE := fun _ _ => False
theorem ss_no {X : Cx} {io : Nat → Bool} {st : Stmt} : SSt X io st fNoS := ⟨fun _ _ _ => False, ⟨fun _ _ _ _ _ _ h => h.elim⟩, fun _ _ _ _ _ _ _ _ h _ => h.elim⟩
theorem se_no {X : Cx} {e : Expr} : SE X e fNoE := ⟨fun _ _ _ => False, ⟨fun _ _ _ _ _ _ h => h.elim⟩, fun _ _ _ _ _ _ _ _ _ h _ => h.elim⟩
theorem st_no {X : Cx} {e : Expr} : STs X e (fTst fNoE) := ⟨fun _ _ _ => False, ⟨fun _ _ _ _ _ _ h => h.elim⟩, fun _ _ _ _ _ _ _ _ _ h _ => h.elim⟩
end Pv

/-! Pv17: max(.., default=i) of a list of ints. -/
namespace Pv
open PySem PySem.Spec PyProof.Rows L2
def mxD (i : Int) : List Int → Int
  | [] => i
  | n :: ns => ns.foldl max n
def dMaxDf (f : Prop) (R : KC) (i : Int) : D → Prop
  | .list ds => f ∧ ∃ ns : List Int, ds = ns.map PyData.int ∧ R 0 (.int (mxD i ns))
  | _ => False
def oMaxDf (i : Int) : O1 := fun r R => dMaxDf (flat r) R i r.d
def rMaxDf (K : Fg) (i : Int) : List V → Hp → VK → Prop := fun vs H Q => ∃ (a : Addr) (ns : List Int), vs = [V.ref a] ∧ SqL K H a (ns.map V.int) ∧ Q (.int (mxD i ns)) H
theorem maxOf_int (y : Int) (ys : List Int) : PySem.W.maxOf y ys = ys.foldl max y := by
  have h := PySem.W.maxD_map y ys
  have h2 := PySem.W.maxD_ints y ys
  have h3 : PyData.int (ys.foldl max y) = PyData.int (PySem.W.maxOf y ys) := h2.symm.trans h
  exact (PyData.int.inj h3).symm
section
variable {X : Cx}
theorem cr_maxDf (hc : X.calm = true) (hu : X.A.units + 64 < cLine) (i : Int) : CallRK X (.builtin "max") ["default"] (fun xs zs H Q => zs = [.int i] ∧ ∃ x, xs = [x] ∧ rMaxDf X.K i [x] H Q) := by
  intro pins s σ H xs zs us ws Q J rv rz h
  obtain ⟨rfl, x, rfl, a, ns, e0, hs, q⟩ := h
  obtain rfl : x = V.ref a := List.head_eq_of_cons_eq e0
  obtain ⟨w, rfl, t, rfl⟩ := vals1 rz
  obtain ⟨its, rl, hl, _⟩ := J.list hs
  rw [Vals.ref1 rv]
  obtain ⟨as, hr⟩ := Dp.readsAll J (ns.map PyData.int) _ its (dpAll_ints ns) rl
  refine PySem.W.max_list_datum_default (α := Int) (xs := ns) (J.ok.hd hc) hl.isList ⟨as, hr⟩ (by show X.A.units + 1 + 0 < cLine; omega) (fun e h' tk hk => ?_) (fun y ys n v h' tk e _ hv hk => ?_)
  · subst e
    exact ⟨.int _, H, J.kept hk, ⟨t, rfl⟩, q⟩
  · subst e
    obtain ⟨bs, r⟩ := hv
    rw [maxOf_int] at r
    have r2 : Reads h' v (PyData.int (ys.foldl max y)) bs := r
    cases r2 with
    | int _ t2 => exact ⟨.int _, H, J.kept hk, ⟨t2, rfl⟩, q⟩
theorem so_maxDf {K : Fg} (i : Int) : SndO1 K (fun x H Q => rMaxDf K i [x] H Q) (oMaxDf i) := by
  intro ω T H x r1 R Q fr v1 h q
  have h' : dMaxDf (flat r1) R i r1.d := h
  generalize e1 : r1.d = d1 at h'
  cases d1 <;> first
    | exact h'.elim
    | skip
  obtain ⟨f, ns, rfl, hR⟩ := h'
  obtain ⟨a, vs, rfl, ha, hp⟩ := v1.lst f e1
  exact ⟨a, ns, rfl, .inl (.inl (by rw [← RpAll.of_ints ns hp]; exact ha)), q.int fr hR⟩
theorem so_maxDfN {K : Fg} (i : Int) : SndON K (fun xs H Q => [V.int i] = [V.int i] ∧ ∃ x, xs = [x] ∧ rMaxDf K i [x] H Q) (at1 (oMaxDf i)) := by
  intro ω T H xs rs R Q fr va h q
  exact ⟨rfl, so_at1 (so_maxDf i) ω T H xs rs R Q fr va h q⟩
theorem se_maxDf {k : Nat} {e : Expr} {fa : FA} {p pos kp cp : Pos} {i : Int} {j : Nat} (hc : X.calm = true) (hr : Room k X.A) (hm : X.mg "max" = none) (ha : SA X [e] fa) (hg : Gl X "max" := by rfl)
    (he : backTo pos (starEach [e] X.env) = (false, eval e X.env) :: backTo pos (starEach [] X.env) := by rfl) (hpl : (backTo pos (starEach [e] X.env)).any (·.1) = false := by rfl) :
    SE X (.Call (.Name "max" p) [e] [⟨"default", .Constant (.int i) j cp, kp⟩] pos) (fOpN (at1 (oMaxDf i)) fa) := by
  obtain ⟨t, q, s⟩ := ha.ex
  exact ⟨_, pe_callBK (ks := ["default"]) (cr_maxDf hc (hu64 hr) i) hg hm (by decide +kernel) q (pk_cons pe_int pk_nil) (he := he) (hpl := hpl), snd_opN (so_maxDfN i) s⟩
end
end Pv

/-! Pv18: x[i], x[j] = a, b (ints, of a slot's own list). -/
namespace Pv
open PySem PySem.Spec PyProof.Rows L2
theorem grow_new {ω : Om} {H : Hp} {p : Addr} {u : HO} (hp : H p = none) : Grow ω H ω (upd H p u) := fun a o h => ⟨by
  have ne : a ≠ p := fun z => by subst z; rw [hp] at h; cases h
  rw [upd_ne ne]; exact h, rfl⟩
def fSwp (i : Nat) (fa : FA) (f1 f2 : FE) : FS := fun env k => fa env fun rs e1 => match rs with
  | [r1, r2] => atInt (fun a => atInt (fun b => isOwn (getC e1 i) ∧ f1 e1 fun rj e2 => onOwn (getC e2 i) fun ds => atInt (fun j => ∃ n, ixN ds.length j = some n ∧
      (isOwn (getC (e2.set i (some (ow (.list (ds.set n (.int a)))))) i) ∧ f2 (e2.set i (some (ow (.list (ds.set n (.int a)))))) fun rl e3 => onOwn (getC e3 i) fun ds2 => atInt (fun l => ∃ n2, ixN ds2.length l = some n2 ∧ k.nx (e3.set i (some (ow (.list (ds2.set n2 (.int b))))))) rl.d)) rj.d) r2.d) r1.d
  | _ => False
section
variable {K : Fg} {io : Nat → Bool}
theorem set_step {i T : Nat} {tj : TE} {fj : FE} (hj : SndE K tj fj) {ω ω0 : Om} {env : Env} {σ : Sg} {H H0 : Hp} (rel : Rel K ω env σ H) (fr : Free ω T) (st0 : Step ω0 H0 ω H) (fr0 : Free ω0 0) (a : Int) {P : Env → Prop}
    (hown : isOwn (getC env i)) (h : fj env fun rj e2 => onOwn (getC e2 i) fun ds => atInt (fun j => ∃ n, ixN ds.length j = some n ∧ P (e2.set i (some (ow (.list (ds.set n (.int a))))))) rj.d) {Q : Sg → Hp → Prop}
    (fin : ∀ H' ω' env', Rel K ω' env' σ H' → Step ω0 H0 ω' H' → Free ω' 0 → P env' → Q σ H') : gSub (tVar i) tj rSetL (.int a) σ H Q := by
  obtain ⟨ds0, e0⟩ := isOwn_ex hown
  obtain ⟨a0, vs0, hσ, hH, _, _⟩ := rel.own e0
  refine ⟨.ref a0, hσ, ?_⟩
  refine hj ω T env σ H _ _ rel fr h fun jv H2 ω2 e2 rj rel2 st2 fr2 rr2 h2 => ?_
  obtain ⟨ds, e3, h3⟩ := onOwn_ex h2
  obtain ⟨j, ej, n, hn, hk⟩ := atInt_ex h3
  obtain ⟨a1, vs, hσ1, hH2, ho2, hp2⟩ := rel2.own e3
  have ea : a0 = a1 := by
    rw [hσ] at hσ1
    exact V.ref.inj (Option.some.inj (Option.some.inj hσ1))
  subst ea
  have il : i < e2.length := (List.getElem?_eq_some_iff.mp (getC_some e3)).1
  have hog : gc 0 ω2 a0 = .own i [] := by show gcO 0 (ω2 a0) = _; rw [ho2]; rfl
  have hpg : RpAll K (gc 0 ω2) H2 (vs.set n (.int a)) (ds.set n (.int a)) := RpAll.set (.int a) n (RpAll.sh gc_sh _ _ hp2)
  obtain ⟨rel3, st3⟩ := (rel2.gc 0).wr hσ1 il hog hpg
  refine ⟨a0, vs, j, n, rfl, rr2.int_ rel2 ej, hH2, by rw [hp2.length]; exact hn, ?_⟩
  exact fin _ (gc 0 ω2) _ rel3 (((st0.trans st2).gc fr0).trans st3) gc_free hk
end
section
variable {X : Cx} {io : Nat → Bool} {a b j1 j2 : Expr} {fa : FA} {f1 f2 : FE} {x : Str} {p1 p2 q1 q2 pt pt2 pos : Pos} {kt k2 : Nat}
theorem ss_swp (i : Nat) (hc : X.calm = true) (ha : SA X [a, b] fa) (h1 : SE X j1 f1) (h2 : SE X j2 f2) (hN : X.N[i]? = some x := by rfl) (hv : Vis X.env.scope x := by first | exact Or.inl rfl | exact Or.inr (Or.inl rfl) | exact Or.inr (Or.inr rfl)) (hd : (x == ("__debug__" : Str)) = false := by decide) (hcd : (x == ("__classdict__" : Str)) = false := by decide)
    (hasg1 : ∀ v, assign (.Subscript (.Name x p1) j1 q1) X.env v = (do
      let ov ← holding [v] (eval (.Name x p1) X.env)
      let iv ← holding [v, ov] (eval j1 X.env)
      standAt q1
      holding [v, ov, iv] (setItem ov iv v)
      release [v, ov, iv] []) := by intro _; rfl)
    (hasg2 : ∀ v, assign (.Subscript (.Name x p2) j2 q2) X.env v = (do
      let ov ← holding [v] (eval (.Name x p2) X.env)
      let iv ← holding [v, ov] (eval j2 X.env)
      standAt q2
      holding [v, ov, iv] (setItem ov iv v)
      release [v, ov, iv] []) := by intro _; rfl)
    (g1 : (assignEach [.Subscript (.Name x p1) j1 q1, .Subscript (.Name x p2) j2 q2] X.env).map (·.2) = assign (.Subscript (.Name x p1) j1 q1) X.env :: (assignEach [.Subscript (.Name x p2) j2 q2] X.env).map (·.2) := by rfl)
    (g2 : (assignEach [.Subscript (.Name x p2) j2 q2] X.env).map (·.2) = assign (.Subscript (.Name x p2) j2 q2) X.env :: (assignEach [] X.env).map (·.2) := by rfl)
    (hn : (assignEach [.Subscript (.Name x p1) j1 q1, .Subscript (.Name x p2) j2 q2] X.env).length = 2 := by rfl) (hst : (assignEach [.Subscript (.Name x p1) j1 q1, .Subscript (.Name x p2) j2 q2] X.env).findIdx? (·.1) = none := by rfl)
    (hs : swapsWithSole [.Tuple [.Subscript (.Name x p1) j1 q1, .Subscript (.Name x p2) j2 q2] kt pt] (.Tuple [a, b] k2 pt2) pos.line X.env = pure false := by rfl)
    (hw : swappedStores [.Tuple [.Subscript (.Name x p1) j1 q1, .Subscript (.Name x p2) j2 q2] kt pt] (.Tuple [a, b] k2 pt2) X.env = pure none := by rfl)
    (h0 : (assignEach [.Tuple [.Subscript (.Name x p1) j1 q1, .Subscript (.Name x p2) j2 q2] kt pt] X.env).map (·.2) = [assign (.Tuple [.Subscript (.Name x p1) j1 q1, .Subscript (.Name x p2) j2 q2] kt pt) X.env] := by rfl) :
    SSt X io (.Assign [.Tuple [.Subscript (.Name x p1) j1 q1, .Subscript (.Name x p2) j2 q2] kt pt] (.Tuple [a, b] k2 pt2) pos) (fSwp i fa f1 f2) := by
  obtain ⟨t, p, s⟩ := ha.ex
  obtain ⟨t1, r1, s1⟩ := h1.ex
  obtain ⟨t2, r2, s2⟩ := h2.ex
  refine ⟨_, ps_asg (pe_tup p) (pg_tup hc (pgs_cons (pg_sub (pe_var hN hv hd hcd) r1 set_list hasg1) (pgs_cons (pg_sub (pe_var hN hv hd hcd) r2 set_list hasg2) pgs_nil g2) g1) hn hst) hs hw h0, fun ω env σ H E k rel fr hf kr => ?_⟩
  refine s ω 0 env σ H _ _ rel fr hf fun vs H1 ω1 e1 rs rel1 st1 fr1 rr1 h1 => ?_
  obtain ⟨w1, w2, rfl⟩ : ∃ w1 w2, rs = [w1, w2] := by
    match rs, h1 with
    | [w1, w2], _ => exact ⟨w1, w2, rfl⟩
    | [], h => exact h.elim
    | [_], h => exact h.elim
    | _ :: _ :: _ :: _, h => exact h.elim
  obtain ⟨v1, v2, rfl⟩ : ∃ v1 v2, vs = [v1, v2] := by
    match vs, rr1 with
    | [v1, v2], _ => exact ⟨v1, v2, rfl⟩
    | [], h => exact h.elim
    | [_], h => exact h.2.elim
    | _ :: _ :: _ :: _, h => exact h.2.2.elim
  obtain ⟨rr1, rr2, _⟩ := rr1
  obtain ⟨a1, ea, h1⟩ := atInt_ex h1
  obtain ⟨b1, eb, ho, h1⟩ := atInt_ex h1
  have ev1 := rr1.int_ rel1 ea
  have ev2 := rr2.int_ rel1 eb
  subst ev1
  subst ev2
  refine ⟨show 2 ≤ sizeLine by decide, fun q hq => ⟨q, [.int a1, .int b1], rfl, .inl (.inl upd_same), rfl, .int a1, [.int b1], rfl, ?_⟩⟩
  have g := grow_new (ω := ω1) (u := .tup [.int a1, .int b1]) hq
  refine set_step s1 (rel1.grow g) fr1 (st1.grow g) fr a1 (P := fun e => isOwn (getC e i) ∧ f2 e fun rl e3 => onOwn (getC e3 i) fun ds2 => atInt (fun l => ∃ n2, ixN ds2.length l = some n2 ∧ k.nx (e3.set i (some (ow (.list (ds2.set n2 (.int b1))))))) rl.d) ho h1 fun H' ω' env' rel' st' fr' hP => ⟨.int b1, [], rfl, ?_⟩
  obtain ⟨ho2, hP⟩ := hP
  exact set_step s2 rel' fr' st' fr b1 (P := fun e => k.nx e) ho2 hP fun H'' ω'' env'' rel'' st'' fr'' hk => ⟨rfl, kr.nx σ _ _ _ rel'' st'' fr'' Keep.refl hk⟩
end
end Pv

/-! Pv19: {text: text, ..}[e], written where it is looked at. -/
namespace Pv
open PySem PySem.Spec PyProof.Rows L2
def cPairs (kvs : List (Str × Str)) : List (TE × TE) := kvs.map fun p => (tC (.str p.1), tC (.str p.2))
theorem tPairs_c : ∀ {kvs : List (Str × Str)} {σ : Sg} {H : Hp} {Q : List (V × V) → Hp → Prop}, Q (kvs.map fun p => (V.str p.1, V.str p.2)) H → tPairs (cPairs kvs) σ H Q
  | [], _, _, _, h => h
  | _ :: kvs, _, _, _, h => tPairs_c (kvs := kvs) h
structure DKs (X : Cx) (pos : Pos) (keys : List (Option Expr)) (values : List Expr) (kvs : List (Str × Str)) : Prop where
  pps : PPs X pos keys values (cPairs kvs)
def keyS (kvs : List (Str × Str)) : List (Key × V) := kvs.map fun p => (Sum.inr p.1, V.str p.2)
def lkS (kvs : List (Str × Str)) (s : Str) : Option Str := match valV (mergeK [] (keyS kvs)) (.inr s) with
  | some (.str v) => some v
  | _ => none
def pickT (R : KC) : Option Str → Prop
  | some v => R 0 (.str v)
  | none => False
def dLk (kvs : List (Str × Str)) (R : KC) : D → Prop
  | .str s => pickT R (lkS kvs s)
  | _ => False
def oLk (kvs : List (Str × Str)) : O1 := fun r R => dLk kvs R r.d
section
variable {X : Cx} {pos : Pos} {keys : List (Option Expr)} {values : List Expr} {kvs : List (Str × Str)} {a b : Str} {p1 p2 : Pos}
theorem dks_nil : DKs X pos [] [] [] := ⟨pps_nil⟩
theorem dks_cons {j1 j2} (h : DKs X pos keys values kvs) : DKs X pos (some (.Constant (.str a) j1 p1) :: keys) (.Constant (.str b) j2 p2 :: values) ((a, b) :: kvs) := ⟨pps_cons pe_str pe_str h.pps⟩
theorem lk_ex {R : KC} {d : D} (h : dLk kvs R d) : ∃ s v, d = .str s ∧ valV (mergeK [] (keyS kvs)) (.inr s) = some (.str v) ∧ R 0 (.str v) := by
  cases d <;> first
    | exact h.elim
    | skip
  rename_i s
  have h' : pickT R (lkS kvs s) := h
  unfold lkS at h'
  cases e : valV (mergeK [] (keyS kvs)) (.inr s) with
  | none => rw [e] at h'; exact h'.elim
  | some x =>
    rw [e] at h'
    cases x <;> first
      | exact h'.elim
      | exact ⟨s, _, rfl, e, h'⟩
theorem snd_lk {K : Fg} {ta : TE} {fa : FE} (hl : kvs.length ≤ 15) (ha : SndE K ta fa) : SndE K (tDGet (tDisp (cPairs kvs)) ta) (fOp1 (oLk kvs) fa) := by
  intro ω T env σ H R Q rel fre hR q
  refine fun p hp => tPairs_c ⟨upd_same, keyS kvs, by unfold keyS; rw [List.map_map]; rfl, by unfold keyS; rw [List.length_map]; exact hl, ?_⟩
  rw [upd_upd]
  have g := put_grow (o := .shr) (ω := ω) (u := .dK (mergeK [] (keyS kvs))) hp
  have fr1 : Free (putO p .shr ω) T := fun a t l e => by
    by_cases h : a = p
    · subst h; rw [putO_same] at e; cases e
    · rw [putO_ne h] at e; exact fre a t l e
  refine ha (putO p .shr ω) T env σ _ _ _ (rel.grow g) fr1 hR fun y H2 ω2 e2 r rel2 st2 fr2 rr2 h2 => ?_
  obtain ⟨s, v, e, hv, hk⟩ := lk_ex (ap1_cl h2)
  have ey : y = .str s := (rr2.gc rel2 (Nat.le_refl _)).str e
  subst ey
  have hH : H2 p = some (.dK (mergeK [] (keyS kvs))) := by
    rcases st2 p _ upd_same with ⟨i, l, z⟩ | ⟨z, _⟩
    · rw [putO_same] at z; cases z
    · exact z
  exact ⟨p, .str v, rfl, .inl ⟨_, .inr s, .inl hH, rfl, hv.symm⟩, q (.str v) H2 ω2 e2 (.v 0 (.str v)) rel2 (g.step.trans st2) fr2 (.str v) hk⟩
theorem se_lk {k : Nat} {e : Expr} {fa : FE} {posD : Pos} (hr : Room k X.A) (h : DKs X posD keys values kvs) (ha : SE X e fa) (hs : NoSl e := by exact fun _ _ => rfl) (hl : kvs.length ≤ 15 := by decide) (hall : keys.all (·.isSome) = true := by rfl) (hkv : keys.length = values.length := by rfl) (h0 : keys ≠ [] := by exact fun z => by cases z) (h15 : keys.length ≤ 15 := by decide) :
    SE X (.Subscript (.Dict keys values posD) e pos) (fOp1 (oLk kvs) fa) := by
  obtain ⟨t, p, s⟩ := ha.ex
  exact ⟨_, pe_dget (by have := hu64 hr; omega) (pe_disp h.pps hall hkv h0 h15) p hs, snd_lk hl s⟩
end
end Pv

/-! Pv20: dicts whose keys are ints. -/
namespace Pv
open PySem PySem.Spec PyProof.Rows L2
/-! ### rules of the machine -/
def rEq0 (p : Bool → Bool) : R2 := fun x y H Q => ∃ a b ks ls, x = .ref a ∧ y = .ref b ∧ H a = some (.dK ks) ∧ H b = some (.dK ls) ∧ (ks = [] ∨ ls = []) ∧ Q (.bl (p (ks.length == ls.length))) H
def rUpdD : V → List V → Hp → VK → Prop := fun x vs H Q => ∃ (a b : Addr) (kvs more : List (Key × V)), x = .ref a ∧ vs = [.ref b] ∧ H a = some (.dK kvs) ∧ H b = some (.dK more) ∧ a ≠ b ∧ kvs.length + more.length ≤ sizeLine ∧ Q .non (upd H a (.dK (mergeK kvs more)))
section
variable {X : Cx}
theorem hits0 {A : Around} {s : Shared} {ks ls : List (Key × V)} {va vb : List (Key × Value)} (ra : KV ks va) (rb : KV ls vb) (h : ks = [] ∨ ls = []) (e : va.length = vb.length) : PySem.W.KeqHits A s vb va true := by
  have : va = [] := by
    rcases h with rfl | rfl
    · cases ra; rfl
    · cases rb
      match va, e with
      | [], _ => rfl
  subst this
  exact .nil
theorem op_eq_dict0 (hu : X.A.units < cLine) : OpR X (compareOp .Eq) (rEq0 fun b => b) := by
  intro pins s σ H x y v u Q I rx ry h
  obtain ⟨a, b, ks, ls, rfl, rfl, ea, eb, h0, q⟩ := h
  obtain rfl : v = Value.ref a := rx
  obtain rfl : u = Value.ref b := ry
  obtain ⟨_, ya, va, ra, da⟩ := (show ObjOk X.prog X.w H s.heap a (.dK ks) from I.hok a _ ea)
  obtain ⟨_, yb, vb, rb, db⟩ := (show ObjOk X.prog X.w H s.heap b (.dK ls) from I.hok b _ eb)
  refine PySem.W.keq_eq (knd := mixKind X.prog X.w) (r := true) ya yb da db hu (hits0 ra rb h0) (fin_bl I q ?_)
  rw [← ra.length, ← rb.length, Bool.and_true]
theorem op_ne_dict0 (hu : X.A.units < cLine) : OpR X (compareOp .NotEq) (rEq0 fun b => !b) := by
  intro pins s σ H x y v u Q I rx ry h
  obtain ⟨a, b, ks, ls, rfl, rfl, ea, eb, h0, q⟩ := h
  obtain rfl : v = Value.ref a := rx
  obtain rfl : u = Value.ref b := ry
  obtain ⟨_, ya, va, ra, da⟩ := (show ObjOk X.prog X.w H s.heap a (.dK ks) from I.hok a _ ea)
  obtain ⟨_, yb, vb, rb, db⟩ := (show ObjOk X.prog X.w H s.heap b (.dK ls) from I.hok b _ eb)
  refine PySem.W.keq_ne (knd := mixKind X.prog X.w) (r := true) ya yb da db hu (hits0 ra rb h0) (fin_bl I q ?_)
  rw [← ra.length, ← rb.length, Bool.and_true]
theorem mt_updateD : MtR X "dict.update" rUpdD := by
  intro pins s σ H x vs v us Q I rx rv h
  obtain ⟨a, b, kvs, more, rfl, rfl, ea, eb, ne, hz, q⟩ := h
  obtain rfl : v = Value.ref a := rx
  obtain ⟨u, rfl, ru⟩ := vals1 rv
  obtain rfl : u = Value.ref b := ru
  obtain ⟨z, hd, va, ra, da⟩ := dk_of I.hok ea
  obtain ⟨_, hb, vb, rb, db⟩ := dk_of I.hok eb
  refine call_meetsIn PySem.F.slot_dict_update da.typeIs PySem.F.entry_dict_update (PySem.F.args_dict_update_2 _ _) (meets_dict_update (mixKind X.prog X.w) a b ne hb) ⟨va, vb, da, db, by rw [← ra.length, ← rb.length]; exact hz, fun h' hmm _ hs => ?_⟩
  have he : ∃ q, h'.get? a = some q := let ⟨q, _, _, hq, _⟩ := hmm; ⟨q, hq⟩
  have hl := length_mergeK more kvs
  exact ⟨.non, _, d_write (t' := s.toks) I (by rw [ea]; exact True.intro) hs he (dk_new (by omega) hd (rb.merge ra) hmm), rfl, q⟩
end
/-! ### the data -/
def putE (es : List (Int × D)) (i : Int) (d : D) : List (Int × D) := if (es.any fun p => decide (p.1 = i)) = true then es.map (fun p => if p.1 = i then (p.1, d) else p) else es ++ [(i, d)]
def valE (es : List (Int × D)) (i : Int) : Option D := (es.find? fun p => decide (p.1 = i)).map (·.2)
def mergeE (es more : List (Int × D)) : List (Int × D) := more.foldl (fun acc p => putE acc p.1 p.2) es
/-- what a dict's value may be -/
def isDV (d : D) : Prop := (∃ b, d = .bool b) ∨ (∃ i, d = .int i) ∨ ∃ ns : List Int, d = .list (ns.map .int)
section
variable {K : Fg} {ω : Om} {H : Hp}
theorem DVal.rp {v : V} {d : D} (h : DVal ω H v d) : Rp K ω H v d := by
  cases h with
  | bl b => exact .bl b
  | int i => exact .int i
  | il h => exact .lst h (RpAll.ints _)
theorem Rp.dval {v : V} {d : D} (h : Rp K ω H v d) (hd : isDV d) : DVal ω H v d := by
  rcases hd with ⟨b, rfl⟩ | ⟨i, rfl⟩ | ⟨ns, rfl⟩
  · cases h; exact .bl b
  · cases h; exact .int i
  · cases h with
    | lst hs ha => rw [RpAll.of_ints ns ha] at hs; exact .il hs
theorem DPs.length : ∀ {kvs : List (Key × V)} {es : List (Int × D)}, DPs ω H kvs es → kvs.length = es.length
  | _, _, .nil => rfl
  | _, _, .cons _ t => congrArg (· + 1) t.length
theorem DPs.keys : ∀ {kvs : List (Key × V)} {es : List (Int × D)}, DPs ω H kvs es → (kvs.map fun kv => kV kv.1) = (es.map (·.1)).map V.int
  | _, _, .nil => rfl
  | _, _, .cons _ t => congrArg (_ :: ·) t.keys
theorem DPs.any (i : Int) : ∀ {kvs : List (Key × V)} {es : List (Int × D)}, DPs ω H kvs es → (kvs.any fun kv => decide (kv.1 = .inl i)) = es.any fun p => decide (p.1 = i)
  | _, _, .nil => rfl
  | _, _, .cons (i := j) _ t => by
    rw [List.any_cons, List.any_cons, DPs.any i t]
    congr 1
    by_cases h : j = i
    · rw [decide_eq_true h, decide_eq_true (by rw [h])]
    · rw [decide_eq_false h, decide_eq_false (fun z => h (Sum.inl.inj z))]
theorem DPs.append : ∀ {kvs kws : List (Key × V)} {es fs : List (Int × D)}, DPs ω H kvs es → DPs ω H kws fs → DPs ω H (kvs ++ kws) (es ++ fs)
  | _, _, _, _, .nil, s => s
  | _, _, _, _, .cons h t, s => .cons h (t.append s)
theorem DPs.over {v : V} {d : D} (i : Int) (hv : DVal ω H v d) : ∀ {kvs : List (Key × V)} {es : List (Int × D)}, DPs ω H kvs es → DPs ω H (kvs.map fun kv => if kv.1 = .inl i then (kv.1, v) else kv) (es.map fun p => if p.1 = i then (p.1, d) else p)
  | _, _, .nil => .nil
  | _, _, .cons (i := j) h t => by
    rw [List.map_cons, List.map_cons]
    by_cases e : j = i
    · subst e
      rw [if_pos rfl, if_pos rfl]
      exact .cons hv (DPs.over _ hv t)
    · rw [if_neg e, if_neg (fun z => e (Sum.inl.inj z))]
      exact .cons h (DPs.over _ hv t)
theorem DPs.put {v : V} {d : D} {i : Int} (hv : DVal ω H v d) {kvs : List (Key × V)} {es : List (Int × D)} (h : DPs ω H kvs es) : DPs ω H (putK kvs (.inl i) v) (putE es i d) := by
  unfold putK putE
  rw [h.any i]
  by_cases e : (es.any fun p => decide (p.1 = i)) = true
  · rw [if_pos e, if_pos e]; exact h.over i hv
  · rw [if_neg e, if_neg e]; exact h.append (.cons hv .nil)
theorem DPs.merge : ∀ {more : List (Key × V)} {fs : List (Int × D)} {kvs : List (Key × V)} {es : List (Int × D)}, DPs ω H more fs → DPs ω H kvs es → DPs ω H (mergeK kvs more) (mergeE es fs)
  | _, _, _, _, .nil, s => s
  | _, _, _, _, .cons (i := j) h t, s => by
    have := DPs.merge t (DPs.put (i := j) h s)
    exact this
theorem DPs.get {i : Int} {d : D} : ∀ {kvs : List (Key × V)} {es : List (Int × D)}, DPs ω H kvs es → valE es i = some d → ∃ v, valV kvs (.inl i) = some v ∧ DVal ω H v d
  | _, _, .nil, e => by cases e
  | _, _, .cons (i := j) (v := v0) (d := d0) h t, e => by
    unfold valE at e
    unfold valV
    rw [List.find?_cons] at e ⊢
    by_cases z : j = i
    · rw [decide_eq_true z] at e
      rw [decide_eq_true (show (Sum.inl j : Key) = .inl i by rw [z])]
      have e : some d0 = some d := e
      cases e
      exact ⟨v0, rfl, h⟩
    · rw [decide_eq_false z] at e
      rw [decide_eq_false (fun y : (Sum.inl j : Key) = .inl i => z (Sum.inl.inj y))]
      exact DPs.get t e
theorem dctD_inj : ∀ {es fs : List (Int × D)}, dctD es = dctD fs → es = fs := by
  intro es fs h
  have h2 := (List.cons.inj (PyData.dict.inj h)).2
  have inj : ∀ (as bs : List (Int × D)), (as.map fun p => (PyData.int p.1, p.2)) = (bs.map fun p => (PyData.int p.1, p.2)) → as = bs := by
    intro as
    induction as with
    | nil => intro bs q; cases bs with
      | nil => rfl
      | cons _ _ => cases q
    | cons a as ih => intro bs q; cases bs with
      | nil => cases q
      | cons b bs =>
        rw [List.map_cons, List.map_cons] at q
        have q1 := Prod.mk.inj (List.cons.inj q).1
        have q3 : a = b := Prod.ext (PyData.int.inj q1.1) q1.2
        rw [q3, ih bs (List.cons.inj q).2]
  exact inj _ _ h2
theorem Rp.dct_ {v : V} {es : List (Int × D)} (h : Rp K ω H v (dctD es)) : ∃ a kvs, v = .ref a ∧ H a = some (.dK kvs) ∧ DPs ω H kvs es ∧ ω a = .shr := by
  generalize e : dctD es = d at h
  cases h with
  | dct h1 h2 h3 => cases dctD_inj e; exact ⟨_, _, rfl, h1, h3, h2⟩
  | scr hs =>
    have e2 := congrArg isScr (PyData.dict.inj e)
    rw [isScr_map] at e2
    cases e2
  | _ => cases e
theorem OwR.dct_ {k : Nat} {o : List Nat → Ow} {p : List Nat} {v : V} {es : List (Int × D)} (h : OwR K ω H k o p v (dctD es)) : ∃ a kvs, v = .ref a ∧ H a = some (.dK kvs) ∧ DPs ω H kvs es ∧ (0 < k → ω a = o p) := by
  cases k with
  | zero =>
    obtain ⟨a, kvs, h1, h2, h3, _⟩ := Rp.dct_ (K := K) h
    exact ⟨a, kvs, h1, h2, h3, fun z => by cases z⟩
  | succ k =>
    rcases h with ⟨i, _⟩ | ⟨_, _, _, _, e2, _⟩ | ⟨a, kvs, es', e1, e2, h1, h2, h3⟩
    · cases i
    · cases e2
    · cases dctD_inj e2
      exact ⟨a, kvs, e1, h1, h3, fun _ => h2⟩
theorem Vw.dct {v : V} {r : Res} (h : Vw K ω H v r) {es : List (Int × D)} (e : r.d = dctD es) : ∃ a kvs, v = .ref a ∧ H a = some (.dK kvs) ∧ DPs ω H kvs es := by
  cases r with
  | v k d =>
    have e' : d = dctD es := e
    have h' : Rp K ω H v d := h
    rw [e'] at h'
    obtain ⟨a, kvs, h1, h2, h3, _⟩ := h'.dct_
    exact ⟨a, kvs, h1, h2, h3⟩
  | b j k d =>
    have e' : d = dctD es := e
    have h' : OwR K ω H k (Ow.own j) [] v d := h
    rw [e'] at h'
    obtain ⟨a, kvs, h1, h2, h3, _⟩ := h'.dct_
    exact ⟨a, kvs, h1, h2, h3⟩
end
/-! ### {} -/
def fDNew : FE := fun env R => R (.v 1 (dctD [])) env
section
variable {X : Cx} {pos : Pos}
theorem se_dnew : SE X (.Dict [] [] pos) fDNew := ⟨_, pe_dnewK, fun ω T env σ H R Q rel fr hR q p hp =>
  q (.ref p) (upd H p (.dK [])) (putO p (.tmp T []) ω) env (.v 1 (dctD [])) (rel.grow (put_grow hp)) (put_grow hp).step (put_free fr) (.inr (.inr ⟨p, [], [], rfl, rfl, upd_same, putO_same, .nil⟩)) hR⟩
end
/-! ### list(d), d == {}, d[k] -/
def oListD : O1 := fun r R => ∃ es, r.d = dctD es ∧ R 1 (.list ((es.map (·.1)).map .int))
def oEqD0 (p : Bool → Bool) : O2 := fun r1 r2 R => ∃ es fs, r1.d = dctD es ∧ r2.d = dctD fs ∧ (es = [] ∨ fs = []) ∧ R 0 (.bool (p (es.length == fs.length)))
def oIxD : O2 := fun r1 r2 R => ∃ es i d, r1.d = dctD es ∧ r2.d = .int i ∧ valE es i = some d ∧ R 0 d
def rListD : V → Hp → VK → Prop := fun x H Q => ∃ a kvs, x = .ref a ∧ H a = some (.dK kvs) ∧ ∀ p, H p = none → Q (.ref p) (upd H p (.lst (kvs.map fun kv => kV kv.1)))
def rIxD0 : R2 := fun x y H Q => ∃ a v, x = .ref a ∧ DGet H a y (some v) ∧ Q v H
section
variable {X : Cx} {K : Fg} {a b e : Expr} {fa fb : FE} {fA : FA} {p pos : Pos}
theorem so_listD : SndO1 K rListD oListD := by
  intro ω T H x r1 R Q fr v1 h q
  obtain ⟨es, e, hR⟩ := h
  obtain ⟨a, kvs, rfl, hH, hp⟩ := v1.dct e
  exact ⟨a, kvs, rfl, hH, fun p hp' => q.lst fr hp' (by rw [hp.keys]; exact RpAll.ints _) hR⟩
theorem se_listD (hc : X.calm = true) (hm : X.mg "list" = none) (ha : SA X [e] fA) (hg : Gl X "list" := by rfl)
    (he : starEach [e] X.env = [(false, eval e X.env)] := by rfl) : SE X (.Call (.Name "list" p) [e] [] pos) (fOpN (at1 oListD) fA) :=
  se_callTy (cimp (call_listD hc) fun xs H Q ⟨x, e, a, kvs, h1, h2, h3⟩ => ⟨a, kvs, by rw [e, h1], .inl h2, h3⟩) (so_at1 so_listD) (by decide +kernel) hm ha hg (by decide) (by decide) he rfl
theorem empty_iff {ω : Om} {H : Hp} {kvs : List (Key × V)} {es : List (Int × D)} (h : DPs ω H kvs es) (e : es = []) : kvs = [] := by subst e; cases h; rfl
theorem so_eqD0 {pp : Bool → Bool} : SndO2 K (rEq0 pp) (oEqD0 pp) := by
  intro ω T H x y r1 r2 R Q fr v1 v2 h q
  obtain ⟨es, fs, e1, e2, h0, hR⟩ := h
  obtain ⟨a, ks, rfl, hH, hp⟩ := v1.dct e1
  obtain ⟨b, ls, rfl, hH2, hp2⟩ := v2.dct e2
  refine ⟨a, b, ks, ls, rfl, rfl, hH, hH2, h0.imp (empty_iff hp) (empty_iff hp2), q.bl fr ?_⟩
  rw [hp.length, hp2.length]; exact hR
theorem se_eqD {k : Nat} (hr : Room k X.A) (ha : SE X a fa) (hb : SE X b fb) (hm : behindInMarks .Eq b = false := by first | exact nobehind _ (by decide) (by decide) | rfl) : SE X (.Compare a [.Eq] [b] pos) (fOp2 (oEqD0 fun b => b) fa fb) := se_cmp (op_eq_dict0 (by have := hu64 hr; omega)) so_eqD0 ha hb hm
theorem se_neD {k : Nat} (hr : Room k X.A) (ha : SE X a fa) (hb : SE X b fb) (hm : behindInMarks .NotEq b = false := by first | exact nobehind _ (by decide) (by decide) | rfl) : SE X (.Compare a [.NotEq] [b] pos) (fOp2 (oEqD0 fun b => !b) fa fb) := se_cmp (op_ne_dict0 (by have := hu64 hr; omega)) so_eqD0 ha hb hm
theorem so_ixD : SndO2 K rIxD0 oIxD := by
  intro ω T H x y r1 r2 R Q fr v1 v2 h q
  obtain ⟨es, i, d, e1, e2, hv, hR⟩ := h
  obtain ⟨a, ks, rfl, hH, hp⟩ := v1.dct e1
  obtain ⟨v, hv1, hv2⟩ := hp.get hv
  exact ⟨a, v, rfl, .inl ⟨ks, .inl i, .inl hH, v2.int e2, hv1.symm⟩, q.same fr hv2.rp hR⟩
theorem se_ixD {k : Nat} (hr : Room k X.A) (ha : SE X a fa) (hb : SE X b fb) (hs : NoSl b := by exact fun _ _ => rfl) : SE X (.Subscript a b pos) (fOp2 oIxD fa fb) := by
  obtain ⟨t, p, s⟩ := ha.ex
  obtain ⟨u, p', s'⟩ := hb.ex
  exact ⟨_, pe_dget (by have := hu64 hr; omega) p p' hs, snd_op2 (r := rIxD0) so_ixD s s'⟩
end
/-! ### a slot's own dict -/
@[irreducible] def onOwnD (c : Option Cell) (P : List (Int × D) → Prop) : Prop := ∃ es, c = some (ow (dctD es)) ∧ P es
theorem ev_onD {es : List (Int × D)} {P : List (Int × D) → Prop} (h : P es) : onOwnD (some (ow (dctD es))) P := by unfold onOwnD; exact ⟨es, rfl, h⟩
theorem onOwnD_ex {c : Option Cell} {P : List (Int × D) → Prop} (h : onOwnD c P) : ∃ es, c = some (ow (dctD es)) ∧ P es := by unfold onOwnD at h; exact h
section
variable {K : Fg} {ω : Om} {env : Env} {σ : Sg} {H : Hp}
theorem Rel.ownD (rel : Rel K ω env σ H) {i : Nat} {es : List (Int × D)} (h : getC env i = some (ow (dctD es))) : ∃ a kvs, σ[i]? = some (some (.ref a)) ∧ H a = some (.dK kvs) ∧ ω a = .own i [] ∧ DPs ω H kvs es := by
  obtain ⟨v, hv, ho⟩ := rel.cell i _ (getC_some h)
  obtain ⟨a, kvs, e, h1, h2, h3⟩ := OwR.dct_ (K := K) ho
  subst e
  exact ⟨a, kvs, hv, h1, h3 Nat.one_pos, h2⟩
theorem Rel.wrD (rel : Rel K ω env σ H) {i : Nat} {a : Addr} {kvs : List (Key × V)} {es : List (Int × D)} (hσ : σ[i]? = some (some (.ref a))) (hi : i < env.length) (ho : ω a = .own i []) (h : DPs ω H kvs es) :
    Rel K ω (env.set i (some (ow (dctD es)))) σ (upd H a (.dK kvs)) ∧ Step ω H ω (upd H a (.dK kvs)) := by
  have hs : Sh ω H ω (upd H a (.dK kvs)) := sh_upd (by rw [ho]; exact fun z => by cases z)
  refine ⟨⟨by rw [List.length_set]; exact rel.len, fun j c e => ?_⟩, fun b o hb => ?_⟩
  · by_cases hj : i = j
    · subst hj
      rw [List.getElem?_set_self hi] at e
      cases e
      exact ⟨_, hσ, .inr (.inr ⟨a, kvs, es, rfl, rfl, upd_same, ho, h.sh hs⟩)⟩
    · rw [List.getElem?_set_ne hj] at e
      obtain ⟨v', hv', ho'⟩ := rel.cell j c e
      refine ⟨v', hv', OwR.go hs (fun b u p z1 z2 => ⟨?_, z2⟩) _ _ _ _ ho'⟩
      have ne : b ≠ a := fun z => by subst z; rw [ho] at z2; cases z2; exact hj rfl
      rw [upd_ne ne]; exact z1
  · by_cases e : b = a
    · subst e; exact .inl ⟨i, [], ho⟩
    · exact .inr ⟨by rw [upd_ne e]; exact hb, rfl⟩
end
/-- x[k] = v -/
def fSetIxD (i : Nat) (fa fj : FE) : FS := fun env k => fa env fun r e1 => noB [r] ∧ onOwnD (getC e1 i) fun _ => fj e1 fun rj e2 => onOwnD (getC e2 i) fun es => atInt (fun j => (isDV r.d ∧ es.length < sizeLine) ∧ k.nx (e2.set i (some (ow (dctD (putE es j r.d)))))) rj.d
section
variable {K : Fg} {io : Nat → Bool}
theorem snd_setIxD {i : Nat} {ta tj : TE} {fa fj : FE} (ha : SndE K ta fa) (hj : SndE K tj fj) : SndS K io (sDPut (tVar i) tj ta) (fSetIxD i fa fj) := by
  intro ω env σ H E k rel fr hf kr
  refine ha ω 0 env σ H _ _ rel fr hf fun y H1 ω1 e1 r rel1 st1 fr1 rr1 h1 => ?_
  obtain ⟨nb, h1⟩ := h1
  obtain ⟨es0, e0, h1⟩ := onOwnD_ex h1
  obtain ⟨a0, kvs0, hσ, hH, _, _⟩ := rel1.ownD e0
  refine ⟨.ref a0, hσ, ?_⟩
  refine hj ω1 1 e1 σ H1 _ _ rel1 fr1 h1 fun jv H2 ω2 e2 rj rel2 st2 fr2 rr2 h2 => ?_
  obtain ⟨es, e3, h3⟩ := onOwnD_ex h2
  obtain ⟨j, ej, ⟨hdv, hl⟩, hk⟩ := atInt_ex h3
  obtain ⟨a1, kvs, hσ1, hH2, ho2, hp2⟩ := rel2.ownD e3
  have ea : a0 = a1 := by
    rw [hσ] at hσ1
    exact V.ref.inj (Option.some.inj (Option.some.inj hσ1))
  subst ea
  have il : i < e2.length := (List.getElem?_eq_some_iff.mp (getC_some e3)).1
  have hog : gc 0 ω2 a0 = .own i [] := by show gcO 0 (ω2 a0) = _; rw [ho2]; rfl
  have rp : Rp K (gc 0 ω2) H2 y r.d := by
    cases r with
    | b _ _ _ => exact nb.elim
    | v kk dd => exact ResR.gc (env := e2) (r := .v kk dd) (ResR.step (T' := 0) rr1 st2) rel2 (Nat.zero_le _)
  have hpg : DPs (gc 0 ω2) H2 (putK kvs (.inl j) y) (putE es j r.d) := (hp2.sh gc_sh).put (rp.dval hdv)
  obtain ⟨rel3, st3⟩ := (rel2.gc 0).wrD hσ1 il hog hpg
  have ej2 := rr2.int_ rel2 ej
  refine ⟨a0, _, rfl, .inl ⟨kvs, .inl j, hH2, ej2, by rw [hp2.length]; exact hl, rfl⟩, ?_⟩
  exact kr.nx σ _ (gc 0 ω2) _ rel3 (((st1.trans st2).gc fr).trans st3) gc_free Keep.refl hk
end
section
variable {X : Cx} {io : Nat → Bool} {e j : Expr} {fa fj : FE} {x : Str} {p pos' pos : Pos}
theorem ss_setIxD {k : Nat} (i : Nat) (hr : Room k X.A) (ha : SE X e fa) (hj : SE X j fj) (hN : X.N[i]? = some x := by rfl) (hv : Vis X.env.scope x := by first | exact Or.inl rfl | exact Or.inr (Or.inl rfl) | exact Or.inr (Or.inr rfl)) (hd : (x == ("__debug__" : Str)) = false := by decide) (hcd : (x == ("__classdict__" : Str)) = false := by decide)
    (hs : swapsWith e (some (.Subscript (.Name x p) j pos')) pos.line X.env = pure false := by rfl) : SSt X io (.Assign [.Subscript (.Name x p) j pos'] e pos) (fSetIxD i fa fj) := by
  obtain ⟨t, q, s⟩ := ha.ex
  obtain ⟨u, q', s'⟩ := hj.ex
  exact ⟨_, ps_dput (by have := hu64 hr; omega) (pe_var hN hv hd hcd) q' q hs, snd_setIxD s s'⟩
end
/-- x.update(d) -/
@[irreducible] def at1D (P : List (Int × D) → Prop) : List Res → Prop
  | [r] => noB [r] ∧ ∃ fs, r.d = dctD fs ∧ P fs
  | _ => False
theorem ev_at1D {k : Nat} {fs : List (Int × D)} {P : List (Int × D) → Prop} (h : P fs) : at1D P [.v k (dctD fs)] := by unfold at1D; exact ⟨trivial, fs, rfl, h⟩
def fUpdD (i : Nat) (fa : FA) : FE := fun env R => onOwnD (getC env i) fun _ => fa env fun rs e => at1D (fun fs => onOwnD (getC e i) fun es => es.length + fs.length ≤ sizeLine ∧ R (.v 0 .none) (e.set i (some (ow (dctD (mergeE es fs)))))) rs
section
variable {K : Fg}
theorem snd_updD {i : Nat} {t : TA} {fa : FA} (ha : SndA K t fa) : SndE K (tBM K "dict" rUpdD (tVar i) t) (fUpdD i fa) := by
  intro ω T env σ H R Q rel fr hR q
  obtain ⟨es0, e0, hR⟩ := onOwnD_ex hR
  obtain ⟨a0, kvs0, hσ, hH, _, _⟩ := rel.ownD e0
  refine ⟨.ref a0, hσ, ?_, ?_⟩
  · exact .inr (.inr (.inl ⟨rfl, .inl ⟨_, hH⟩⟩))
  · refine ha ω T env σ H _ _ rel fr hR fun xs H1 ω1 e1 rs rel1 st1 fr1 rr1 h1 => ?_
    unfold at1D at h1
    match rs, h1, xs, rr1 with
    | [r], ⟨nb, fs, er, h1⟩, [x], ⟨rr, _⟩ =>
      obtain ⟨es, e2, hz, h2⟩ := onOwnD_ex h1
      obtain ⟨a, kvs, hσ1, hH1, ho1, hp1⟩ := rel1.ownD e2
      have ea : a0 = a := by
        rw [hσ] at hσ1
        exact V.ref.inj (Option.some.inj (Option.some.inj hσ1))
      subst ea
      have il : i < e1.length := (List.getElem?_eq_some_iff.mp (getC_some e2)).1
      have ho2 : gc T ω1 a0 = .own i [] := by show gcO T (ω1 a0) = _; rw [ho1]; rfl
      cases r with
      | b _ _ _ => exact nb.elim
      | v kk dd =>
        have rp : Rp K (gc T ω1) H1 x dd := ResR.gc (env := e1) (r := .v kk dd) rr rel1 (Nat.le_refl _)
        have er : dd = dctD fs := er
        rw [er] at rp
        obtain ⟨b, more, rfl, hHb, hpb, hsb⟩ := rp.dct_
        have ne : a0 ≠ b := by
          rintro rfl
          rw [ho2] at hsb
          cases hsb
        obtain ⟨rel2, st2⟩ := (rel1.gc T).wrD hσ1 il ho2 (hpb.merge (hp1.sh gc_sh))
        refine ⟨a0, b, kvs, more, rfl, rfl, hH1, hHb, ne, by rw [hp1.length, hpb.length]; exact hz, ?_⟩
        exact q .non _ (gc T ω1) _ (.v 0 .none) rel2 ((st1.gc fr).trans st2) gc_free.up .non h2
end
section
variable {X : Cx} {e : Expr} {fa : FA} {x : Str} {p apos cpos : Pos}
theorem se_updD (i : Nat) (ha : SA X [e] fa) (hN : X.N[i]? = some x := by rfl) (hv : Vis X.env.scope x := by first | exact Or.inl rfl | exact Or.inr (Or.inl rfl) | exact Or.inr (Or.inr rfl)) (hbase : attributeBase (.Name x p) "update" X.env (eval (.Name x p) X.env) = eval (.Name x p) X.env := by rfl)
    (hfew : ((backTo cpos (starEach [e] X.env)).all (fun x => !x.1) && (backToKw cpos (keywordEach [] X.env)).all (fun x => x.1.isSome) && decide ([e].length + ([] : List Keyword).length + (if ([] : List Keyword).isEmpty then 0 else 1) < 30)) = true := by rfl)
    (hline : (apos.endLine == cpos.line) = true := by rfl) (hs : starEach [e] X.env = (false, eval e X.env) :: starEach [] X.env := by rfl) (hd : (x == ("__debug__" : Str)) = false := by decide) (hcd : (x == ("__classdict__" : Str)) = false := by decide) :
    SE X (.Call (.Attribute (.Name x p) "update" apos) [e] [] cpos) (fUpdD i fa) := by
  obtain ⟨t, q, s⟩ := ha.ex
  exact ⟨_, pe_bm PySem.F.plainAttrs_dict PySem.F.slot_dict_update PySem.F.type_dict_update mt_updateD (pe_var hN hv hd hcd) q hbase hfew hline hs rfl, snd_updD s⟩
end
/-! ### {e: True for ..} -/
def trueE (ns : List Int) : List (Int × D) := ns.foldl (fun es i => putE es i (.bool true)) []
def fInt (fe : FE) : FE := fun env R => fe env fun r e => dI (fun i => R (.v 0 (.int i)) e) r.d
@[irreducible] def onInts (P : List Int → Prop) (d : D) : Prop := ∃ ns : List Int, d = .list (ns.map .int) ∧ P ns
theorem ev_onInts {ns : List Int} {P : List Int → Prop} (h : P ns) : onInts P (.list (ns.map .int)) := by unfold onInts; exact ⟨ns, rfl, h⟩
theorem onInts_ex {P : List Int → Prop} {d : D} (h : onInts P d) : ∃ ns : List Int, d = .list (ns.map .int) ∧ P ns := by unfold onInts at h; exact h
def fDc (own : List Nat) (fi : FI) (g : FG) (ft : FT) (fk : FE) : FE := fun env R => fLc own fi g ft (fInt fk) env fun r e => onInts (fun ns => R (.v 1 (dctD (trueE ns))) e) r.d
theorem putE_len (es : List (Int × D)) (i : Int) (d : D) : (putE es i d).length ≤ es.length + 1 := by
  unfold putE
  split
  · rw [List.length_map]; omega
  · rw [List.length_append]; exact Nat.le_refl _
theorem trueE_snoc (ns : List Int) (i : Int) : trueE (ns ++ [i]) = putE (trueE ns) i (.bool true) := by unfold trueE; rw [List.foldl_append]; rfl
theorem trueE_len : ∀ (ns : List Int), (trueE ns).length ≤ ns.length := by
  have : ∀ (ns : List Int) (es : List (Int × D)), (ns.foldl (fun es i => putE es i (.bool true)) es).length ≤ es.length + ns.length := by
    intro ns
    induction ns with
    | nil => intro es; exact Nat.le_refl _
    | cons n ns ih =>
      intro es
      have h1 := ih (putE es n (.bool true))
      have h2 := putE_len es n (.bool true)
      show (ns.foldl _ (putE es n (.bool true))).length ≤ _
      rw [List.length_cons]; omega
  intro ns
  have h := this ns []
  rw [List.length_nil, Nat.zero_add] at h
  exact h
theorem ints_inj : ∀ {as bs : List Int}, as.map PyData.int = bs.map PyData.int → as = bs
  | [], [], _ => rfl
  | [], _ :: _, h => by cases h
  | _ :: _, [], h => by cases h
  | a :: as, b :: bs, h => by
    have h1 := List.cons.inj h
    rw [PyData.int.inj h1.1, ints_inj h1.2]
section
variable {K : Fg}
theorem snd_dc {wi : TI} {fi : FI} {g : FG} {ft : FT} {fk : FE} {own : List Nat} (hi : SndI K wi fi) : SndE K (tDc wi (tOfG K (fun j => !own.contains j) g) (tOfT K ft) (tOfE K fk) (tC (.bl true)) own) (fDc own fi g ft fk) := by
  intro ω T env σ H R Q rel fr hR q
  refine hi ω T env σ H _ _ rel fr hR fun J H1 ω1 e1 r items rel1 st1 fr1 it ok1 h1 => ?_
  obtain ⟨haw, h1⟩ := h1
  have h1 := apL_cl h1
  intro D hD
  have sameR : ∀ σ1 : Sg, (∀ i, i ∉ own → σ1[i]? = σ[i]?) → sameAt r σ σ1 := fun σ1 hs => by
    cases r with
    | v _ _ => trivial
    | b i _ _ =>
      refine hs i fun z => ?_
      have haw' : (!own.contains i) = true := haw
      rw [List.contains_iff_mem.mpr z] at haw'
      cases haw'
  have g0 : Grow ω1 H1 (putO D (.tmp T []) ω1) (upd H1 D (.dK [])) := put_grow hD
  let R1 : List PyData → Env → Prop := fun acc e2 => onInts (fun ns => R (.v 1 (dctD (trueE ns))) (Pv.back e1 e2 own)) (.list acc)
  refine ⟨fun i m H' => m = items.length - i ∧ i ≤ items.length ∧ ∃ (ω' : Om) (env' : Env) (acc : List (Key × V)) (ms : List Int), Rel K ω' env' (L2.wipe σ own) H' ∧ Step ω1 H1 ω' H' ∧ Free ω' (T + 1) ∧ H' D = some (.dK acc) ∧ ω' D = .tmp T [] ∧ DPs ω' H' acc (trueE ms) ∧
      lcGo own g ft (fInt fk) r R1 (items.drop i) (ms.map .int) env',
    ⟨items.length, by simp, Nat.zero_le _, putO D (.tmp T []) ω1, wipeE e1 own, [], [], (rel1.grow g0).wipe own, g0.step, put_free fr1, upd_same, putO_same, .nil, h1⟩, ?_⟩
  rintro i m H2 ⟨rfl, hil, ω2, e2, acc, ms, rel2, st2, fr2, hD2, oD2, rp2, h2⟩
  by_cases hlt : i < items.length
  · have ed : items.drop i = items[i] :: items.drop (i + 1) := List.drop_eq_getElem_cons hlt
    rw [ed] at h2
    obtain ⟨okr, h2⟩ := h2
    obtain ⟨go, _⟩ := it ω2 H2 e2 (L2.wipe σ own) rel2 st2.sh okr (sameR _ fun i hi => wipe_get hi) i
    obtain ⟨g1, g2⟩ := go _ (List.getElem?_eq_getElem hlt)
    refine .inr ⟨g1, fun H' => ∃ (ω' : Om) (env' : Env) (acc : List (Key × V)) (ms : List Int), Rel K ω' env' (L2.wipe σ own) H' ∧ Step ω1 H1 ω' H' ∧ Free ω' (T + 1) ∧ H' D = some (.dK acc) ∧ ω' D = .tmp T [] ∧ DPs ω' H' acc (trueE ms) ∧
      lcGo own g ft (fInt fk) r R1 (items.drop (i + 1)) (ms.map .int) env', fun H' h => ⟨items.length - (i + 1), by omega, rfl, hlt, h⟩, fun x H3 y => ?_⟩
    obtain ⟨ω3, gr, fr3, rpx⟩ := g2 x H3 y
    obtain ⟨e3, he, h3⟩ := toEnv_ex h2
    have D3 : H3 D = some (.dK acc) ∧ ω3 D = .tmp T [] := by
      obtain ⟨a, b⟩ := gr D _ hD2
      exact ⟨a, b.trans oD2⟩
    refine ⟨_, ω3, e2, e3, rel2.grow gr, rpx, he, fun σ4 rel4 kp4 => ?_⟩
    have wp4 : L2.wipe σ4 own = L2.wipe σ own := by
      refine (wipe_eq (σ := L2.wipe σ own) kp4.1 fun j hj => ?_).trans wipe_wipe
      exact kp4.2 j (by
        show (!own.contains j) = true
        cases z : own.contains j with
        | false => rfl
        | true => exact absurd (List.contains_iff_mem.mp z) hj)
    refine ⟨wp4, ω3, T + 1, e3, _, rel4, fr3 _ fr2, h3, fun b H5 ω5 e5 rel5 st5 fr5 h5 => ?_⟩
    have D5 : H5 D = some (.dK acc) ∧ ω5 D = .tmp T [] := by
      rcases st5 D _ D3.1 with ⟨_, _, z⟩ | ⟨z1, z2⟩
      · rw [D3.2] at z; cases z
      · exact ⟨z1, z2.trans D3.2⟩
    cases b with
    | false =>
      show ∃ _, _
      exact ⟨ω5, wipeE e5 own, acc, ms, by rw [← wp4]; exact rel5.wipe own, (st2.grow gr).trans st5, fr5, D5.1, D5.2, (rp2.sh gr.step.sh).sh st5.sh, h5⟩
    | true =>
      show tOfE K fk σ4 H5 _
      refine ⟨ω5, T + 1, e5, _, rel5, fr5, h5, fun yv H6 ω6 e6 ry rel6 st6 fr6 rr6 h6 => ?_⟩
      obtain ⟨ki, ei, h6⟩ := dI_ex h6
      obtain ⟨_, hlen, h6⟩ := h6
      have ey := rr6.int_ rel6 ei
      subst ey
      have D6 : H6 D = some (.dK acc) ∧ ω6 D = .tmp T [] := by
        rcases st6 D _ D5.1 with ⟨_, _, z⟩ | ⟨z1, z2⟩
        · rw [D5.2] at z; cases z
        · exact ⟨z1, z2.trans D5.2⟩
      have rp6 : DPs ω6 H6 acc (trueE ms) := ((rp2.sh gr.step.sh).sh st5.sh).sh st6.sh
      have hl2 := trueE_len ms
      have hlen' : ms.length < sizeLine := by rw [List.length_map] at hlen; exact hlen
      refine ⟨acc, .inl ki, rfl, D6.1, by rw [rp6.length]; omega, ?_⟩
      have oD : gc (T + 1) ω6 D = .tmp T [] := by
        show gcO (T + 1) (ω6 D) = _
        rw [D6.2]
        show (if T + 1 ≤ T then Ow.shr else .tmp T []) = _
        rw [if_neg (by omega)]
      have shD : Sh (gc (T + 1) ω6) H6 (gc (T + 1) ω6) (upd H6 D (.dK (putK acc (.inl ki) (.bl true)))) := sh_upd (by rw [oD]; exact fun z => by cases z)
      refine ⟨gc (T + 1) ω6, wipeE e6 own, putK acc (.inl ki) (.bl true), ms ++ [ki], ?_, ?_, gc_free, upd_same, oD, ?_, ?_⟩
      · have rw6 : Rel K (gc (T + 1) ω6) (wipeE e6 own) (L2.wipe σ own) H6 := by rw [← wp4]; exact (rel6.gc (T + 1)).wipe own
        refine ⟨rw6.len, fun n c e => ?_⟩
        obtain ⟨v', hv, ho⟩ := rw6.cell n c e
        refine ⟨v', hv, OwR.go shD (fun a u p z1 z2 => ⟨?_, z2⟩) _ _ _ _ ho⟩
        have ne : a ≠ D := fun z => by subst z; rw [oD] at z2; cases z2
        rw [upd_ne ne]; exact z1
      · intro a o ha
        have st : Step ω1 H1 (gc (T + 1) ω6) H6 := (((st2.grow gr).trans st5).trans st6).gc (fun a t p e => Nat.lt_succ_of_lt (fr1 a t p e))
        rcases st a o ha with z | ⟨z1, z2⟩
        · exact .inl z
        · refine .inr ⟨?_, z2⟩
          rw [upd_ne (ne_of_none ha hD)]; exact z1
      · rw [trueE_snoc]
        exact DPs.sh shD (DPs.put (.bl true) (rp6.sh gc_sh))
      · rw [List.map_append]; exact h6
  · have ei : i = items.length := by omega
    subst ei
    rw [List.drop_length] at h2
    obtain ⟨_, stop⟩ := it ω2 H2 e2 (L2.wipe σ own) rel2 st2.sh h2.1 (sameR _ fun i hi => wipe_get hi) items.length
    refine .inl ⟨stop (Nat.le_refl _), ?_⟩
    obtain ⟨ns, en, h3⟩ := onInts_ex h2.2
    have en := ints_inj (PyData.list.inj en)
    subst en
    refine q (.ref D) H2 ω2 _ (.v 1 (dctD (trueE ms))) (Rel.back rel1 st2 rel2 fun i hi => hi) (st1.trans st2) fr2 ?_ h3
    exact .inr (.inr ⟨D, acc, trueE ms, rfl, rfl, hD2, oD2, rp2⟩)
end
section
variable {X : Cx} {elt tg iter : Expr} {ifs : List Expr} {scope : Scope} {own : List (Str × Nat)} {pos pb : Pos} {fi : FI} {g : FG} {ft : FT} {fe : FE}
theorem se_dc {j} (hc : X.calm = true) (hN : X.N.Nodup) (hi : SI X tg iter fi) (ok : BlkOk X.N X.env.scope scope own)
    (hg : ∀ (s : Shared) (H : Hp) (C : Addr) (cl : List (Str × Addr)) (fp : List Addr), SG (X.blk s H scope (compEnvC scope cl C X.env) fp) (fun j => !(own.map (·.2)).contains j) tg g)
    (ht : ∀ (s : Shared) (H : Hp) (C : Addr) (cl : List (Str × Addr)) (fp : List Addr), SFs (X.blk s H scope (compEnvC scope cl C X.env) fp) ifs ft)
    (he : ∀ (s : Shared) (H : Hp) (C : Addr) (cl : List (Str × Addr)) (fp : List Addr), SE (X.blk s H scope (compEnvC scope cl C X.env) fp) elt fe) (hs : ∀ x, foldedSetIterable iter X.env x = pure x := by intro _; rfl) :
    SE X (.DictComp elt (.Constant (.bool true) j pb) [⟨tg, iter, ifs, 0⟩] scope pos) (fDc (own.map (·.2)) fi g ft fe) := by
  obtain ⟨w, p, s⟩ := hi.ex
  exact ⟨_, pe_dc hc hN p ok (fun a b c d e => (hg a b c d e).pg) (fun a b c d e => (ht a b c d e).pt) (fun a b c d e => (he a b c d e).pe) (fun _ _ _ _ _ => pe_bl) hs, snd_dc s⟩
end
end Pv

/-! Pv21: sorted(set(x)), x a list of ints. -/
namespace PySem
open L2 PyProof.Rows
section
variable {P : Program} {w : World} {A : Around} {E : Value → Shared → Prop} {s : Shared}
/-- a new, empty set -/
def nset (w : World) : Obj := { cls := .type "set", dict := none, data := .set #[] 0 (.fresh 0 0 (!w.params.followText "set-order")) }
/-- what the filling of the new set leaves -/
def FilledS (w : World) (s : Shared) (ns : List Int) (r : Value) (s2 : Shared) : Prop :=
  r = .none ∧ ∃ h' tk c, s2 = { s with heap := h', toks := tk } ∧ SetR w h' s.heap.objs.size (fun j => decide (j ∈ ns)) c ∧ c ≤ ns.length ∧ ∀ b o, s.heap.get? b = some o → h'.get? b = some o
theorem call_set_lstI {l : Addr} {items : Array Value} (ns : List Int) {Q : Value → Shared → Prop} (hh : A.handled = none) (hl : s.heap.IsList l items) (hit : IntsAre items.toList ns) (hb : ns.length + 1 < scanBound)
    (h : ∀ (h' : Heap) (tk c : Nat), SetR w h' s.heap.objs.size (fun j => decide (j ∈ ns)) c → c ≤ ns.length → (∀ b o, s.heap.get? b = some o → h'.get? b = some o) → Q (.ref s.heap.objs.size) { s with heap := h', toks := tk }) :
    wpAny (model P w) A (call (.type "set") [.ref l]) Q E s := by
  have hisz : items.size = ns.length := by
    have q := IntsAre.length hit
    rw [Array.length_toList] at q
    exact q
  obtain ⟨c, tl, hmro⟩ := F.called_set.mro
  have hmade := F.called_set.made
  have hsub := F.called_set.sub
  refine wpAny_call (codeAny_of_tree ?_)
  show wpAny _ _ (callAny (.type "set") _) _ _ _
  refine wpAny_pure ⟨Code.quiet_builtin _ (by decide +kernel), codeAny_builtin F.entry_type_call ?_⟩
  rw [Around.under_plain (weight_type_call_type "set" [.ref l] []) rfl]
  have h1 := F.called_set.notType
  have h2 := F.called_set.canCreate
  have hct := F.typeCall_set_1 (.ref l)
  repeat (any_goals (first | assumption | wp_step))
  refine codeAny_mono (code_set_led1 (.ref l) (E := E) (Q₁ := fun obj s₁ => obj = .ref s.heap.objs.size ∧ s₁ = { s with heap := s.heap.push (nset w) }) ⟨rfl, rfl⟩) fun r s₁ hr => ?_
  match r, hr with
  | .error e, hr => exact hr
  | .ok (.ret obj), hr =>
    obtain ⟨rfl, rfl⟩ := hr
    have hS : (s.heap.push (nset w)).get? s.heap.objs.size = some (nset w) := Heap.get?_push_size _ rfl
    have hT : Shared.TypeIs { s with heap := s.heap.push (nset w) } (.ref s.heap.objs.size) "set" := ⟨_, hS, rfl⟩
    have hli := F.called_set.init.lookup
    have hbi := F.called_set.init.bind (.ref s.heap.objs.size)
    repeat (any_goals (first | assumption | wp_step))
    refine codeAny_mono (codeAny_call_builtin (R := wants (FilledS w s ns) E) F.called_set.init.plain F.entry_set_init (check_set_init_1 hT ?_)) fun r₂ s₂ hr₂ => ?_
    · obtain ⟨⟨ocls, odict, odata, oslots⟩, hol, hcl, nl, hdl⟩ := hl
      simp only at hcl hdl
      subst hcl; subst hdl
      have hol' : (s.heap.push (nset w)).get? l = some { cls := .type "list", dict := odict, data := .seq items nl, slots := oslots } := Heap.get?_push_of_some _ hol
      have hsls := F.sub_list_set
      have hslf := F.sub_list_frozenset
      have hne : (Value.type "list" == Value.type "dict") = false := by decide
      have hl1 : (s.heap.push (nset w)).IsList l items := ⟨_, hol', rfl, nl, rfl⟩
      unfold Builtin.«set.__init__» noKeywords Builtin.Frozenset.updateFrom
      generalize hPI : pyIter = PI
      wp_walk
      subst hPI
      refine wpAny_pyIter_list hl1 ?_
      refine wpAny_bind (wpAny_runValue ?_)
      have hlS : l < s.heap.objs.size := Heap.lt_size hol
      have hh3 : A.in1.in1.in1.handled = none := by simp [hh]
      have hz1 : (s.heap.push (nset w)).objs.size = s.heap.objs.size + 1 := Heap.size_push ..
      have hval : ∀ (i : Nat) (v : Value), items[i]? = some v → ∃ k t, ns[i]? = some k ∧ v = .int k t := fun i v hv => by
        have hi : i < ns.length := by rw [← hisz]; exact (Array.getElem?_eq_some_iff.mp hv).1
        obtain ⟨t, e⟩ := PyProof.Rows.IntsAre.int_at hit i v (by rw [Array.getElem?_toList]; exact hv)
        refine ⟨ns[i], t, List.getElem?_eq_getElem hi, ?_⟩
        rw [e, List.getD_eq_getElem?_getD, List.getElem?_eq_getElem hi] <;> rfl
      refine set_update_ints ((Walks.list hh3 _ l (by rw [hz1]; exact Nat.ne_of_lt (Nat.lt_succ_of_lt hlS)) items).toS) s.heap.objs.size
        (by rw [hz1]; simp only [List.mem_cons, List.mem_singleton, List.not_mem_nil, or_false, not_or]; exact ⟨Nat.ne_of_lt (Nat.lt_succ_self _), Nat.ne_of_gt hlS⟩) ns hisz hb hval (items.size - 0) 0 _ (by omega) (Nat.zero_le _)
        ⟨⟨_, Heap.get?_push_size _ rfl, rfl, rfl⟩, (hl1.push _)⟩ ⟨0, Nat.le_refl 0, setR_new_at (Heap.get?_push_of_some _ hS)⟩ fun s' c' hm hc' hS' => ?_
      obtain ⟨h', g2, d', tk', os'⟩ := s'
      obtain rfl : g2 = s.gens := hm.gens
      obtain rfl : d' = s.drawn := hm.drawn
      obtain rfl : os' = s.os := hm.os
      show wpAny _ _ _ _ _ _
      refine wpAny_pure ?_
      show wpAny _ _ (ret Value.none) _ _ _
      rw [hisz] at hc'
      refine wpAny_pure ⟨rfl, h', tk', c', rfl, hS', hc', fun b o e => ?_⟩
      have hb0 : b < s.heap.objs.size := Heap.lt_size e
      exact hm.heap b o (by rw [hz1]; simp only [List.mem_cons, List.mem_singleton, List.not_mem_nil, or_false, not_or]; exact ⟨Nat.ne_of_lt hb0, Nat.ne_of_lt (Nat.lt_succ_of_lt hb0)⟩) (Heap.get?_push_of_some _ (Heap.get?_push_of_some _ e))
    · match r₂, hr₂ with
      | .error e, hr₂ => exact hr₂
      | .ok (.ret r), hr₂ =>
        obtain ⟨rfl, h', tk, c', rfl, hS', hc', hk'⟩ := hr₂
        repeat (any_goals (first | assumption | wp_step))
        exact h _ _ _ hS' hc' hk'
end
end PySem
namespace Pv
open PySem PySem.Spec PyProof.Rows L2
section
variable {X : Cx}
def rSetL (K : Fg) (w : World) : List V → Hp → VK → Prop := fun vs H Q => ∃ (a : Addr) (ns : List Int), vs = [V.ref a] ∧ SqL K H a (ns.map V.int) ∧ ns.length ≤ 60 ∧
  ∀ p c, H p = none → c ≤ ns.length → Q (.ref p) (upd H p (SetO w p (fun j => decide (j ∈ ns)) c))
theorem cr_setL (hc : X.calm = true) : CallR X (.type "set") (rSetL X.K X.w) := by
  intro pins s σ H vs us Q I r h
  obtain ⟨a, ns, rfl, hs, hl, q⟩ := h
  obtain ⟨its, rv, pl, hz⟩ := I.list hs
  rw [Vals.ref1 r]
  refine call_set_lstI ns (I.ok.hd hc) pl.isList (ints_of_vals rv) (by unfold scanBound; omega) fun h' tk c hS hcn hk => ?_
  exact ⟨.ref _, upd H s.heap.objs.size (SetO X.w s.heap.objs.size (fun j => decide (j ∈ ns)) c), I.laid (t' := tk) hk (Nat.le_refl _) (setO_new hS), rfl, q _ _ (I.hok.fresh (Nat.le_refl _)) hcn⟩
def dSortedSet (f : Prop) (R : KC) : D → Prop
  | .list ds => f ∧ ∃ ns : List Int, ds = ns.map PyData.int ∧ ns.length ≤ 60 ∧ ∀ ns' : List Int, ns'.Pairwise (· < ·) → (∀ k, k ∈ ns' ↔ k ∈ ns) → ns'.length ≤ ns.length → R 1 (.list (ns'.map .int))
  | _ => False
def oSortedSet : O1 := fun r R => dSortedSet (flat r) R r.d
theorem Out.grow {K : Fg} {ω ω1 : Om} {T : Nat} {H H1 : Hp} {R : KC} {Q : VK} (q : Out K ω T H R Q) (g : Grow ω H ω1 H1) : Out K ω1 T H1 R Q :=
  fun v H' ω' k d g2 fr h hR => q v H' ω' k d (g.trans g2) fr h hR
theorem so_sortedSet {K : Fg} {w : World} : SndON K (fun vs H Q => rSetL K w vs H fun x H2 => rSortedSet w [x] H2 Q) (at1 oSortedSet) := by
  intro ω T H vs rs R Q fr va h q
  match vs, rs, va, h with
  | [], [_], va, _ => exact va.elim
  | _ :: _ :: _, [_], va, _ => exact va.2.elim
  | [x], [r1], va, h =>
    have h' : dSortedSet (flat r1) R r1.d := h
    generalize e1 : r1.d = d1 at h'
    cases d1 <;> first
      | exact h'.elim
      | skip
    obtain ⟨f, ns, rfl, hl, hR⟩ := h'
    obtain ⟨a, vs, rfl, ha, hp⟩ := va.1.lst f e1
    refine ⟨a, ns, rfl, .inl (.inl (by rw [← RpAll.of_ints ns hp]; exact ha)), hl, fun p c hp1 hc => ?_⟩
    have gr : Grow ω H (putO p .far ω) (upd H p (SetO w p (fun j => decide (j ∈ ns)) c)) := put_grow hp1
    have fr2 : Free (putO p .far ω) T := fun b t u e => by
      by_cases hb : b = p
      · subst hb; rw [putO_same] at e; cases e
      · rw [putO_ne hb] at e; exact fr b t u e
    refine ⟨p, _, c, rfl, upd_same, by omega, fun ns' p2 h1 h2 h3 hp2 => ?_⟩
    exact (q.grow gr).lst fr2 hp2 (RpAll.ints ns') (hR ns' h1 (fun k => by rw [h2 k, decide_eq_true_eq]) (by omega))
variable {e : Expr} {fa : FA} {p p2 pos pos2 : Pos}
theorem se_sortedSet (hc : X.calm = true) (hm : X.mg "sorted" = none) (hm2 : X.mg "set" = none) (ha : SA X [e] fa) (hg : Gl X "sorted" := by rfl) (hg2 : Gl X "set" := by rfl) (he : starEach [e] X.env = [(false, eval e X.env)] := by rfl)
    (he2 : starEach [.Call (.Name "set" p2) [e] [] pos2] X.env = [(false, eval (.Call (.Name "set" p2) [e] [] pos2) X.env)] := by rfl) :
    SE X (.Call (.Name "sorted" p) [.Call (.Name "set" p2) [e] [] pos2] [] pos) (fOpN (at1 oSortedSet) fa) := by
  obtain ⟨t, q, s⟩ := ha.ex
  have hs : SndE X.K (fun σ H Q => t σ H fun vs H1 => rSetL X.K X.w vs H1 fun x H2 => rSortedSet X.w [x] H2 Q) (fOpN (at1 oSortedSet) fa) := snd_opN so_sortedSet s
  exact ⟨_, pe_callB (cr_sortedSet hc) hg hm (id := "sorted") (by decide +kernel) (pa_cons (pe_callTy (cr_setL hc) hg2 hm2 (by decide +kernel) q (by decide) (by decide) he rfl) pa_nil he2) (by decide) (by decide) he2 rfl, hs⟩
end
end Pv

/-! Pv22: `name = {e: True for ..}` on one line. -/
namespace Pv
open PySem PySem.Spec PyProof.Rows L2
section
variable {X : Cx}
theorem sw_trueD {kx vx : Expr} {gs : List Comprehension} {scope : Scope} {pos py : Pos} {y : Str} {l : Nat} {env : PySem.Env} (hk : env.scope.kind = .function) (hy : env.scope.names.lookup y = some .local) (hl : (py.line == pos.line) = true)
    (ha : (scope.names.any fun (n, k) => n == y && (k == .local || k == .cell)) = false) : swapsWith (.DictComp kx vx gs scope pos) (some (.Name y py)) l env = pure true := by
  have ky : env.kindOf y = some .local := hy
  have hb : env.blockKind = .function := by unfold Env.blockKind; rw [hk]; rfl
  unfold swapsWith
  simp only [hb, ky, ha, Expr.pos, hl]
  rfl
theorem ps_setDc {i : Nat} {y : Str} {py : Pos} {kx vx tg iter : Expr} {ifs : List Expr} {scope : Scope} {own : List (Str × Nat)} {pos spos : Pos} {wi : TI} {g : TG} {tt : TT} {tk tv : TE} (hc : X.calm = true) (hN : X.N.Nodup) (hy : X.N[i]? = some y) (hyl : X.env.scope.names.lookup y = some .local)
    (hsw : swapsWith (.DictComp kx vx [⟨tg, iter, ifs, 0⟩] scope pos) (some (.Name y py)) spos.line X.env = pure true) (hi : PI X tg iter wi) (ok : BlkOk X.N X.env.scope scope own)
    (hg : ∀ (s : Shared) (H : Hp) (C : Addr) (cl : List (Str × Addr)) (fp : List Addr), PG (X.blk s H scope (compEnvC scope cl C X.env) fp) tg g) (ht : ∀ (s : Shared) (H : Hp) (C : Addr) (cl : List (Str × Addr)) (fp : List Addr), PTs (X.blk s H scope (compEnvC scope cl C X.env) fp) ifs tt)
    (hk : ∀ (s : Shared) (H : Hp) (C : Addr) (cl : List (Str × Addr)) (fp : List Addr), PE (X.blk s H scope (compEnvC scope cl C X.env) fp) kx tk)
    (he : ∀ (s : Shared) (H : Hp) (C : Addr) (cl : List (Str × Addr)) (fp : List Addr), PE (X.blk s H scope (compEnvC scope cl C X.env) fp) vx tv) (hs : ∀ x, foldedSetIterable iter X.env x = pure x := by intro _; rfl) :
    PS X (.Assign [.Name y py] (.DictComp kx vx [⟨tg, iter, ifs, 0⟩] scope pos) spos) (tAsg (tDc wi g tt tk tv (own.map (·.2))) (gName i)) := by
  refine ⟨fun pins s σ H D I h => ?_⟩
  rw [exec_Assign_Name_used _ _ _ _ hsw]
  refine wpAny_bind (wpAny_standAt (wpAny_bind ?_))
  show wpAny _ X.A (do let _ ← comprehension (.DictComp kx vx [⟨tg, iter, ifs, 0⟩] scope pos) scope X.env (firstIterPos [⟨tg, iter, ifs, 0⟩] pos) newDict false (eval iter X.env) (some (assign (.Name y py) X.env))) _ _ s
  have h : tDc wi g tt tk tv (own.map (·.2)) σ H (fun x H1 => gName i x σ H1 D.nx) := h
  refine wpAny_bind (thn (dc_core (Qf := fun _ s' => SP X pins D .next s') hc hN I hi ok hg ht hk he hs h fun L C s' m H' I' q hn f => ?_) fun _ s' hq => wpAny_pure (wpAny_pure hq))
  show wpAny _ _ (assign (.Name y py) X.env (.ref L)) _ _ _
  refine wpAny_assign_Name (store_ok2 (v := V.ref L) I' hN hy (.inl hyl) rfl (fun s2 I2 ⟨a, sb, ha⟩ => ?_) (.inr hyl))
  obtain ⟨f0, f1, f2, f3, f4, f5⟩ := f
  have haC : C ≠ a := by
    rcases ha with z | z
    · rw [z]; exact f1
    · exact fun e => f4 y a z e.symm
  exact ⟨m, hn.sameBut sb haC, fun h3 sb3 => ⟨_, H', I2.turned (t' := s2.toks) (fun b o hb e => (sb3.2 b hb).trans e) f0 f1 f3 f4 f5, q⟩⟩
variable {elt tg iter : Expr} {ifs : List Expr} {scope : Scope} {own : List (Str × Nat)} {pos pb spos py : Pos} {y : Str} {fi : FI} {g : FG} {ft : FT} {fe : FE} {io : Nat → Bool}
theorem ss_setDc {j} (i : Nat) (hc : X.calm = true) (hN : X.N.Nodup) (hsw : swapsWith (.DictComp elt (.Constant (.bool true) j pb) [⟨tg, iter, ifs, 0⟩] scope pos) (some (.Name y py)) spos.line X.env = pure true) (hi : SI X tg iter fi) (ok : BlkOk X.N X.env.scope scope own)
    (hg : ∀ (s : Shared) (H : Hp) (C : Addr) (cl : List (Str × Addr)) (fp : List Addr), SG (X.blk s H scope (compEnvC scope cl C X.env) fp) (fun j => !(own.map (·.2)).contains j) tg g)
    (ht : ∀ (s : Shared) (H : Hp) (C : Addr) (cl : List (Str × Addr)) (fp : List Addr), SFs (X.blk s H scope (compEnvC scope cl C X.env) fp) ifs ft)
    (he : ∀ (s : Shared) (H : Hp) (C : Addr) (cl : List (Str × Addr)) (fp : List Addr), SE (X.blk s H scope (compEnvC scope cl C X.env) fp) elt fe) (hy : X.N[i]? = some y := by rfl) (hyl : X.env.scope.names.lookup y = some .local := by rfl) (hio : io i = false := by decide) (hs : ∀ x, foldedSetIterable iter X.env x = pure x := by intro _; rfl) :
    SSt X io (.Assign [.Name y py] (.DictComp elt (.Constant (.bool true) j pb) [⟨tg, iter, ifs, 0⟩] scope pos) spos) (fAsg i (fDc (own.map (·.2)) fi g ft fe)) := by
  obtain ⟨w, p, s⟩ := hi.ex
  exact ⟨_, ps_setDc hc hN hy hyl hsw p ok (fun a b c d e => (hg a b c d e).pg) (fun a b c d e => (ht a b c d e).pt) (fun a b c d e => (he a b c d e).pe) (fun _ _ _ _ _ => pe_bl) hs, snd_asg (snd_dc s) hio⟩
theorem ss_setDcO {j} (i : Nat) (hc : X.calm = true) (hN : X.N.Nodup) (hsw : swapsWith (.DictComp elt (.Constant (.bool true) j pb) [⟨tg, iter, ifs, 0⟩] scope pos) (some (.Name y py)) spos.line X.env = pure true) (hi : SI X tg iter fi) (ok : BlkOk X.N X.env.scope scope own)
    (hg : ∀ (s : Shared) (H : Hp) (C : Addr) (cl : List (Str × Addr)) (fp : List Addr), SG (X.blk s H scope (compEnvC scope cl C X.env) fp) (fun j => !(own.map (·.2)).contains j) tg g)
    (ht : ∀ (s : Shared) (H : Hp) (C : Addr) (cl : List (Str × Addr)) (fp : List Addr), SFs (X.blk s H scope (compEnvC scope cl C X.env) fp) ifs ft)
    (he : ∀ (s : Shared) (H : Hp) (C : Addr) (cl : List (Str × Addr)) (fp : List Addr), SE (X.blk s H scope (compEnvC scope cl C X.env) fp) elt fe) (hy : X.N[i]? = some y := by rfl) (hyl : X.env.scope.names.lookup y = some .local := by rfl) (hio : io i = false := by decide) (hs : ∀ x, foldedSetIterable iter X.env x = pure x := by intro _; rfl) :
    SSt X io (.Assign [.Name y py] (.DictComp elt (.Constant (.bool true) j pb) [⟨tg, iter, ifs, 0⟩] scope pos) spos) (fAsgO i (fDc (own.map (·.2)) fi g ft fe)) := by
  obtain ⟨w, p, s⟩ := hi.ex
  exact ⟨_, ps_setDc hc hN hy hyl hsw p ok (fun a b c d e => (hg a b c d e).pg) (fun a b c d e => (ht a b c d e).pt) (fun a b c d e => (he a b c d e).pe) (fun _ _ _ _ _ => pe_bl) hs, snd_asgO (snd_dc s) hio⟩
variable {a b : Expr} {fa fb : FE}
theorem st_eqD {k : Nat} (hr : Room k X.A) (ha : SE X a fa) (hb : SE X b fb) (hm : behindInMarks .Eq b = false := by first | exact nobehind _ (by decide) (by decide) | rfl) : STs X (.Compare a [.Eq] [b] pos) (fTst (fOp2 (oEqD0 fun b => b) fa fb)) := st_cmp (op_eq_dict0 (by have := hu64 hr; omega)) so_eqD0 ha hb hm
theorem st_neD {k : Nat} (hr : Room k X.A) (ha : SE X a fa) (hb : SE X b fb) (hm : behindInMarks .NotEq b = false := by first | exact nobehind _ (by decide) (by decide) | rfl) : STs X (.Compare a [.NotEq] [b] pos) (fTst (fOp2 (oEqD0 fun b => !b) fa fb)) := st_cmp (op_ne_dict0 (by have := hu64 hr; omega)) so_eqD0 ha hb hm
end
end Pv

/-! Pv23: len(set(t)) and t.count(k), t a tuple of ints. -/
namespace Pv
open PySem PySem.Spec PyProof.Rows L2
section
variable {X : Cx}
def rSetT (K : Fg) (w : World) : List V → Hp → VK → Prop := fun vs H Q => ∃ (a : Addr) (ns : List Int), vs = [V.ref a] ∧ SqT K H a (ns.map V.int) ∧ ns.length ≤ 1000 ∧
  ∀ p c, H p = none → c ≤ ns.length → Q (.ref p) (upd H p (SetO w p (fun j => decide (j ∈ ns)) c))
theorem cr_setT (hc : X.calm = true) : CallR X (.type "set") (rSetT X.K X.w) := by
  intro pins s σ H vs us Q I r h
  obtain ⟨a, ns, rfl, hs, hl, q⟩ := h
  obtain ⟨its, rv, pl, hz⟩ := I.tuple hs
  rw [Vals.ref1 r]
  refine call_set_tupI ns (I.ok.hd hc) pl (ints_of_vals rv) (by unfold scanBound; omega) fun h' tk c hS hcn hk => ?_
  exact ⟨.ref _, upd H s.heap.objs.size (SetO X.w s.heap.objs.size (fun j => decide (j ∈ ns)) c), I.laid (t' := tk) hk (Nat.le_refl _) (setO_new hS), rfl, q _ _ (I.hok.fresh (Nat.le_refl _)) hcn⟩
/-- len(found) -/
def rLenSetO (w : World) : List V → Hp → VK → Prop := fun vs H Q => ∃ (a : Addr) (S : Int → Bool) (n : Nat), vs = [V.ref a] ∧ H a = some (SetO w a S n) ∧ ∀ ks : List Int, ks.Nodup → (∀ k : Int, S k = true ↔ k ∈ ks) → Q (.int (ks.length : Nat)) H
theorem cr_lenSetO : CallR X (.builtin "len") (rLenSetO X.w) := by
  intro pins s σ H vs us Q I r h
  obtain ⟨a, S, n, rfl, ha, q⟩ := h
  obtain ⟨o, es, ep, t, ho, hex, hdt, g, nd, hm2, hb, hf, hn, hr, hl2⟩ := setO_get I ha
  rw [Vals.ref1 r]
  refine call_len_set ho hex hdt hf (by unfold scanBound at hb; omega) ?_
  refine ⟨.int ((es.toList.map keyOf).length : Nat), H, I.tok _, ⟨s.toks + 1, ?_⟩, q _ nd hm2⟩
  rw [List.length_map, Array.length_toList]
def dLenSet (R : KC) : D → Prop
  | .tuple ds => ∃ ns : List Int, ds = ns.map PyData.int ∧ ns.length ≤ 1000 ∧ ∀ ks : List Int, ks.Nodup → (∀ k, k ∈ ks ↔ k ∈ ns) → R 0 (.int (ks.length : Nat))
  | _ => False
def oLenSet : O1 := fun r R => dLenSet R r.d
theorem so_lenSet {K : Fg} {w : World} : SndON K (fun vs H Q => rSetT K w vs H fun x H2 => rLenSetO w [x] H2 Q) (at1 oLenSet) := by
  intro ω T H vs rs R Q fr va h q
  match vs, rs, va, h with
  | [], [_], va, _ => exact va.elim
  | _ :: _ :: _, [_], va, _ => exact va.2.elim
  | [x], [r1], va, h =>
    have h' : dLenSet R r1.d := h
    generalize e1 : r1.d = d1 at h'
    cases d1 <;> first
      | exact h'.elim
      | skip
    obtain ⟨ns, rfl, hl, hR⟩ := h'
    obtain ⟨a, vs, rfl, ha, hp⟩ := va.1.tup e1
    refine ⟨a, ns, rfl, by rw [← RpAll.of_ints ns hp]; exact ha, hl, fun p c hp1 hc => ?_⟩
    have gr : Grow ω H (putO p .far ω) (upd H p (SetO w p (fun j => decide (j ∈ ns)) c)) := put_grow hp1
    have fr2 : Free (putO p .far ω) T := fun b t u e => by
      by_cases hb : b = p
      · subst hb; rw [putO_same] at e; cases e
      · rw [putO_ne hb] at e; exact fr b t u e
    refine ⟨p, _, c, rfl, upd_same, fun ks h1 h2 => ?_⟩
    exact (q.grow gr).int fr2 (hR ks h1 (fun k => by rw [← h2 k, decide_eq_true_eq]))
variable {e o : Expr} {fa fb : FE} {fA : FA} {p p2 pos pos2 apos cpos : Pos}
theorem se_lenSet (hc : X.calm = true) (hm : X.mg "len" = none) (hm2 : X.mg "set" = none) (ha : SA X [e] fA) (hg : Gl X "len" := by rfl) (hg2 : Gl X "set" := by rfl) (he : starEach [e] X.env = [(false, eval e X.env)] := by rfl)
    (he2 : starEach [.Call (.Name "set" p2) [e] [] pos2] X.env = [(false, eval (.Call (.Name "set" p2) [e] [] pos2) X.env)] := by rfl) :
    SE X (.Call (.Name "len" p) [.Call (.Name "set" p2) [e] [] pos2] [] pos) (fOpN (at1 oLenSet) fA) := by
  obtain ⟨t, q, s⟩ := ha.ex
  have hs : SndE X.K (fun σ H Q => t σ H fun vs H1 => rSetT X.K X.w vs H1 fun x H2 => rLenSetO X.w [x] H2 Q) (fOpN (at1 oLenSet) fA) := snd_opN so_lenSet s
  exact ⟨_, pe_callB cr_lenSetO hg hm (id := "len") (by decide +kernel) (pa_cons (pe_callTy (cr_setT hc) hg2 hm2 (by decide +kernel) q (by decide) (by decide) he rfl) pa_nil he2) (by decide) (by decide) he2 rfl, hs⟩
end
end Pv

/-! Pv24: a list display whose items are own lists, kept own: an own list of own lists. -/
namespace Pv
open PySem PySem.Spec PyProof.Rows L2
/-- the values in hand from T on become the items of the one in hand at T -/
def nestO (T : Nat) : Ow → Ow
  | .tmp t p => if T ≤ t then .tmp T ((t - T) :: p) else .tmp t p
  | o => o
abbrev nst (T : Nat) (ω : Om) : Om := ren (nestO T) ω
section
variable {K : Fg} {ω ω0 : Om} {T : Nat} {H H0 : Hp} {env : Env} {σ : Sg}
theorem nst_sh : Sh ω H (nst T ω) H := fun a o h e => ⟨h, by show nestO T (ω a) = _; rw [e]; rfl⟩
theorem Rel.nst (R : Rel K ω env σ H) (T : Nat) : Rel K (nst T ω) env σ H := by
  refine ⟨R.len, fun i c e => ?_⟩
  obtain ⟨v, q, h⟩ := R.cell i c e
  exact ⟨v, q, OwR.go nst_sh (fun a u p z1 z2 => ⟨z1, by show nestO T (ω a) = _; rw [z2]; rfl⟩) _ _ _ _ h⟩
theorem nestO_lt {t : Nat} {p : List Nat} (h : t < T) : nestO T (.tmp t p) = .tmp t p := if_neg (Nat.not_le.mpr h)
theorem nestO_ge {j : Nat} {p : List Nat} : nestO T (.tmp (T + j) p) = .tmp T (j :: p) := by
  show (if T ≤ T + j then Ow.tmp T ((T + j - T) :: p) else .tmp (T + j) p) = _
  rw [if_pos (Nat.le_add_right _ _), Nat.add_sub_cancel_left]
theorem Step.nst (g : Step ω0 H0 ω H) (f : Free ω0 T) : Step ω0 H0 (nst T ω) H := fun a o h => by
  rcases g a o h with q | ⟨q, z⟩
  · exact .inl q
  · refine .inr ⟨q, ?_⟩
    show nestO T (ω a) = _
    rw [z]
    cases y : ω0 a with
    | tmp t p => exact nestO_lt (f a t p y)
    | _ => rfl
theorem nst_free : Free (nst T ω) (T + 1) := fun a t p e => by
  have e : nestO T (ω a) = .tmp t p := e
  cases q : ω a with
  | tmp t' p' =>
    rw [q] at e
    by_cases hT : T ≤ t'
    · have e' : nestO T (.tmp t' p') = .tmp T ((t' - T) :: p') := if_pos hT
      rw [e'] at e; cases e; exact Nat.lt_succ_self _
    · rw [nestO_lt (Nat.not_le.mp hT)] at e; cases e; omega
  | _ => rw [q] at e; cases e
theorem OwR.shift {o : List Nat → Ow} {l : List Nat} : ∀ (k : Nat) (q : List Nat) (v : V) (d : D), OwR K ω H k (fun p => o (l ++ p)) q v d → OwR K ω H k o (l ++ q) v d
  | 0, _, _, _, h => h
  | k + 1, q, v, d, h => by
    rcases h with h | ⟨a, vs, ds, e1, e2, h1, e3, el, hc⟩ | ⟨a, kvs, es, e1, e2, h1, e3, hp⟩
    · exact .inl h
    · refine .inr (.inl ⟨a, vs, ds, e1, e2, h1, e3, el, fun j v' d' z1 z2 => ?_⟩)
      rw [List.append_assoc]
      exact OwR.shift k (q ++ [j]) v' d' (hc j v' d' z1 z2)
    · exact .inr (.inr ⟨a, kvs, es, e1, e2, h1, e3, hp⟩)
theorem OwR.nst {k j : Nat} {v : V} {d : D} (h : OwR K ω H k (Ow.tmp (T + j)) [] v d) : OwR K (nst T ω) H k (Ow.tmp T) [j] v d := by
  have h2 := OwR.go (o' := fun p => Ow.tmp T ([j] ++ p)) nst_sh (fun a u p z1 z2 => ⟨z1, by show nestO T (ω a) = _; rw [z2]; exact nestO_ge⟩) _ _ _ _ h
  exact OwR.shift k [] v d h2
def own1 : List Res → Prop
  | [] => True
  | .v 1 _ :: rs => own1 rs
  | _ => False
theorem ResAll.nst : ∀ {vs : List V} {rs : List Res} (n : Nat), own1 rs → ResAll K ω H σ env (T + n) vs rs → vs.length = (dsOf rs).length ∧ ∀ j v' d', vs[j]? = some v' → (dsOf rs)[j]? = some d' → OwR K (nst T ω) H 1 (Ow.tmp T) [n + j] v' d'
  | [], [], n, _, _ => ⟨rfl, fun j v' d' z _ => by cases z⟩
  | [], _ :: _, n, _, h => h.elim
  | _ :: _, [], n, _, h => h.elim
  | v :: vs, .v 1 d :: rs, n, ho, h => by
    obtain ⟨h1, h2⟩ := h
    have h1 : OwR K ω H 1 (Ow.tmp (T + n)) [] v d := h1
    obtain ⟨e, ih⟩ := ResAll.nst (n + 1) (show own1 rs from ho) (show ResAll K ω H σ env (T + (n + 1)) vs rs from h2)
    refine ⟨by show _ + 1 = (d :: dsOf rs).length; rw [List.length_cons, e], fun j v' d' z1 z2 => ?_⟩
    cases j with
    | zero =>
      cases z1
      have z2 : some d = some d' := z2
      cases z2
      exact OwR.nst h1
    | succ j =>
      have := ih j v' d' z1 z2
      rwa [show n + 1 + j = n + (j + 1) by omega] at this
  | _ :: _, .v 0 _ :: _, _, ho, _ => ho.elim
  | _ :: _, .v (_ + 2) _ :: _, _, ho, _ => ho.elim
  | _ :: _, .b _ _ _ :: _, _, ho, _ => ho.elim
/-- [a, b, ..], each an own list: kept own -/
def fLst2 (fa : FA) : FE := fun env R => fa env fun rs e => (own1 rs ∧ rs.length ≤ sizeLine) ∧ R (.v 2 (.list (dsOf rs))) e
theorem dsOf_len : ∀ rs : List Res, (dsOf rs).length = rs.length
  | [] => rfl
  | _ :: rs => congrArg (· + 1) (dsOf_len rs)
theorem snd_lst2 {t : TA} {fa : FA} (ha : SndA K t fa) : SndE K (fun σ H Q => t σ H fun vs H1 => vs.length ≤ sizeLine ∧ ∀ p, H1 p = none → Q (.ref p) (upd H1 p (.lst vs))) (fLst2 fa) := by
  intro ω T env σ H R Q rel fre hR q
  refine ha ω T env σ H _ _ rel fre hR fun vs H1 ω1 e1 rs rel1 st1 fr1 rr1 h1 => ?_
  obtain ⟨⟨ho, hz⟩, hR'⟩ := h1
  obtain ⟨el, hc⟩ := ResAll.nst 0 ho rr1
  refine ⟨by rw [el, dsOf_len]; exact hz, fun p hp => ?_⟩
  have g : Grow (Pv.nst T ω1) H1 (putO p (.tmp T []) (Pv.nst T ω1)) (upd H1 p (.lst vs)) := put_grow hp
  refine q (.ref p) _ (putO p (.tmp T []) (Pv.nst T ω1)) e1 (.v 2 (.list (dsOf rs))) ((rel1.nst T).grow g) ((st1.nst fre).grow g) (fun a t l e => ?_) ?_ hR'
  · by_cases hb : a = p
    · subst hb; rw [putO_same] at e; cases e; exact Nat.lt_succ_self _
    · rw [putO_ne hb] at e; exact nst_free a t l e
  · refine .inr (.inl ⟨p, vs, dsOf rs, rfl, rfl, upd_same, putO_same, el, fun j v' d' z1 z2 => ?_⟩)
    have h2 := hc j v' d' z1 z2
    rw [Nat.zero_add] at h2
    exact OwR.go g.step.sh (fun a u l z3 z4 => by obtain ⟨y1, y2⟩ := g a u z3; exact ⟨y1, y2.trans z4⟩) _ _ _ _ h2
end
section
variable {X : Cx} {es : List Expr} {fa : FA} {pos : Pos}
theorem se_lst2 (ha : SA X es fa) : SE X (.List es pos) (fLst2 fa) := by
  obtain ⟨t, p, s⟩ := ha.ex
  exact ⟨_, pe_lst p, snd_lst2 s⟩
end
/-! ### a method of an item of a slot's own list of own lists -/
def onOwn2 (c : Option Cell) (j : Nat) (P : List D → List D → Prop) : Prop := match c with
  | some ⟨2, .list ds⟩ => ∃ es, ds[j]? = some (.list es) ∧ P ds es
  | _ => False
theorem onOwn2_ex {c : Option Cell} {j : Nat} {P : List D → List D → Prop} (h : onOwn2 c j P) : ∃ ds es, c = some ⟨2, .list ds⟩ ∧ ds[j]? = some (.list es) ∧ P ds es := by
  match c, h with
  | some ⟨2, .list ds⟩, ⟨es, h1, h2⟩ => exact ⟨ds, es, rfl, h1, h2⟩
section
variable {K : Fg} {ω : Om} {env : Env} {σ : Sg} {H : Hp} {i j : Nat}
theorem Rel.own2 (rel : Rel K ω env σ H) {ds es : List D} (h : getC env i = some ⟨2, .list ds⟩) (hj : ds[j]? = some (.list es)) :
    ∃ a vs b ws, σ[i]? = some (some (.ref a)) ∧ H a = some (.lst vs) ∧ ω a = .own i [] ∧ vs[j]? = some (.ref b) ∧ H b = some (.lst ws) ∧ ω b = .own i [j] ∧ RpAll K ω H ws es ∧ vs.length = ds.length ∧
      ∀ (n : Nat) (v' : V) (d' : D), vs[n]? = some v' → ds[n]? = some d' → OwR K ω H 1 (Ow.own i) [n] v' d' := by
  obtain ⟨v, hv, ho⟩ := rel.cell i _ (getC_some h)
  have ho' : OwR K ω H 2 (Ow.own i) [] v (.list ds) := ho
  rcases ho' with ⟨z, _⟩ | ⟨a, vs, ds', e1, e2, h1, h2, el, hc⟩ | ⟨_, _, _, _, e2, _⟩
  · cases z
  · cases e2
    subst e1
    have hl : j < vs.length := by rw [el]; exact (List.getElem?_eq_some_iff.mp hj).1
    have hvj := List.getElem?_eq_getElem hl
    have hw : OwR K ω H 1 (Ow.own i) [j] vs[j] (.list es) := hc j _ _ hvj hj
    rcases hw with ⟨z, _⟩ | ⟨b, ws, es', f1, f2, g1, g2, gl, gc2⟩ | ⟨_, _, _, _, f2, _⟩
    · cases z
    · cases f2
      rw [f1] at hvj
      exact ⟨a, vs, b, ws, hv, h1, h2, hvj, g1, g2, RpAll.of_get gl gc2, el, hc⟩
    · cases f2
  · cases e2
theorem Rel.wr2 (rel : Rel K ω env σ H) {ds es' : List D} {a b : Addr} {vs ws' : List V} (hσ : σ[i]? = some (some (.ref a))) (hi : i < env.length) (ha : H a = some (.lst vs)) (ho : ω a = .own i []) (hj : vs[j]? = some (.ref b)) (hb : ω b = .own i [j])
    (el : vs.length = ds.length) (hc : ∀ (n : Nat) (v' : V) (d' : D), vs[n]? = some v' → ds[n]? = some d' → OwR K ω H 1 (Ow.own i) [n] v' d') (h : RpAll K ω H ws' es') :
    Rel K ω (env.set i (some ⟨2, .list (ds.set j (.list es'))⟩)) σ (upd H b (.lst ws')) ∧ Step ω H ω (upd H b (.lst ws')) := by
  have hs : Sh ω H ω (upd H b (.lst ws')) := sh_upd (by rw [hb]; exact fun z => by cases z)
  have hab : a ≠ b := fun z => by subst z; rw [ho] at hb; cases hb
  refine ⟨⟨by rw [List.length_set]; exact rel.len, fun k c e => ?_⟩, fun x o hx => ?_⟩
  · by_cases hk : i = k
    · subst hk
      rw [List.getElem?_set_self hi] at e
      cases e
      refine ⟨_, hσ, .inr (.inl ⟨a, vs, ds.set j (.list es'), rfl, rfl, by rw [upd_ne hab]; exact ha, ho, by rw [List.length_set]; exact el, fun n v' d' z1 z2 => ?_⟩)⟩
      by_cases hn : j = n
      · subst hn
        have hl : j < ds.length := by rw [← el]; exact (List.getElem?_eq_some_iff.mp hj).1
        rw [List.getElem?_set_self hl] at z2
        rw [hj] at z1
        cases z1; cases z2
        exact .inr (.inl ⟨b, ws', es', rfl, rfl, upd_same, hb, h.length, fun m v2 d2 y1 y2 => Rp.sh hs _ _ (h.get y1 y2)⟩)
      · rw [List.getElem?_set_ne hn] at z2
        rcases hc n v' d' z1 z2 with ⟨q, h0⟩ | ⟨x, xs, es, f1, f2, g1, g2, gl, gc2⟩ | ⟨x, kvs, es, f1, f2, g1, g2, gp⟩
        · exact .inl ⟨q, Rp.sh hs _ _ h0⟩
        · have ne : x ≠ b := fun z => by subst z; rw [hb] at g2; cases g2; exact hn rfl
          exact .inr (.inl ⟨x, xs, es, f1, f2, by rw [upd_ne ne]; exact g1, g2, gl, fun m v2 d2 y1 y2 => Rp.sh hs _ _ (gc2 m v2 d2 y1 y2)⟩)
        · have ne : x ≠ b := fun z => by subst z; rw [hb] at g2; cases g2; exact hn rfl
          exact .inr (.inr ⟨x, kvs, es, f1, f2, by rw [upd_ne ne]; exact g1, g2, gp.sh hs⟩)
    · rw [List.getElem?_set_ne hk] at e
      obtain ⟨v', hv', ho'⟩ := rel.cell k c e
      refine ⟨v', hv', OwR.go hs (fun x u p z1 z2 => ⟨?_, z2⟩) _ _ _ _ ho'⟩
      have ne : x ≠ b := fun z => by subst z; rw [hb] at z2; cases z2; exact hk rfl
      rw [upd_ne ne]; exact z1
  · by_cases e : x = b
    · subst e; exact .inl ⟨i, [j], hb⟩
    · exact .inr ⟨by rw [upd_ne e]; exact hx, rfl⟩
/-- x[j].append(text) -/
def fApp2 (i j : Nat) (d : D) : FE := fun env R => onOwn2 (getC env i) j fun ds es => es.length < sizeLine ∧ R (.v 0 .none) (env.set i (some ⟨2, .list (ds.set j (.list (es ++ [d])))⟩))
def fRev2 (i j : Nat) : FE := fun env R => onOwn2 (getC env i) j fun ds es => R (.v 0 .none) (env.set i (some ⟨2, .list (ds.set j (.list es.reverse))⟩))
theorem atI_nat {vs : List V} {v : V} (h : vs[j]? = some v) : atI vs (j : Nat) = some v := by
  have hl := (List.getElem?_eq_some_iff.mp h).1
  unfold atI ixN
  rw [if_pos (Int.natCast_nonneg j), if_pos (by omega)]
  exact h
theorem snd_app2 {x : Str} : SndE K (tBM K "list" rAppend (tOp (rIx K) (tVar i) fun _ H Q => Q (.int (j : Nat)) H) fun _ H Q => Q [.str x] H) (fApp2 i j (.str x)) := by
  intro ω T env σ H R Q rel fr hR q
  obtain ⟨ds, es, e2, hj, hz, hR⟩ := onOwn2_ex hR
  obtain ⟨a, vs, b, ws, hσ, hH, ho, hvj, hb, hob, hp, el, hc⟩ := rel.own2 e2 hj
  refine ⟨.ref a, hσ, .inl ⟨a, vs, (j : Nat), .ref b, rfl, rfl, .inl (.inl hH), atI_nat hvj, .inl ⟨rfl, ws, .inl (.inl hb)⟩, b, ws, .str x, rfl, rfl, hb, by rw [hp.length]; exact hz, ?_⟩⟩
  obtain ⟨rel2, st2⟩ := rel.wr2 hσ (List.getElem?_eq_some_iff.mp (getC_some e2)).1 hH ho hvj hob el hc (hp.append (.cons (.str x) .nil))
  exact q .non _ ω _ (.v 0 .none) rel2 st2 fr.up .non hR
theorem snd_rev2 : SndE K (tBM0 K "list" rReverse (tOp (rIx K) (tVar i) fun _ H Q => Q (.int (j : Nat)) H)) (fRev2 i j) := by
  intro ω T env σ H R Q rel fr hR q
  obtain ⟨ds, es, e2, hj, hR⟩ := onOwn2_ex hR
  obtain ⟨a, vs, b, ws, hσ, hH, ho, hvj, hb, hob, hp, el, hc⟩ := rel.own2 e2 hj
  refine ⟨.ref a, hσ, .inl ⟨a, vs, (j : Nat), .ref b, rfl, rfl, .inl (.inl hH), atI_nat hvj, .inl ⟨rfl, ws, .inl (.inl hb)⟩, b, ws, rfl, rfl, hb, ?_⟩⟩
  obtain ⟨rel2, st2⟩ := rel.wr2 hσ (List.getElem?_eq_some_iff.mp (getC_some e2)).1 hH ho hvj hob el hc hp.reverse
  exact q .non _ ω _ (.v 0 .none) rel2 st2 fr.up .non hR
end
section
variable {X : Cx} {x s : Str} {px pj ps pk apos cpos : Pos} {k k2 : Nat}
theorem se_app2 (i j : Nat) (hN : X.N[i]? = some x := by rfl) (hv : Vis X.env.scope x := by first | exact Or.inl rfl | exact Or.inr (Or.inl rfl) | exact Or.inr (Or.inr rfl)) (hix : PlainIx (.Constant (.int (j : Nat)) k pj) := by exact fun _ _ => rfl)
    (hbase : attributeBase (.Subscript (.Name x px) (.Constant (.int (j : Nat)) k pj) ps) "append" X.env (eval (.Subscript (.Name x px) (.Constant (.int (j : Nat)) k pj) ps) X.env) = eval (.Subscript (.Name x px) (.Constant (.int (j : Nat)) k pj) ps) X.env := by rfl)
    (hfew : ((backTo cpos (starEach [.Constant (.str s) k2 pk] X.env)).all (fun x => !x.1) && (backToKw cpos (keywordEach [] X.env)).all (fun x => x.1.isSome) && decide ([Expr.Constant (.str s) k2 pk].length + ([] : List Keyword).length + (if ([] : List Keyword).isEmpty then 0 else 1) < 30)) = true := by rfl)
    (hline : (apos.endLine == cpos.line) = true := by rfl) (hs : starEach [.Constant (.str s) k2 pk] X.env = (false, eval (.Constant (.str s) k2 pk) X.env) :: starEach [] X.env := by rfl) (hd : (x == ("__debug__" : Str)) = false := by decide) (hcd : (x == ("__classdict__" : Str)) = false := by decide) :
    SE X (.Call (.Attribute (.Subscript (.Name x px) (.Constant (.int (j : Nat)) k pj) ps) "append" apos) [.Constant (.str s) k2 pk] [] cpos) (fApp2 i j (.str s)) :=
  ⟨_, pe_bm PySem.F.plainAttrs_list PySem.F.slot_list_append PySem.F.type_list_append mt_append (pe_ix ix_seq (pe_var hN hv hd hcd) pe_int hix) (pa_cons pe_str pa_nil hs) hbase hfew hline hs rfl, snd_app2⟩
theorem se_rev2 (i j : Nat) (hN : X.N[i]? = some x := by rfl) (hv : Vis X.env.scope x := by first | exact Or.inl rfl | exact Or.inr (Or.inl rfl) | exact Or.inr (Or.inr rfl)) (hix : PlainIx (.Constant (.int (j : Nat)) k pj) := by exact fun _ _ => rfl)
    (hbase : attributeBase (.Subscript (.Name x px) (.Constant (.int (j : Nat)) k pj) ps) "reverse" X.env (eval (.Subscript (.Name x px) (.Constant (.int (j : Nat)) k pj) ps) X.env) = eval (.Subscript (.Name x px) (.Constant (.int (j : Nat)) k pj) ps) X.env := by rfl)
    (hline : (apos.endLine == cpos.line) = true := by rfl) (hd : (x == ("__debug__" : Str)) = false := by decide) (hcd : (x == ("__classdict__" : Str)) = false := by decide) :
    SE X (.Call (.Attribute (.Subscript (.Name x px) (.Constant (.int (j : Nat)) k pj) ps) "reverse" apos) [] [] cpos) (fRev2 i j) :=
  ⟨_, pe_bm0 PySem.F.plainAttrs_list PySem.F.slot_list_reverse PySem.F.type_list_reverse mt_reverse (pe_ix ix_seq (pe_var hN hv hd hcd) pe_int hix) hbase hline, snd_rev2⟩
end
end Pv

/-! Pv25: zip(a, b, strict=True) of two tuples; first, *rest = a tuple. -/
namespace Pz
open PySem
open PySem.Sem (wp)
open RZ (nextOf_tuple_item nextOf_tuple_end zipTH1 zipTH2 zipTH3 zipTH4)
open PyProof.Rows (IsTup IsTupIter slot_tuple_iter iter_tuple draw_tuple)
abbrev ZipS (h : Heap) (z TI TO : Addr) (f0 : Value) : Prop := h.get? z = some { cls := .type "zip", dict := none, data := .fields #[f0, .bool false, .bool true, .ref TI, .ref TO], slots := #[] }
section
variable {prog : Program} {w : World} {A : Around} {E : Value → Shared → Prop} {s : Shared}
theorem nextOrEnd_item {it l : Addr} {i : Nat} {items : Array Value} {x : Value} {Q : Option Value → Shared → Prop} (hit : s.heap.IsTupleIter it l i) (hl : s.heap.IsTuple l items) (hx : items[i]? = some x)
    (hQ : ∀ h', h'.IsTupleIter it l (i + 1) → Heap.SameBut it s.heap h' → Q (some x) { s with heap := h' }) : wpAny (model prog w) A (Builtin.SmallTypes.nextOrEnd (.ref it)) Q E s := by
  unfold Builtin.SmallTypes.nextOrEnd
  exact wpAny_bind (wpAny_attempt (nextOf_tuple_item hit hl hx fun h' a b => wpAny_pure (hQ h' a b)))
theorem nextOrEnd_end {it l : Addr} {i : Nat} {items : Array Value} {Q : Option Value → Shared → Prop} (hh : A.handled = none) (hit : s.heap.IsTupleIter it l i) (hl : s.heap.IsTuple l items) (hx : items[i]? = none)
    (hQ : ∀ h', Heap.ExtBut it s.heap h' → Q none { s with heap := h' }) : wpAny (model prog w) A (Builtin.SmallTypes.nextOrEnd (.ref it)) Q E s := by
  unfold Builtin.SmallTypes.nextOrEnd
  refine wpAny_bind (wpAny_attempt (nextOf_tuple_end hh hit hl hx fun h' e a he => ?_))
  obtain ⟨o, ho, hc⟩ := he
  exact wpAny_bind (wpAny_isInstance (T := "StopIteration") (b := true) ⟨o, ho, hc⟩ isSubtype_stop (wpAny_pure (hQ h' a)))
theorem stop_wp {α : Type} {Q : α → Shared → Prop} (hh : A.handled = none) (hE : ∀ h' e, (∀ b o, s.heap.get? b = some o → h'.get? b = some o) → (∃ o, h'.get? e = some o ∧ o.cls = .type "StopIteration") → E (.ref e) { s with heap := h' }) :
    wpAny (model prog w) A (Builtin.SmallTypes.stopIteration (α := α)) Q E s := by
  unfold Builtin.SmallTypes.stopIteration
  refine wpAny_bind ?_; simp only [newExc, newTuple]
  refine wpAny_bind (wpAny_newObj_type ?_ (by size_fits)); refine wpAny_bind (m := firstArgMember _ _) (wpAny_of_eq (a := Value.none) (by first | rfl | (simp only [firstArgMember]; rfl)) ?_)
  refine wpAny_newObj_type ?_ (by size_fits); simp only [raiseNew]
  refine wpAny_bind (wpAny_handled ?_); first | rw [show A.in1.handled = none from hh] | rw [hh]
  refine wpAny_bind (wpAny_pure (wpAny_throw ?_)); exact hE _ _ (fun b o x => Heap.get?_push_of_some _ (Heap.get?_push_of_some _ x)) ⟨_, Heap.get?_push_size _ rfl, rfl⟩
theorem zipS_item {z TI TO i1 i2 l1 l2 : Addr} {k1 k2 : Nat} {xs ys : Array Value} {x y a b : Value} {Q : Value → Shared → Prop} (D : ZipApart z TI TO i1 i2 l1 l2)
    (hz : ZipS s.heap z TI TO .none) (hTI : IsPair s.heap TI (.ref i1) (.ref i2)) (hTO : IsPair s.heap TO a b) (h1 : s.heap.IsTupleIter i1 l1 k1) (h2 : s.heap.IsTupleIter i2 l2 k2) (hl1 : s.heap.IsTuple l1 xs) (hl2 : s.heap.IsTuple l2 ys) (hx : xs[k1]? = some x) (hy : ys[k2]? = some y)
    (hQ : ∀ h', ZipS h' z TI TO (rawInt s.heap.objs.size) → IsPair h' TO x y → h'.IsTupleIter i1 l1 (k1 + 1) → h'.IsTupleIter i2 l2 (k2 + 1) → IsPair h' s.heap.objs.size x y → h'.objs.size = s.heap.objs.size + 1 → (∀ c o, c ≠ z → c ≠ TO → c ≠ i1 → c ≠ i2 → s.heap.get? c = some o → h'.get? c = some o) → Q (.ref s.heap.objs.size) { s with heap := h' }) :
    wpAny (model prog w) A (Builtin.«zip.__next__» ⟨[.ref z], []⟩) (fun fin s' => ∃ v, fin = .done (.ret v) ∧ Q v s') E s := by
  show wpAny _ _ (field (.ref z) 2 >>= _) _ _ _; refine wpAny_bind (wpAny_field hz rfl (x := .bool true) rfl ?_)
  show wpAny _ _ (field (.ref z) 3 >>= _) _ _ _; refine wpAny_bind (wpAny_field hz rfl (x := .ref TI) rfl (wpAny_bind (wpAny_seqItems hTI rfl ?_)))
  show wpAny _ _ (Builtin.SmallTypes.ownedTupleIsFree (.ref z) >>= _) _ _ _; refine wpAny_bind ?_
  unfold Builtin.SmallTypes.ownedTupleIsFree; refine wpAny_bind (wpAny_field hz rfl (x := .none) rfl (wpAny_pure ?_))
  simp only [if_true]; refine wpAny_bind (wpAny_rule (wpAny_bind (wpAny_field hz rfl (x := .ref TO) rfl ?_)))
  refine wpAny_bind (wpAny_setField_rec hz (by simp) fun h₁ hz₁ hs₁ => ?_); replace hz₁ : ZipS h₁ z TI TO .ellipsis := hz₁
  refine wpAny_bind ?_; simp only [List.zipIdx_cons, List.zipIdx_nil, List.forIn_cons, List.forIn_nil]
  refine wpAny_bind (wpAny_bind (wpAny_onRaise ?_)); show wpAny _ _ (Builtin.SmallTypes.nextOrEnd (.ref i1)) _ _ _
  refine nextOrEnd_item (h1.extBut hs₁.extBut D.i1z) (hl1.extBut hs₁.extBut D.l1z) hx fun h₂ h1₂ hs₂ => ?_
  have hTO₂ : IsPair h₂ TO a b := hs₂.extBut _ _ D.TOi1 (hs₁.extBut _ _ D.TOz hTO); refine wpAny_bind (wpAny_seqItems hTO₂ rfl ?_)
  refine wpAny_bind (wpAny_updateSeq_pair hTO₂ fun h₃ hTO₃ hs₃ => ?_); replace hTO₃ : IsPair h₃ TO x b := hTO₃
  refine wpAny_bind (wpAny_letGo (wpAny_pure (wpAny_bind (wpAny_bind (wpAny_onRaise ?_))))); show wpAny _ _ (Builtin.SmallTypes.nextOrEnd (.ref i2)) _ _ _
  refine nextOrEnd_item (((h2.extBut hs₁.extBut D.i2z).extBut hs₂.extBut D.i12.symm).extBut hs₃.extBut D.TOi2.symm) (((hl2.extBut hs₁.extBut D.l2z).extBut hs₂.extBut D.l2i1).extBut hs₃.extBut D.l2TO) hy fun h₄ h2₄ hs₄ => ?_
  have hTO₄ : IsPair h₄ TO x b := hs₄.extBut _ _ D.TOi2 hTO₃; refine wpAny_bind (wpAny_seqItems hTO₄ rfl ?_)
  refine wpAny_bind (wpAny_updateSeq_pair hTO₄ fun h₅ hTO₅ hs₅ => ?_); replace hTO₅ : IsPair h₅ TO x y := hTO₅
  refine wpAny_bind (wpAny_letGo (wpAny_pure (wpAny_pure (wpAny_bind (wpAny_seqItems hTO₅ rfl (wpAny_bind (wpAny_newTuple ?_)))))))
  have hsz : h₅.objs.size = s.heap.objs.size := by rw [hs₅.1, hs₄.1, hs₃.1, hs₂.1, hs₁.1]
  have hz₅ : ZipS h₅ z TI TO .ellipsis := hs₅.extBut _ _ D.TOz.symm (hs₄.extBut _ _ D.i2z.symm (hs₃.extBut _ _ D.TOz.symm (hs₂.extBut _ _ D.i1z.symm hz₁)))
  have hk₅ : ∀ c o, c ≠ z → c ≠ TO → c ≠ i1 → c ≠ i2 → s.heap.get? c = some o → h₅.get? c = some o := fun c o c1 c2 c3 c4 e => hs₅.extBut _ _ c2 (hs₄.extBut _ _ c4 (hs₃.extBut _ _ c2 (hs₂.extBut _ _ c3 (hs₁.extBut _ _ c1 e))))
  have h1₅ : h₅.IsTupleIter i1 l1 (k1 + 1) := ((h1₂.extBut hs₃.extBut D.TOi1.symm).extBut hs₄.extBut D.i12).extBut hs₅.extBut D.TOi1.symm
  have h2₅ : h₅.IsTupleIter i2 l2 (k2 + 1) := h2₄.extBut hs₅.extBut D.TOi2.symm
  have hzlt : z < h₅.objs.size := Heap.lt_size hz₅; have hTOlt : TO < h₅.objs.size := Heap.lt_size hTO₅
  show wpAny _ _ (Builtin.SmallTypes.ownedTupleHandOut (.ref z) (.ref h₅.objs.size) >>= _) _ _ _; refine wpAny_bind ?_
  unfold Builtin.SmallTypes.ownedTupleHandOut
  have hz₆ : ZipS (h₅.push { cls := .type "tuple", data := .seq #[x, y] }) z TI TO .ellipsis := Heap.get?_push_of_some _ hz₅
  refine wpAny_bind (wpAny_setField_rec hz₆ (by simp) fun h₇ hz₇ hs₇ => ?_); replace hz₇ : ZipS h₇ z TI TO (rawInt h₅.objs.size) := hz₇
  refine wpAny_setField_rec hz₇ (by simp) fun h₈ hz₈ hs₈ => ?_; replace hz₈ : ZipS h₈ z TI TO (rawInt h₅.objs.size) := hz₈
  have up : ∀ c o, c ≠ z → h₅.get? c = some o → h₈.get? c = some o := fun c o c1 e => hs₈.extBut _ _ c1 (hs₇.extBut _ _ c1 (Heap.get?_push_of_some _ e))
  have hT₈ : IsPair h₈ h₅.objs.size x y := hs₈.extBut _ _ (Nat.ne_of_gt hzlt) (hs₇.extBut _ _ (Nat.ne_of_gt hzlt) (Heap.get?_push_size _ rfl))
  have hz8 : h₈.objs.size = h₅.objs.size + 1 := by rw [hs₈.1, hs₇.1, Heap.size_push]
  rw [hsz] at hz₈ hT₈ hz8; refine wpAny_pure ⟨_, rfl, ?_⟩
  show Q (.ref h₅.objs.size) _; rw [hsz]
  exact hQ h₈ hz₈ (up _ _ D.TOz hTO₅) (h1₅.at fun o e => up _ o D.i1z e) (h2₅.at fun o e => up _ o D.i2z e) hT₈ hz8 fun c o c1 c2 c3 c4 e => up c o c1 (hk₅ c o c1 c2 c3 c4 e)
end
section
variable {prog : Program} {w : World} {A : Around} {E : Value → Shared → Prop} {s : Shared}
theorem zipS_end {z TI TO i1 i2 l1 l2 : Addr} {k1 k2 : Nat} {xs ys : Array Value} {a b : Value} {Q : Fin → Shared → Prop} (hh : A.handled = none) (D : ZipApart z TI TO i1 i2 l1 l2)
    (hz : ZipS s.heap z TI TO .none) (hTI : IsPair s.heap TI (.ref i1) (.ref i2)) (hTO : IsPair s.heap TO a b) (h1 : s.heap.IsTupleIter i1 l1 k1) (h2 : s.heap.IsTupleIter i2 l2 k2) (hl1 : s.heap.IsTuple l1 xs) (hl2 : s.heap.IsTuple l2 ys) (hx : xs[k1]? = none) (hy : ys[k2]? = none)
    (hE : ∀ h' e, (∀ c o, c ≠ z → c ≠ TO → c ≠ i1 → c ≠ i2 → s.heap.get? c = some o → h'.get? c = some o) → (∃ o, h'.get? e = some o ∧ o.cls = .type "StopIteration") → E (.ref e) { s with heap := h' }) :
    wpAny (model prog w) A (Builtin.«zip.__next__» ⟨[.ref z], []⟩) Q E s := by
  show wpAny _ _ (field (.ref z) 2 >>= _) _ _ _; refine wpAny_bind (wpAny_field hz rfl (x := .bool true) rfl ?_)
  show wpAny _ _ (field (.ref z) 3 >>= _) _ _ _; refine wpAny_bind (wpAny_field hz rfl (x := .ref TI) rfl (wpAny_bind (wpAny_seqItems hTI rfl ?_)))
  show wpAny _ _ (Builtin.SmallTypes.ownedTupleIsFree (.ref z) >>= _) _ _ _; refine wpAny_bind ?_
  unfold Builtin.SmallTypes.ownedTupleIsFree; refine wpAny_bind (wpAny_field hz rfl (x := .none) rfl (wpAny_pure ?_))
  simp only [if_true]; refine wpAny_bind (wpAny_rule (wpAny_bind (wpAny_field hz rfl (x := .ref TO) rfl ?_)))
  refine wpAny_bind (wpAny_setField_rec hz (by simp) fun h₁ hz₁ hs₁ => ?_); replace hz₁ : ZipS h₁ z TI TO .ellipsis := hz₁
  refine wpAny_bind ?_; simp only [List.zipIdx_cons, List.zipIdx_nil, List.forIn_cons, List.forIn_nil]
  refine wpAny_bind (wpAny_bind (wpAny_onRaise ?_)); show wpAny _ _ (Builtin.SmallTypes.nextOrEnd (.ref i1)) _ _ _
  refine nextOrEnd_end hh (h1.extBut hs₁.extBut D.i1z) (hl1.extBut hs₁.extBut D.l1z) hx fun h₂ hs₂ => ?_
  have hz₂ : ZipS h₂ z TI TO .ellipsis := hs₂ _ _ D.i1z.symm hz₁
  refine wpAny_bind (wpAny_setField_rec hz₂ (by simp) fun h₃ hz₃ hs₃ => ?_)
  have q2 : h₃.IsTupleIter i2 l2 k2 := ((h2.extBut hs₁.extBut D.i2z).extBut hs₂ D.i12.symm).extBut hs₃.extBut D.i2z
  have ql : h₃.IsTuple l2 ys := ((hl2.extBut hs₁.extBut D.l2z).extBut hs₂ D.l2i1).extBut hs₃.extBut D.l2z
  refine wpAny_bind ?_
  show wpAny _ _ ((forIn [(Value.ref i2, 1)] _ _) >>= _) _ _ _
  simp only [List.forIn_cons, List.forIn_nil]
  refine wpAny_bind (wpAny_bind (wpAny_bind (nextOrEnd_end hh q2 ql hy fun h₄ hs₄ => ?_)))
  simp only [Option.isSome_none, Bool.false_eq_true, if_false]
  refine wpAny_pure (wpAny_pure (wpAny_bind (wpAny_rule (stop_wp hh fun h₅ e k5 he => hE h₅ e (fun c o c1 _ c3 c4 q => k5 _ _ (hs₄ _ _ c4 (hs₃.extBut _ _ c1 (hs₂ _ _ c3 (hs₁.extBut _ _ c1 q))))) he))))
theorem pyNext_zipS_item {z TI TO i1 i2 l1 l2 : Addr} {k1 k2 : Nat} {xs ys : Array Value} {x y a b : Value} {Q : Option Value → Shared → Prop} (D : ZipApart z TI TO i1 i2 l1 l2)
    (hz : ZipS s.heap z TI TO .none) (hTI : IsPair s.heap TI (.ref i1) (.ref i2)) (hTO : IsPair s.heap TO a b) (h1 : s.heap.IsTupleIter i1 l1 k1) (h2 : s.heap.IsTupleIter i2 l2 k2) (hl1 : s.heap.IsTuple l1 xs) (hl2 : s.heap.IsTuple l2 ys) (hx : xs[k1]? = some x) (hy : ys[k2]? = some y)
    (hQ : ∀ h', ZipS h' z TI TO (rawInt s.heap.objs.size) → IsPair h' TO x y → h'.IsTupleIter i1 l1 (k1 + 1) → h'.IsTupleIter i2 l2 (k2 + 1) → IsPair h' s.heap.objs.size x y → h'.objs.size = s.heap.objs.size + 1 → (∀ c o, c ≠ z → c ≠ TO → c ≠ i1 → c ≠ i2 → s.heap.get? c = some o → h'.get? c = some o) → Q (some (.ref s.heap.objs.size)) { s with heap := h' }) :
    wpAny (model prog w) A (pyNext (.ref z)) Q E s := by
  have hT : s.TypeIs (.ref z) "zip" := ⟨_, hz, rfl⟩
  unfold pyNext; exact wpAny_bind (wpAny_attempt (wpAny_callSpecial?_slot (name := Str.ofString "__next__") hT F.slot_zip_next (wpAny_call_entry F.slot_zip_next hT F.entry_zip_next
      (zipS_item D hz hTI hTO h1 h2 hl1 hl2 hx hy fun h' a1 a2 a3 a4 a5 a6 a7 => wpAny_pure (hQ h' a1 a2 a3 a4 a5 a6 a7)) (F.args_zip_next_1 _))))
theorem pyNext_zipS_end {z TI TO i1 i2 l1 l2 : Addr} {k1 k2 : Nat} {xs ys : Array Value} {a b : Value} {Q : Option Value → Shared → Prop} (hh : A.handled = none) (D : ZipApart z TI TO i1 i2 l1 l2)
    (hz : ZipS s.heap z TI TO .none) (hTI : IsPair s.heap TI (.ref i1) (.ref i2)) (hTO : IsPair s.heap TO a b) (h1 : s.heap.IsTupleIter i1 l1 k1) (h2 : s.heap.IsTupleIter i2 l2 k2) (hl1 : s.heap.IsTuple l1 xs) (hl2 : s.heap.IsTuple l2 ys) (hx : xs[k1]? = none) (hy : ys[k2]? = none)
    (hQ : ∀ h', (∀ c o, c ≠ z → c ≠ TO → c ≠ i1 → c ≠ i2 → s.heap.get? c = some o → h'.get? c = some o) → Q none { s with heap := h' }) : wpAny (model prog w) A (pyNext (.ref z)) Q E s := by
  have hT : s.TypeIs (.ref z) "zip" := ⟨_, hz, rfl⟩
  unfold pyNext; refine wpAny_bind (wpAny_attempt (wpAny_callSpecial?_slot (name := Str.ofString "__next__") hT F.slot_zip_next (wpAny_call_entry F.slot_zip_next hT F.entry_zip_next
    (zipS_end hh D hz hTI hTO h1 h2 hl1 hl2 hx hy fun h' e hk he => ?_) (F.args_zip_next_1 _))))
  obtain ⟨o, ho, hc⟩ := he
  exact wpAny_bind (wpAny_isInstance (T := "StopIteration") (b := true) ⟨o, ho, hc⟩ isSubtype_stop (wpAny_pure (hQ _ hk)))
theorem letGo_zipS {elts : List Expr} {x1} {pos : Pos} {z TI TO T : Addr} {Q : Unit → Shared → Prop} (hz : ZipS s.heap z TI TO (rawInt T)) (hQ : ∀ h', ZipS h' z TI TO .none → Heap.SameBut z s.heap h' → Q () { s with heap := h' }) :
    wpAny (model prog w) A (letOwnedTupleGo (.Tuple elts x1 pos) (.ref z) (.ref T)) Q E s := by
  unfold letOwnedTupleGo; refine wpAny_bind (wpAny_load hz ?_)
  show wpAny _ _ (if (["enumerate", "zip", "dict_itemiterator", "dict_reverseitemiterator", "odict_iterator", "itertools.zip_longest", "itertools.pairwise"].contains "zip" && (#[rawInt T, .bool false, .bool true, .ref TI, .ref TO] : Array Value)[0]? == some (rawInt T)) = true then _ else _) Q E s
  rw [if_pos (by simp)]; refine wpAny_bind (wpAny_rule ?_)
  show wpAny _ _ (setField (.ref z) 0 .none) Q E s; exact wpAny_setField_rec hz (by simp) fun h' hz' hs' => hQ h' hz' hs'
theorem pyIter_zipS {z TI TO : Addr} {f0 : Value} {Q : Value → Shared → Prop} (hz : ZipS s.heap z TI TO f0) (h : Q (.ref z) s) : wpAny (model prog w) A (pyIter (.ref z)) Q E s := by
  have hT : s.TypeIs (.ref z) "zip" := ⟨_, hz, rfl⟩
  refine wpAny_pyIter_slot hT F.slot_zip_iter (wpAny_call_entry F.slot_zip_iter hT F.entry_zip_iter ?_ (F.args_zip_iter_1 _))
  show wpAny _ _ (ret (.ref z)) _ _ s; exact wpAny_pure ⟨_, rfl, "zip", _, hT, F.slot_zip_next.lookup, h⟩
/-! a type of the language called with keywords -/
theorem callTypeK_meets {T newId initId : String} {Bn Bi : Builtin} {args : List Value} {kw : List (Str × Value)} {S : Spec} {Q Q₁ : Value → Shared → Prop} (ft : TypeCalled T newId initId)
    (hct : checkTypeCall T ⟨args, kw⟩ = pure ()) (hcn : checkBuiltinCall newId ⟨.type T :: args, kw⟩ = pure ()) (entryN : entryFor table newId = some Bn) (entryI : entryFor table initId = some Bi) (g : Meets (Bn ⟨.type T :: args, kw⟩) S) (h : S A.in1 (wants Q₁ E) s)
    (hnext : ∀ obj s₁, Q₁ obj s₁ → s₁.TypeIs obj T ∧ argsOk initId ⟨obj :: args, kw⟩ ∧ ∃ Si, Meets (Bi ⟨obj :: args, kw⟩) Si ∧ Si A.in1 (wants (fun r s₂ => r = .none ∧ Q obj s₂) E) s₁) :
    wpAny (model prog w) A (call (.type T) args kw) Q E s := by
  obtain ⟨c, tl, hmro⟩ := ft.mro; have hmade := ft.made; have hsub := ft.sub
  refine wpAny_call (codeAny_of_tree ?_); show wpAny _ _ (callAny (.type T) _) _ _ _
  refine wpAny_pure ⟨Code.quiet_builtin _ (by decide +kernel), codeAny_builtin F.entry_type_call ?_⟩
  rw [Around.under_plain (weight_type_call_type T args kw) (units_type_call_type T args kw)]
  have h1 := ft.notType; have h2 := ft.canCreate
  repeat (any_goals (first | assumption | wp_step))
  refine codeAny_mono (codeAny_call_builtin ft.plain entryN (wpAny_of_eq hcn (g prog w A.in1 _ s h))) fun r s₁ hr => ?_
  cases r with
  | error e => exact hr
  | ok fl =>
    cases fl with
    | ret obj =>
      obtain ⟨hT, hok, Si, gi, hsi⟩ := hnext _ _ hr; have hli := ft.init.lookup; have hbi := ft.init.bind obj
      repeat (any_goals (first | assumption | wp_step))
      refine codeAny_mono (codeAny_call_builtin ft.init.plain entryI (ft.init.check _ _ _ _ _ _ _ _ hT hok (gi prog w A.in1 _ s₁ hsi))) fun r₂ s₂ hr₂ => ?_
      cases r₂ with
      | error e => exact hr₂
      | ok fl₂ =>
        cases fl₂ with
        | ret r => obtain ⟨rfl, hq⟩ := hr₂; repeat (any_goals (first | assumption | wp_step))
        | _ => exact hr₂.elim
    | _ => exact hr.elim
theorem object_initK {T newId : String} {self : Value} {rest : List Value} {kw : List (Str × Value)} (hl : typeLookup (.type T) "__init__" = pure (some (.builtin "object.__init__")))
    (hm : Bind.madeBy (.type T) = pure (some newId)) (hne : (some newId != some "object.__new__") = true) : Meets (Builtin.«object.__init__» ⟨self :: rest, kw⟩) (fun _ R s => s.TypeIs self T ∧ R (.ok (.ret .none)) s) := by
  refine Meets.of_wp fun prog w A R s hs => ?_
  obtain ⟨hT, hq⟩ := hs
  cases rest with
  | nil => cases kw with
    | nil => exact wpAny_pure ⟨_, rfl, hq⟩
    | cons a kw => (repeat (any_goals (first | assumption | wp_step))); exact ⟨_, rfl, hq⟩
  | cons a rest => (repeat (any_goals (first | assumption | wp_step))); exact ⟨_, rfl, hq⟩
abbrev kwS : List (Str × Value) := [("strict", .bool true)]
theorem zipK_type (a b : Value) : checkTypeCall "zip" ⟨[a, b], kwS⟩ = pure () := by kernel_rfl
theorem zipK_new (a b : Value) : checkBuiltinCall "zip.__new__" ⟨[.type "zip", a, b], kwS⟩ = pure () := by kernel_rfl
theorem zipK_init (a b c : Value) : argsOk "object.__init__" ⟨[a, b, c], kwS⟩ := by
  unfold argsOk; rw [signature?_of (id := "object.__init__") (n := ['_', '_', 't', 'i', 'n', 'i', '_', '_']) (o := ['t', 'c', 'e', 'j', 'b', 'o']) (by kernel_rfl) F.owner_object]; kernel_rfl
end
abbrev zipSH5 (h : Heap) (l1 l2 : Addr) : Heap := (zipTH4 h l1 l2).push { cls := .type "zip", data := .fields #[.none, .bool false, .bool true, .ref (zipTH2 h l1 l2).objs.size, .ref (zipTH3 h l1 l2).objs.size] }
theorem meets_zipS_new (l1 l2 : Addr) (xs ys : Array Value) :
    Meets (Builtin.«zip.__new__» ⟨[.type "zip", .ref l1, .ref l2], kwS⟩) (fun _ R s => s.heap.IsTuple l1 xs ∧ s.heap.IsTuple l2 ys ∧
      R (.ok (.ret (.ref (zipTH4 s.heap l1 l2).objs.size))) { s with heap := zipSH5 s.heap l1 l2 }) :=
  .of_wp fun prog w A R s h => by
    obtain ⟨hp, g, d, tk, os⟩ := s; obtain ⟨hl1, hl2, h⟩ := h; have hsub := sub_zip
    have hL1 : Heap.IsTuple (Shared.heap ⟨hp, g, d, tk, os⟩) l1 xs := hl1
    have hL2 : Heap.IsTuple (Shared.heap ⟨hp.push { cls := .type "tuple_iterator", data := .fields #[.ref l1, .int 0 0] }, g, d, tk, os⟩) l2 ys := Heap.IsTuple.push hl2 _
    wp_walk using wpAny_pyIter_tuple hL1, wpAny_pyIter_tuple hL2
    exact ⟨_, rfl, h⟩
section
variable {prog : Program} {w : World} {A : Around} {E : Value → Shared → Prop} {s : Shared}
theorem call_zipS {l1 l2 : Addr} {xs ys : Array Value} {Q : Value → Shared → Prop} (hl1 : s.heap.IsTuple l1 xs) (hl2 : s.heap.IsTuple l2 ys)
    (h : ∀ h', ZipS h' (s.heap.objs.size + 4) (s.heap.objs.size + 2) (s.heap.objs.size + 3) .none → IsPair h' (s.heap.objs.size + 2) (.ref s.heap.objs.size) (.ref (s.heap.objs.size + 1)) → IsPair h' (s.heap.objs.size + 3) .none .none → h'.IsTupleIter s.heap.objs.size l1 0 → h'.IsTupleIter (s.heap.objs.size + 1) l2 0 → h'.objs.size = s.heap.objs.size + 5 →
      (∀ c o, s.heap.get? c = some o → h'.get? c = some o) → Q (.ref (s.heap.objs.size + 4)) { s with heap := h' }) :
    wpAny (model prog w) A (call (.type "zip") [.ref l1, .ref l2] kwS) Q E s := by
  refine callTypeK_meets F.called_zip (zipK_type _ _) (zipK_new _ _) F.entry_zip_new F.entry_object_init (meets_zipS_new l1 l2 xs ys) (Q₁ := fun obj s₁ => s₁.TypeIs obj "zip" ∧ Q obj s₁) ⟨hl1, hl2, ?_⟩
    fun obj _ hq => ⟨hq.1, zipK_init obj _ _, _, object_initK F.called_zip.init.lookup F.called_zip.made (by decide), hq.1, rfl, hq.2⟩
  have z1 : (zipTH1 s.heap l1).objs.size = s.heap.objs.size + 1 := Heap.size_push ..
  have z2 : (zipTH2 s.heap l1 l2).objs.size = s.heap.objs.size + 2 := by rw [Heap.size_push, z1]
  have z3 : (zipTH3 s.heap l1 l2).objs.size = s.heap.objs.size + 3 := by rw [Heap.size_push, z2]
  have z4 : (zipTH4 s.heap l1 l2).objs.size = s.heap.objs.size + 4 := by rw [Heap.size_push, z3]
  have z5 : (zipSH5 s.heap l1 l2).objs.size = s.heap.objs.size + 5 := by rw [Heap.size_push, z4]
  have g5 : (zipSH5 s.heap l1 l2).get? (zipTH4 s.heap l1 l2).objs.size = some _ := Heap.get?_push_size _ rfl
  have g4 : (zipSH5 s.heap l1 l2).get? (zipTH3 s.heap l1 l2).objs.size = some _ := Heap.get?_push_of_some _ (Heap.get?_push_size _ rfl)
  have g3 : (zipSH5 s.heap l1 l2).get? (zipTH2 s.heap l1 l2).objs.size = some _ := Heap.get?_push_of_some _ (Heap.get?_push_of_some _ (Heap.get?_push_size _ rfl))
  have g2 : (zipSH5 s.heap l1 l2).get? (zipTH1 s.heap l1).objs.size = some _ := Heap.get?_push_of_some _ (Heap.get?_push_of_some _ (Heap.get?_push_of_some _ (Heap.get?_push_size _ rfl)))
  have g1 : (zipSH5 s.heap l1 l2).get? s.heap.objs.size = some _ := Heap.get?_push_of_some _ (Heap.get?_push_of_some _ (Heap.get?_push_of_some _ (Heap.get?_push_of_some _ (Heap.get?_push_size _ rfl))))
  show _ ∧ _; rw [z2, z3, z4] at g5; rw [z1, z2] at g3; rw [z3] at g4; rw [z1] at g2; rw [z4]
  exact ⟨⟨_, g5, rfl⟩, h _ g5 g3 g4 ⟨_, g1, rfl, rfl⟩ ⟨_, g2, rfl, rfl⟩ z5 fun c o x => Heap.get?_push_of_some _ (Heap.get?_push_of_some _ (Heap.get?_push_of_some _ (Heap.get?_push_of_some _ (Heap.get?_push_of_some _ x))))⟩
/-! first, *rest = a tuple -/
theorem star_unp {l : Addr} {x : Value} {r : List Value} {Q : List Value → Shared → Prop} (hl : IsTup s.heap l (x :: r).toArray) (hh : A.handled = none) (hz : (x :: r).length ≤ sizeLine)
    (h : ∀ h' tk, (∀ b o, s.heap.get? b = some o → h'.get? b = some o) → wpAny (model prog w) A (newList r) (fun d s' => Q [x, d] s') E { s with heap := h', toks := tk }) : wpAny (model prog w) A (unpackItems (.ref l) 2 (some 1)) Q E s := by
  have hlt : l ≠ s.heap.objs.size := by obtain ⟨o, ho, _⟩ := hl; exact Nat.ne_of_lt (Heap.lt_size ho)
  unfold unpackItems notIterableAtAll
  refine wpAny_bind (wpAny_bind (wpAny_specialOf hl.typeIs slot_tuple_iter.lookup (wpAny_pure ?_))); simp only [Bool.false_eq_true, if_false]
  refine wpAny_bind (wpAny_holding (iter_tuple hl (wpAny_bind (wpAny_holding (draw_tuple hlt 1 0 _ _ ⟨_, Heap.get?_push_size _ rfl, rfl, rfl⟩ (hl.push _) (by simp) fun h₁ hit₁ hs₁ => ?_)))))
  have hl₁ : IsTup h₁ l (x :: r).toArray := (hl.push _).extBut hs₁.extBut hlt
  obtain ⟨oi, hoi, _⟩ := id hit₁; obtain ⟨ol, hol, _⟩ := id hl₁
  rw [List.drop_zero]; show wpAny _ _ (if [x].length < 1 then _ else _) _ _ _; rw [if_neg (by simp)]
  refine wpAny_bind (wpAny_holding (PySem.W.kun_collect (s := { s with heap := h₁ }) (T := "tuple_iterator") (.inr (.inr (.inr rfl))) (Walks.tuple (A := A.in1) hh s.heap.objs.size l hlt (x :: r).toArray) (fun j u st => st.1.typeIs) (k := 1) (by simp) ⟨hit₁, hl₁⟩ (Heap.lt_size hoi) (Heap.lt_size hol) (fun h₂ tk hk => ?_) (by simpa using hz)))
  have he : ∀ b o, s.heap.get? b = some o → h₂.get? b = some o := fun b o e => by
    have hb : b ≠ s.heap.objs.size := Nat.ne_of_lt (Heap.lt_size e)
    exact hk b o hb (hs₁.extBut b o hb (Heap.get?_push_of_some _ e))
  show wpAny _ _ (if r.length < 0 then _ else _) _ _ _; rw [if_neg (Nat.not_lt_zero _)]
  show wpAny _ _ (newList (r.take (r.length - 0)) >>= fun d => pure ([x] ++ [d] ++ r.drop (r.length - 0))) _ _ _
  rw [Nat.sub_zero, List.take_length, List.drop_length]
  exact wpAny_bind (wpAny_mono (h h₂ tk he) (fun d s' q => wpAny_pure q) fun _ _ e => e)
end
end Pz

/-! Pv26: a loop over zip(a, b, strict=True) of two tuples of one length; first, *rest = a tuple. -/
namespace Pv
open PySem PySem.Spec PyProof.Rows L2
open Pz
/-- the two tuples as they stand at each turn; both end at once -/
def ItzS (K : Fg) (a b : Addr) : It :=
  ⟨fun i H => ∃ (xs ys : List V) (x y : V), SqT K H a xs ∧ SqT K H b ys ∧ xs[i]? = some x ∧ ys[i]? = some y, fun i H v H' => ∃ T x y, v = .ref T ∧ H T = none ∧ H' = upd H T (.tup [x, y]) ∧ (∀ xs, SqT K H a xs → xs[i]? = some x) ∧ ∀ ys, SqT K H b ys → ys[i]? = some y, fun i H => ∃ xs ys : List V, SqT K H a xs ∧ SqT K H b ys ∧ xs.length ≤ i ∧ ys.length ≤ i⟩
theorem five {c z TI TO i1 i2 : Addr} (h : c ∈ [z, TI, TO, i1, i2]) : c = z ∨ c = TI ∨ c = TO ∨ c = i1 ∨ c = i2 := by simpa using h
theorem turn_zipS {P : Program} {w : World} {K : Fg} {elts : List Expr} {kk : Nat} {tpos : Pos} {a b z TI TO i1 i2 : Addr} (D : ZipApart z TI TO i1 i2 a b) :
    Turn P w K (.Tuple elts kk tpos) (ItzS K a b) [z, TI, TO, i1, i2] z (fun i h => ZipS h z TI TO .none ∧ IsPair h TI (.ref i1) (.ref i2) ∧ (∃ x y, IsPair h TO x y) ∧ h.IsTupleIter i1 a i ∧ h.IsTupleIter i2 b i) where
  mem := by simp
  obj := fun i h st c hc => by
    obtain ⟨hz, hTI, ⟨x, y, hTO⟩, ⟨o1, e1, _, d1⟩, ⟨o2, e2, _, d2⟩⟩ := st
    rcases five hc with q | q | q | q | q <;> rw [q]
    · exact ⟨_, hz, fun v q => nomatch q⟩
    · exact ⟨_, hTI, fun v q => nomatch q⟩
    · exact ⟨_, hTO, fun v q => nomatch q⟩
    · exact ⟨o1, e1, fun v q => by rw [d1] at q; cases q⟩
    · exact ⟨o2, e2, fun v q => by rw [d2] at q; cases q⟩
  keep := fun i h h' st k => by
    obtain ⟨hz, hTI, ⟨x, y, hTO⟩, h1, h2⟩ := st
    exact ⟨k z (by simp) _ hz, k TI (by simp) _ hTI, ⟨x, y, k TO (by simp) _ hTO⟩, h1.at fun o q => k i1 (by simp) o q, h2.at fun o q => k i2 (by simp) o q⟩
  item := by
    intro X hP hw hK hc i pins s σ H E I hf st hg
    subst hP hw hK
    obtain ⟨hz, hTI, ⟨x0, y0, hTO⟩, h1, h2⟩ := st
    obtain ⟨xs, ys, x, y, hqx, hqy, hx, hy⟩ := hg
    obtain ⟨its, rv, p, _⟩ := I.tuple hqx; obtain ⟨its2, rv2, p2, _⟩ := I.tuple hqy
    obtain ⟨u, hu, ru⟩ := rv.get hx; obtain ⟨u2, hu2, ru2⟩ := rv2.get hy
    have hzl : z < s.heap.objs.size := Heap.lt_size hz
    refine pyNext_zipS_item D hz hTI hTO h1 h2 p p2 (x := u) (y := u2) (by simpa using hu) (by simpa using hu2) fun h' z' TO' h1' h2' hT hsz hk => ⟨_, rfl, letGo_zipS (s := { s with heap := h' }) z' fun h'' z'' sb => ?_⟩
    have hT2 : h''.get? s.heap.objs.size = some { cls := .type "tuple", data := .seq #[u, u2] } := (sb.2 _ (Nat.ne_of_gt hzl)).trans hT
    have new : ObjOk X.prog X.w (upd H s.heap.objs.size (.tup [x, y])) h'' s.heap.objs.size (.tup [x, y]) := ⟨by show 2 ≤ sizeLine; decide, [u, u2], .cons ru (.cons ru2 .nil), ⟨_, hT2, rfl, _, rfl⟩⟩
    have I1 : Inv X pins σ (upd H s.heap.objs.size (.tup [x, y])) { s with heap := h'' } :=
      I.turnedNew (t' := s.toks) (ch := [z, TI, TO, i1, i2]) (fun c o hb q => (sb.2 c (fun q' => hb (by simp [q']))).trans (hk c o (fun q' => hb (by simp [q'])) (fun q' => hb (by simp [q'])) (fun q' => hb (by simp [q'])) (fun q' => hb (by simp [q'])) q)) hf (Nat.le_refl _) new
    refine ⟨.ref s.heap.objs.size, _, I1, rfl, ⟨_, x, y, rfl, I.hok.fresh (Nat.le_refl _), rfl, fun l hl => by rw [I.tuple_inj hl hqx]; exact hx, fun l hl => by rw [I.tuple_inj hl hqy]; exact hy⟩, ⟨z'', ?_, ⟨u, u2, ?_⟩, ?_, ?_⟩, fun c hcm => ?_⟩
    · exact (sb.2 _ D.TIz).trans (hk _ _ D.TIz D.TITO D.TIi1 D.TIi2 hTI)
    · exact (sb.2 _ D.TOz).trans TO'
    · exact h1'.at fun o q => (sb.2 _ D.i1z).trans q
    · exact h2'.at fun o q => (sb.2 _ D.i2z).trans q
    · have hlt : c < s.heap.objs.size := by
        rcases five hcm with q | q | q | q | q <;> rw [q]
        · exact hzl
        · exact Heap.lt_size hTI
        · exact Heap.lt_size hTO
        · obtain ⟨_, e1, _⟩ := h1; exact Heap.lt_size e1
        · obtain ⟨_, e2, _⟩ := h2; exact Heap.lt_size e2
      rw [upd_ne (Nat.ne_of_lt hlt)]; exact (hf c hcm).1
  done := by
    intro X hP hw hK hc i pins s σ H E I hf st hg
    subst hP hw hK
    obtain ⟨hz, hTI, ⟨x0, y0, hTO⟩, h1, h2⟩ := st
    obtain ⟨xs, ys, hqx, hqy, he1, he2⟩ := hg
    obtain ⟨its, rv, p, _⟩ := I.tuple hqx; obtain ⟨its2, rv2, p2, _⟩ := I.tuple hqy
    have l1 := rv.length; have l2 := rv2.length
    exact pyNext_zipS_end (I.ok.hd hc) D hz hTI hTO h1 h2 p p2 (by simp; omega) (by simp; omega) fun h' hk => ⟨rfl, I.turnedL (t' := s.toks) (ch := [z, TI, TO, i1, i2]) (fun c o hb q =>
      hk c o (fun q' => hb (by simp [q'])) (fun q' => hb (by simp [q'])) (fun q' => hb (by simp [q'])) (fun q' => hb (by simp [q'])) q) hf⟩
  self := fun A i s Q E st h => pyIter_zipS st.1 h
section
variable {M : Model} {A : Around} {E : Value → Shared → Prop} {s : Shared} {env : PySem.Env}
theorem callWith_typeK {pos : Pos} {T : String} {e : Expr} {rest : List Expr} {kws : List Keyword} {Q : Value → Shared → Prop}
    (h : wpAny M A (spliced (backTo pos (starEach (e :: rest) env))) (fun vs s₁ => wpAny M A (evalAll ((backToKw pos (keywordEach kws env)).map (·.2))) (fun kvs s₂ => wpAny M A (call (.type T) vs (((backToKw pos (keywordEach kws env)).filterMap (·.1)).zip kvs)) Q E s₂) E s₁) E s)
    (he : backTo pos (starEach (e :: rest) env) = (false, eval e env) :: backTo pos (starEach rest env) := by rfl) (hplain : (backTo pos (starEach (e :: rest) env)).any (·.1) = false := by rfl)
    (hall : (backToKw pos (keywordEach kws env)).all (·.1.isSome) = true := by rfl) (hkw : (backToKw pos (keywordEach kws env)).any (·.1.isNone) = false := by rfl) :
    wpAny M A (callWith pos (.type T) [] (backTo pos (starEach (e :: rest) env)) (backToKw pos (keywordEach kws env))) Q E s := by
  unfold callWith
  have h2 : wpAny M A (evalArgs (.type T) true (backTo pos (starEach (e :: rest) env)) (backToKw pos (keywordEach kws env))) (fun a s₁ => wpAny M A (call (.type T) ([] ++ a.pos) a.kw) Q E s₁) E s := by
    rw [he] at h ⊢; exact evalArgs_kwB hall h
  refine wpAny_bind (wpAny_holding (wpAny_mono h2 (fun a s₁ h₁ => wpAny_bind (wpAny_standAt ?_)) fun _ _ x => x))
  simp only [hplain, hkw, Bool.or_false]; refine wpAny_bind (wpAny_pure ?_)
  exact wpAny_bind (wpAny_mono h₁ (fun r s₂ hr => wpAny_bind (wpAny_holding (wpAny_point (wpAny_pure hr)))) fun _ _ x => x)
end
def iZipS (K : Fg) (ta : TA) : TI := fun σ H R => ta σ H fun vs H1 => ∃ a b xs ys, vs = [.ref a, .ref b] ∧ SqT K H1 a xs ∧ SqT K H1 b ys ∧ R (ItzS K a b) H1
theorem pi_zipS {X : Cx} {e e2 : Expr} {ta : TA} {p pos tpos kp cp : Pos} {elts : List Expr} {kk ck : Nat} (hg : Gl X "zip") (hm : X.mg "zip" = none) (ha : PA X [e, e2] ta)
    (he : backTo pos (starEach [e, e2] X.env) = (false, eval e X.env) :: backTo pos (starEach [e2] X.env) := by rfl) (hpl : (backTo pos (starEach [e, e2] X.env)).any (·.1) = false := by rfl) :
    PI X (.Tuple elts kk tpos) (.Call (.Name "zip" p) [e, e2] [⟨some "strict", .Constant (.bool true) ck cp, kp⟩] pos) (iZipS X.K ta) := by
  refine ⟨fun pins s σ H R I h => ?_⟩
  refine wpAny_Call_Name_kw (ld_blt I hg hm PyProof.Rows.boot_zip (callWith_typeK (thn (ha.run pos pins s σ H _ I h) fun us s1 ⟨vs, H1, I1, r1, q1⟩ => kws_cons (Constant_bool (kws_nil ?_))) he hpl))
  obtain ⟨a, b, xs, ys, ex, hqx, hqy, q⟩ := q1
  subst ex
  cases r1 with
  | cons r rr =>
    cases rr with
    | cons r' rr =>
      cases rr; cases r; cases r'
      have fresh5 : ∀ c, c ∈ [s1.heap.objs.size + 4, s1.heap.objs.size + 2, s1.heap.objs.size + 3, s1.heap.objs.size, s1.heap.objs.size + 1] → FpOk X pins H1 c := fun c hcm => by
        have hle : s1.heap.objs.size ≤ c := by rcases five hcm with z | z | z | z | z <;> rw [z] <;> first | exact Nat.le_refl _ | exact Nat.le_add_right _ _
        exact I1.fpOk hle (I1.hok.fresh hle)
      obtain ⟨its, rv, p1, _⟩ := I1.tuple hqx; obtain ⟨its2, rv2, p2, _⟩ := I1.tuple hqy
      obtain ⟨o1, ho1, _⟩ := id p1; obtain ⟨o2, ho2, _⟩ := id p2
      refine call_zipS (show s1.heap.IsTuple a its.toArray from p1) (show s1.heap.IsTuple b its2.toArray from p2) fun h' hz hTI hTO h1 h2 hsz hk => pyIter_zipS hz ?_
      have I2 : Inv X pins σ H1 { s1 with heap := h' } := I1.kept (t' := s1.toks) hk
      exact ⟨s1.heap.objs.size + 4, [s1.heap.objs.size + 4, s1.heap.objs.size + 2, s1.heap.objs.size + 3, s1.heap.objs.size, s1.heap.objs.size + 1], _, _, H1, rfl, I2, turn_zipS (PySem.W.ktu_apart s1.heap.objs.size a b (Heap.lt_size ho1) (Heap.lt_size ho2)), ⟨hz, hTI, ⟨_, _, hTO⟩, h1, h2⟩, fresh5, q⟩
/-! over data -/
def zipE : List D → List D → Option (List D)
  | [], [] => some []
  | d :: ds, e :: es => match zipE ds es with
    | some r => some (.tuple [d, e] :: r)
    | none => none
  | _, _ => none
theorem zipE_get : ∀ {ds es xs : List D}, zipE ds es = some xs → ds.length = xs.length ∧ es.length = xs.length ∧ ∀ (i : Nat) (c : D), xs[i]? = some c → ∃ d e, ds[i]? = some d ∧ es[i]? = some e ∧ c = .tuple [d, e]
  | [], [], _, h => by cases h; exact ⟨rfl, rfl, fun i c h => by simp at h⟩
  | [], _ :: _, _, h => by cases h
  | _ :: _, [], _, h => by cases h
  | d :: ds, e :: es, xs, h => by
    unfold zipE at h
    cases hr : zipE ds es with
    | none => rw [hr] at h; cases h
    | some r =>
      rw [hr] at h; cases h
      obtain ⟨h1, h2, h3⟩ := zipE_get hr
      refine ⟨congrArg (· + 1) h1, congrArg (· + 1) h2, fun i c hc => ?_⟩
      cases i with
      | zero => cases hc; exact ⟨d, e, rfl, rfl, rfl⟩
      | succ i => exact h3 i c (by simpa using hc)
def overZipS (P : List D → Prop) : D → D → Prop
  | .tuple ds, .tuple es => match zipE ds es with
    | some xs => P xs
    | none => False
  | _, _ => False
def fZipS (fa : FA) : FI := fun env R => fa env fun rs e => noB rs ∧ match rs with
  | [r, r'] => ovr2 (overZipS fun ds => R (.v 0 .none) ds e) r.d r'.d
  | _ => False
theorem overZipS_ex {P : List D → Prop} {ds es : List D} (h : overZipS P (.tuple ds) (.tuple es)) : ∃ xs, zipE ds es = some xs ∧ P xs := by
  unfold overZipS at h
  cases e : zipE ds es with
  | none => simp only [e] at h
  | some xs => simp only [e] at h; exact ⟨xs, rfl, h⟩
section
variable {X : Cx} {K : Fg} {σ : Sg} {ω : Om} {H : Hp}
theorem iters_zipS {a b : Addr} {vs ws : List V} {ds es xs : List D} (hx : zipE ds es = some xs) (h : SU K ω H a vs) (hp : RpAll K ω H vs ds) (h' : SU K ω H b ws) (hp' : RpAll K ω H ws es) : Iters K σ ω H (ItzS K a b) (.v 0 .none) xs := by
  intro ω1 H1 env1 σ1 rel g _ _ i
  obtain ⟨x1, x2, x3⟩ := zipE_get hx
  have hs : SqT K H1 a vs := (h.sh g).seq; have hs' : SqT K H1 b ws := (h'.sh g).seq
  have hp1 := RpAll.sh g _ _ hp; have hp2 := RpAll.sh g _ _ hp'
  refine ⟨fun c hc => ?_, fun hl => ⟨vs, ws, hs, hs', by rw [hp.length, x1]; exact hl, by rw [hp'.length, x2]; exact hl⟩⟩
  obtain ⟨d, e, hd, he, rfl⟩ := x3 i c hc
  obtain ⟨v, hv, rv⟩ := hp1.at_ hd; obtain ⟨u, hu, ru⟩ := hp2.at_ he
  refine ⟨⟨vs, ws, v, u, hs, hs', hv, hu⟩, fun x H2 y => ?_⟩
  obtain ⟨T, p, q, y1, y2, y3, y4, y5⟩ := y
  subst y1 y3
  have e1 := y4 vs hs; rw [hv] at e1; cases e1
  have e2 := y5 ws hs'; rw [hu] at e2; cases e2
  exact new_pair y2 rv ru
theorem si_zipS {elts : List Expr} {kk ck : Nat} {tpos kp cp : Pos} {a b : Expr} {fa : FA} {p pos : Pos} (hm : X.mg "zip" = none) (ha : SA X [a, b] fa) (hg : Gl X "zip" := by rfl)
    (he : backTo pos (starEach [a, b] X.env) = (false, eval a X.env) :: backTo pos (starEach [b] X.env) := by rfl) (hpl : (backTo pos (starEach [a, b] X.env)).any (·.1) = false := by rfl) : SI X (.Tuple elts kk tpos) (.Call (.Name "zip" p) [a, b] [⟨some "strict", .Constant (.bool true) ck cp, kp⟩] pos) (fZipS fa) := by
  obtain ⟨t, p, s⟩ := ha.ex
  refine ⟨_, pi_zipS hg hm p he hpl, fun ω T env σ H R Q rel fr hR q => ?_⟩
  refine s ω T env σ H _ _ rel fr hR fun vs H1 ω1 e1 rs rel1 st1 fr1 rr1 h1 => ?_
  obtain ⟨nb, h1⟩ := h1
  match rs, nb, h1, rr1 with
  | [.v k d, .v k' d'], nb, h1, rr1 =>
    obtain ⟨v, v', rfl, hv, hv'⟩ := (rr1.gc (T0 := T) rel1 (Nat.le_refl _)).two
    have rp : Rp X.K (gc T ω1) H1 v d := hv
    have rp' : Rp X.K (gc T ω1) H1 v' d' := hv'
    have h2 : overZipS (fun ds => R (.v 0 .none) ds e1) d d' := ovr2_cl h1
    cases d <;> cases d' <;> first
      | exact h2.elim
      | skip
    obtain ⟨xs, hx, h3⟩ := overZipS_ex h2
    cases rp with
    | tup hs hp =>
      cases rp' with
      | tup hs' hp' => exact ⟨_, _, _, _, rfl, hs.seq, hs'.seq, q _ H1 (gc T ω1) e1 _ _ (rel1.gc T) (st1.gc fr) gc_free (iters_zipS hx hs hp hs' hp') trivial h3⟩
end
end Pv

/-! Pv27: first, *rest = a tuple, at the level of data. -/
namespace Pv
open PySem PySem.Spec PyProof.Rows L2
open Pz
def gStar (K : Fg) (i j : Nat) : TG := fun v σ H Q => ∃ a x xs, v = .ref a ∧ SqT K H a (x :: xs) ∧ ∀ p, H p = none → Q ((σ.set i (some x)).set j (some (.ref p))) (upd H p (.lst xs))
theorem pg_star {X : Cx} {i j : Nat} {x y : Str} {px py ps pos : Pos} {k : Nat} (hc : X.calm = true) (hN : X.N.Nodup) (hi : X.N[i]? = some x) (hj : X.N[j]? = some y) (hx : Loc X.env.scope x) (hy : Loc X.env.scope y)
    (hfx : X.fn x = true ∨ X.env.scope.names.lookup x = some .local) (hfy : X.fn y = true ∨ X.env.scope.names.lookup y = some .local) : PG X (.Tuple [.Name x px, .Starred (.Name y py) ps] k pos) (gStar X.K i j) := by
  refine ⟨fun pins s σ H v u Q I r hw => ?_⟩
  obtain ⟨a, x1, xs, e1, hq, hw⟩ := hw
  subst e1
  cases r
  obtain ⟨its, rv, ht, hz⟩ := I.tuple hq
  cases rv with
  | cons r1 rr =>
    rename_i v1 vs1
    rw [assign_Tuple]
    refine wpAny_bind (wpAny_standAt ?_)
    unfold unpack
    refine wpAny_bind (wpAny_holding (star_unp (Q := fun vs s' => wpAny (model X.prog X.w) X.A (assignInOrder ((assignEach [.Name x px, .Starred (.Name y py) ps] X.env).map (·.2)) vs) (fun _ s' => ∃ σ' H', Inv X pins σ' H' s' ∧ Q σ' H') X.xe s') ht (I.ok.hd hc) (by rw [List.length_cons, ← rr.length]; exact hz) fun h' tk hk => ?_))
    have I1 : Inv X pins σ H { s with heap := h', toks := tk } := I.kept (t' := tk) hk
    have hz2 : vs1.length ≤ sizeLine := by rw [← rr.length]; exact Nat.le_of_succ_le hz
    have hf : H h'.objs.size = none := I1.hok.fresh (Nat.le_refl _)
    refine PySem.wpAny_newList ?_ hz2
    have I2 : Inv X pins σ (upd H h'.objs.size (.lst xs)) { s with heap := h'.push { cls := .type "list", data := .seq vs1.toArray }, toks := tk } :=
      I1.laid (t' := tk) (fun b u e => Heap.get?_push_of_some _ e) (Nat.le_refl _) ⟨by rw [rr.length]; exact hz2, vs1, 0, rr, Heap.get?_push_size _ rfl⟩
    refine assignInOrder_cons (wpAny_assign_Name (store_ok I2 hN hi hx r1 (fun s3 I3 => ?_) hfx))
    exact assignInOrder_cons (wpAny_assign_Name (store_ok I3 hN hj hy (v := .ref h'.objs.size) rfl (fun s4 I4 => assignInOrder_nil ⟨_, _, I4, hw _ hf⟩) hfy))
def starD (P : D → List D → Prop) : D → Prop
  | .tuple (d :: ds) => P d ds
  | _ => False
def fStar (i j : Nat) (fa : FE) : FS := fun env k => fa env fun r e => noB [r] ∧ ovr (starD fun d ds => k.nx ((e.set i (some (sh d))).set j (some (sh (.list ds))))) r.d
section
variable {X : Cx} {io : Nat → Bool} {e : Expr} {fa : FE} {x y : Str} {px py ps tp pos : Pos} {k : Nat}
theorem starD_ex {P : D → List D → Prop} {d : D} (h : starD P d) : ∃ c ds, d = .tuple (c :: ds) ∧ P c ds := by
  match d, h with
  | .tuple (c :: ds), h => exact ⟨c, ds, rfl, h⟩
theorem ss_star (i j : Nat) (hc : X.calm = true) (hN : X.N.Nodup) (ha : SE X e fa) (hi : X.N[i]? = some x := by rfl) (hj : X.N[j]? = some y := by rfl) (hx : Loc X.env.scope x := by first | exact Or.inl rfl | exact Or.inr rfl) (hy : Loc X.env.scope y := by first | exact Or.inl rfl | exact Or.inr rfl)
    (hio : io i = false := by decide) (hjo : io j = false := by decide) (hfx : X.fn x = true ∨ X.env.scope.names.lookup x = some .local := by first | exact .inl rfl | exact .inr rfl | assumption) (hfy : X.fn y = true ∨ X.env.scope.names.lookup y = some .local := by first | exact .inl rfl | exact .inr rfl | assumption)
    (hs : swapsWithSole [.Tuple [.Name x px, .Starred (.Name y py) ps] k tp] e pos.line X.env = pure false := by rfl) (hw : swappedStores [.Tuple [.Name x px, .Starred (.Name y py) ps] k tp] e X.env = pure none := by rfl)
    (h1 : (assignEach [.Tuple [.Name x px, .Starred (.Name y py) ps] k tp] X.env).map (·.2) = [assign (.Tuple [.Name x px, .Starred (.Name y py) ps] k tp) X.env] := by rfl) :
    SSt X io (.Assign [.Tuple [.Name x px, .Starred (.Name y py) ps] k tp] e pos) (fStar i j fa) := by
  obtain ⟨t, p, s⟩ := ha.ex
  refine ⟨_, ps_asg p (pg_star hc hN hi hj hx hy hfx hfy) hs hw h1, fun ω env σ H E kt rel fr hf kr => ?_⟩
  refine s ω 0 env σ H _ _ rel fr hf fun v H1 ω1 e1 r rel1 st1 fr1 rr1 h1 => ?_
  obtain ⟨nb, h1⟩ := h1
  obtain ⟨c, ds, ed, hk⟩ := starD_ex (ovr_cl h1)
  cases r with
  | b _ _ _ => exact nb.elim
  | v n d =>
    have ed : d = .tuple (c :: ds) := ed
    subst ed
    have rp : Rp X.K (gc 0 ω1) H1 v (.tuple (c :: ds)) := rr1.gc rel1 (Nat.le_refl _)
    obtain ⟨a, vs, rfl, hs1, ha1⟩ := rp.tup_
    cases ha1 with
    | cons r1 r2 =>
      rename_i w ws
      refine ⟨a, w, ws, rfl, hs1, fun q hq => ?_⟩
      have g : Grow (gc 0 ω1) H1 (putO q .shr (gc 0 ω1)) (upd H1 q (.lst ws)) := put_grow hq
      have rl : Rel X.K (putO q .shr (gc 0 ω1)) e1 σ (upd H1 q (.lst ws)) := (rel1.gc 0).grow g
      have q1 := rl.put (i := i) (c := sh c) (Rp.sh g.step.sh _ _ r1)
      have q2 := q1.put (i := j) (c := sh (.list ds)) (v := .ref q) (Rp.lst ⟨upd_same, putO_same⟩ (RpAll.sh g.step.sh _ _ r2))
      refine kr.nx _ _ (putO q .shr (gc 0 ω1)) _ q2 ((st1.gc fr).grow g) (fun b t l z => ?_) ((Keep.set hio).trans (Keep.set hjo)) hk
      by_cases hb : b = q
      · subst hb; rw [putO_same] at z; cases z
      · rw [putO_ne hb] at z; exact gc_free b t l z
end
end Pv

/-! Vh: what the contracts of the laws' defs share. -/
namespace Lw
open PySem PySem.Spec PyProof.Rows L2 Pv
/-- the box: a number to be taken apart, a seed, a count -/
def bx (a b c : Int) : Cell := ow (.list [.int a, .int b, .int c])
def Bx (n : Nat) (x : Cell) : Prop := ∃ a b c : Int, x = bx a b c ∧ 0 ≤ a ∧ 0 ≤ b ∧ b < 2 ^ 62 ∧ 0 ≤ c ∧ c ≤ n
theorem Bx.mono {m n : Nat} {x : Cell} (h : Bx m x) (e : m ≤ n) : Bx n x := by
  obtain ⟨a, b, c, h1, h2, h3, h4, h5, h6⟩ := h
  exact ⟨a, b, c, h1, h2, h3, h4, h5, by omega⟩
/-- a box is a slot's own list -/
theorem Bx.ex {n : Nat} {x : Cell} (h : Bx n x) : ∃ d, x = ⟨1, d⟩ := by
  obtain ⟨a, b, c, h1, _⟩ := h
  exact ⟨_, h1⟩
theorem cmr {i j : Int} (h : -(2 ^ 64) < j) (h2 : j < 2 ^ 64) : CMul i j := .inr ⟨h, h2⟩
theorem cml {i j : Int} (h : -(2 ^ 64) < i) (h2 : i < 2 ^ 64) : CMul i j := .inl ⟨h, h2⟩
theorem cdv {i j : Int} (h : 0 < j) (h2 : j < 2 ^ 62) : CDivW i j := wide_div (b := 62) h (by omega) (by decide) (by decide)
/-! ### data of so many levels, no dict in it -/
def leafD (d : D) : Bool := flatD d && d.canLay0
def dep : Nat → D → Bool
  | 0, d => leafD d
  | n + 1, .list ds => ds.all (dep n)
  | n + 1, .tuple ds => ds.all (dep n)
  | _ + 1, d => leafD d
theorem depAll_le : ∀ (n : Nat) (ds : List D), (∀ d ∈ ds, d.canLay0 = true ∧ d.depth ≤ n) → PyData.canLayAll0 ds = true ∧ PyData.depthAll ds ≤ n
  | _, [], _ => ⟨rfl, Nat.zero_le _⟩
  | n, d :: ds, h => by
    obtain ⟨h1, h2⟩ := h d List.mem_cons_self
    obtain ⟨h3, h4⟩ := depAll_le n ds fun e he => h e (List.mem_cons_of_mem _ he)
    refine ⟨by simp [PyData.canLayAll0, h1, h3], ?_⟩
    show max d.depth (PyData.depthAll ds) ≤ n
    omega
theorem dep_ok : ∀ (n : Nat) (d : D), dep n d = true → d.canLay0 = true ∧ d.depth ≤ n
  | 0, d, h => ⟨(Bool.and_eq_true_iff.mp h).2, by cases d <;> first | exact Nat.le_refl _ | cases h⟩
  | n + 1, .list ds, h => by
    obtain ⟨h1, h2⟩ := depAll_le n ds fun d hd => dep_ok n d (List.all_eq_true.mp h d hd)
    exact ⟨by simpa [PyData.canLay0] using h1, by show PyData.depthAll ds + 1 ≤ n + 1; omega⟩
  | n + 1, .tuple ds, h => by
    obtain ⟨h1, h2⟩ := depAll_le n ds fun d hd => dep_ok n d (List.all_eq_true.mp h d hd)
    exact ⟨by simpa [PyData.canLay0] using h1, by show PyData.depthAll ds + 1 ≤ n + 1; omega⟩
  | n + 1, .none, _ => ⟨rfl, Nat.zero_le _⟩
  | n + 1, .bool _, _ => ⟨rfl, Nat.zero_le _⟩
  | n + 1, .int _, _ => ⟨rfl, Nat.zero_le _⟩
  | n + 1, .str x, h => ⟨(Bool.and_eq_true_iff.mp (show (flatD (.str x) && (PyData.str x).canLay0) = true from h)).2, Nat.zero_le _⟩
  | n + 1, .dict _, h => by cases h
theorem dep_shp {n : Nat} {d : D} (h : dep n d = true) (hn : n ≤ 64) : shp d := by
  obtain ⟨h1, h2⟩ := dep_ok n d h
  show (d.canLay0 && decide (d.depth ≤ 64)) = true
  rw [h1, decide_eq_true (Nat.le_trans h2 hn)]
  rfl
theorem eqvAll_self : ∀ (ds : List D), (∀ d ∈ ds, PyData.eqv d d = true) → PyData.eqvAll ds ds = true
  | [], _ => rfl
  | d :: ds, h => by
    show (PyData.eqv d d && PyData.eqvAll ds ds) = true
    rw [h d List.mem_cons_self, eqvAll_self ds fun e he => h e (List.mem_cons_of_mem _ he)]
    rfl
theorem eqv_self : ∀ (n : Nat) (d : D), dep n d = true → PyData.eqv d d = true
  | 0, d, h => by cases d <;> first | (cases h; done) | simp [PyData.eqv]
  | n + 1, .list ds, h => eqvAll_self ds fun d hd => eqv_self n d (List.all_eq_true.mp h d hd)
  | n + 1, .tuple ds, h => eqvAll_self ds fun d hd => eqv_self n d (List.all_eq_true.mp h d hd)
  | n + 1, .none, _ => rfl
  | n + 1, .bool _, _ => by simp [PyData.eqv]
  | n + 1, .int _, _ => by simp [PyData.eqv]
  | n + 1, .str _, _ => by simp [PyData.eqv]
  | n + 1, .dict _, h => by cases h
/-- no bools, no dicts: == is being the same -/
def nob : Nat → D → Bool
  | 0, d => match d with | .none => true | .int _ => true | .str x => (PyData.str x).canLay0 | _ => false
  | n + 1, .list ds => ds.all (nob n)
  | n + 1, .tuple ds => ds.all (nob n)
  | _ + 1, d => match d with | .none => true | .int _ => true | .str x => (PyData.str x).canLay0 | _ => false
theorem nob_dep : ∀ (n : Nat) (d : D), nob n d = true → dep n d = true
  | 0, d, h => by cases d <;> first | (cases h; done) | rfl | exact h
  | n + 1, .list ds, h => List.all_eq_true.mpr fun d hd => nob_dep n d (List.all_eq_true.mp h d hd)
  | n + 1, .tuple ds, h => List.all_eq_true.mpr fun d hd => nob_dep n d (List.all_eq_true.mp h d hd)
  | n + 1, .none, _ => rfl
  | n + 1, .bool _, h => by cases h
  | n + 1, .int _, _ => rfl
  | n + 1, .str _, h => h
  | n + 1, .dict _, h => by cases h
theorem eqvAll_eq : ∀ (ds es : List D), (∀ d ∈ ds, ∀ e ∈ es, PyData.eqv d e = true → d = e) → PyData.eqvAll ds es = true → ds = es
  | [], [], _, _ => rfl
  | [], _ :: _, _, h => by cases h
  | _ :: _, [], _, h => by cases h
  | d :: ds, e :: es, hh, h => by
    have h' : (PyData.eqv d e && PyData.eqvAll ds es) = true := h
    rw [Bool.and_eq_true] at h'
    rw [hh d List.mem_cons_self e List.mem_cons_self h'.1, eqvAll_eq ds es (fun a ha b hb => hh a (List.mem_cons_of_mem _ ha) b (List.mem_cons_of_mem _ hb)) h'.2]
theorem eqv_eq : ∀ (n : Nat) (d e : D), nob n d = true → nob n e = true → PyData.eqv d e = true → d = e
  | 0, d, e, h, h', he => by cases d <;> cases e <;> first | (cases h; done) | (cases h'; done) | (cases he; done) | rfl | (simp [PyData.eqv] at he; rw [he])
  | n + 1, .list ds, .list es, h, h', he => by rw [eqvAll_eq ds es (fun d hd e he => eqv_eq n d e (List.all_eq_true.mp h d hd) (List.all_eq_true.mp h' e he)) he]
  | n + 1, .tuple ds, .tuple es, h, h', he => by rw [eqvAll_eq ds es (fun d hd e he => eqv_eq n d e (List.all_eq_true.mp h d hd) (List.all_eq_true.mp h' e he)) he]
  | n + 1, .none, e, h, h', he => by cases e <;> first | (cases h'; done) | (cases he; done) | rfl
  | n + 1, .int _, e, h, h', he => by cases e <;> first | (cases h'; done) | (cases he; done) | (simp [PyData.eqv] at he; rw [he])
  | n + 1, .str _, e, h, h', he => by cases e <;> first | (cases h'; done) | (cases he; done) | (simp [PyData.eqv] at he; rw [he])
  | n + 1, .bool _, _, h, _, _ => by cases h
  | n + 1, .dict _, _, h, _, _ => by cases h
  | n + 1, .list _, .tuple _, _, _, he => by cases he
  | n + 1, .list _, .none, _, _, he => by cases he
  | n + 1, .list _, .int _, _, _, he => by cases he
  | n + 1, .list _, .str _, _, _, he => by cases he
  | n + 1, .list _, .bool _, _, _, he => by cases he
  | n + 1, .list _, .dict _, _, _, he => by cases he
  | n + 1, .tuple _, .list _, _, _, he => by cases he
  | n + 1, .tuple _, .none, _, _, he => by cases he
  | n + 1, .tuple _, .int _, _, _, he => by cases he
  | n + 1, .tuple _, .str _, _, _, he => by cases he
  | n + 1, .tuple _, .bool _, _, _, he => by cases he
  | n + 1, .tuple _, .dict _, _, _, he => by cases he
theorem eqv_ne {n : Nat} {d e : D} (h : nob n d = true) (h' : nob n e = true) (z : d ≠ e) : PyData.eqv d e = false := by
  cases q : PyData.eqv d e with
  | false => rfl
  | true => exact absurd (eqv_eq n d e h h' q) z
theorem nob_ints (n : Nat) (ns : List Int) : (ns.map PyData.int).all (nob n) = true := by
  rw [List.all_map]
  exact List.all_eq_true.mpr fun i _ => by cases n <;> rfl
theorem dep_ints (n : Nat) (ns : List Int) : (ns.map PyData.int).all (dep n) = true := by
  rw [List.all_map]
  exact List.all_eq_true.mpr fun i _ => by cases n <;> rfl
theorem dep_mono : ∀ (n m : Nat) (d : D), n ≤ m → dep n d = true → dep m d = true
  | 0, 0, _, _, h => h
  | 0, m + 1, d, _, h => by cases d <;> first | (cases h; done) | rfl | exact h
  | n + 1, m + 1, .list ds, e, h => List.all_eq_true.mpr fun d hd => dep_mono n m d (by omega) (List.all_eq_true.mp h d hd)
  | n + 1, m + 1, .tuple ds, e, h => List.all_eq_true.mpr fun d hd => dep_mono n m d (by omega) (List.all_eq_true.mp h d hd)
  | n + 1, m + 1, .none, _, _ => rfl
  | n + 1, m + 1, .bool _, _, _ => rfl
  | n + 1, m + 1, .int _, _, _ => rfl
  | n + 1, m + 1, .str _, _, h => h
  | n + 1, m + 1, .dict _, _, h => by cases h
  | _ + 1, 0, _, e, _ => absurd e (by omega)
theorem pop_perm {α : Type} : ∀ (l : List α) (i : Nat) (y : α), l[i]? = some y → (y :: l.eraseIdx i).Perm l
  | [], _, _, h => by simp at h
  | x :: l, 0, y, h => by
    have e : x = y := by simpa using h
    subst e
    exact List.Perm.refl _
  | x :: l, i + 1, y, h => by
    have ih := pop_perm l i y (by simpa using h)
    exact (List.Perm.swap x y (l.eraseIdx i)).trans (ih.cons x)
theorem six {t : Int} {n : Nat} (h0 : 0 ≤ t) (h1 : t < n) : seqIndex? t n = some t.toNat := by
  unfold seqIndex?
  simp only [show ¬ t < 0 by omega, if_false, h0, h1, decide_true, Bool.and_self, if_true]
/-! ### walks over what a list was made of -/
theorem for_inv {α : Type} (inj : α → D) {g : FG} {body : FS} {k : Kt} (Inv : List α → Pv.Env → Prop)
    (step : ∀ x xs e (N : Pv.Env → Prop), Inv (x :: xs) e → (∀ e', Inv xs e' → N e') → toEnv (fun e1 => body e1 { k with nx := N, ct := N, bk := k.nx }) (g (inj x) e)) (fin : ∀ e, Inv [] e → k.nx e) :
    ∀ (xs : List α) (e : Pv.Env), Inv xs e → forGo g body k (xs.map inj) e
  | [], e, h => fin e h
  | x :: xs, e, h => step x xs e _ h fun e' h' => for_inv inj Inv step fin xs e' h'
theorem lc_inv {α : Type} (inj : α → D) {own : List Nat} {g : FG} {ft : FT} {fe : FE} {r : Res} {R : List D → Pv.Env → Prop} (Inv : List α → List D → Pv.Env → Prop)
    (ok : ∀ xs acc e, Inv xs acc e → okb e r)
    (step : ∀ x xs acc e (N : List D → Pv.Env → Prop), Inv (x :: xs) acc e → (∀ acc' e', Inv xs acc' e' → N acc' e') →
      toEnv (fun e1 => ft e1 fun b e2 => match b with
        | true => fe e2 fun ry e3 => noB [ry] ∧ acc.length < sizeLine ∧ N (acc ++ [ry.d]) (wipeE e3 own)
        | false => N acc (wipeE e2 own)) (g (inj x) e)) (fin : ∀ acc e, Inv [] acc e → R acc e) :
    ∀ (xs : List α) (acc : List D) (e : Pv.Env), Inv xs acc e → lcGo own g ft fe r R (xs.map inj) acc e
  | [], acc, e, h => ⟨ok _ _ _ h, fin acc e h⟩
  | x :: xs, acc, e, h => ⟨ok _ _ _ h, step x xs acc e _ h fun acc' e' h' => lc_inv inj Inv ok step fin xs acc' e' h'⟩
/-- .. when nothing is written -/
theorem lc_map {α : Type} (inj : α → D) (f : α → Option D) {own : List Nat} {g : FG} {ft : FT} {fe : FE} {r : Res} {R : List D → Pv.Env → Prop} {E : Pv.Env} {X : List α}
    (step : ∀ x acc (N : List D → Pv.Env → Prop), x ∈ X → acc.length < sizeLine → N (acc ++ (f x).toList) E →
      toEnv (fun e1 => ft e1 fun b e2 => match b with
        | true => fe e2 fun ry e3 => noB [ry] ∧ acc.length < sizeLine ∧ N (acc ++ [ry.d]) (wipeE e3 own)
        | false => N acc (wipeE e2 own)) (g (inj x) E)) (ok : okb E r) (fin : R (X.filterMap f) E) (hl : X.length ≤ sizeLine) : lcGo own g ft fe r R (X.map inj) [] E := by
  refine lc_inv inj (fun xs acc e => e = E ∧ acc.length + xs.length ≤ sizeLine ∧ (∀ x ∈ xs, x ∈ X) ∧ acc ++ xs.filterMap f = X.filterMap f) (fun xs acc e h => by rw [h.1]; exact ok) (fun x xs acc e N h hN => ?_) (fun acc e h => ?_) X [] E ⟨rfl, by rw [List.length_nil, Nat.zero_add]; exact hl, fun x h => h, rfl⟩
  · obtain ⟨rfl, h1, h2, h3⟩ := h
    rw [List.length_cons] at h1
    refine step x acc N (h2 x List.mem_cons_self) (by omega) (hN _ _ ⟨rfl, ?_, fun y hy => h2 y (List.mem_cons_of_mem _ hy), ?_⟩)
    · rw [List.length_append]
      have : (f x).toList.length ≤ 1 := by cases f x <;> simp
      omega
    · rw [← h3]
      cases hf : f x with
      | none => simp [List.filterMap_cons, hf]
      | some y => simp [List.filterMap_cons, hf]
  · obtain ⟨rfl, h1, h2, h3⟩ := h
    rw [List.filterMap_nil, List.append_nil] at h3
    rw [h3]
    exact fin
def enumI {α : Type} : Nat → List α → List (Nat × α)
  | _, [] => []
  | n, d :: ds => (n, d) :: enumI (n + 1) ds
def prI (p : Nat × D) : D := .tuple [.int (p.1 : Int), p.2]
theorem enumD_eq : ∀ (ds : List D) (n : Nat), enumD n ds = (enumI n ds).map prI
  | [], _ => rfl
  | d :: ds, n => by
    show _ :: enumD (n + 1) ds = _ :: (enumI (n + 1) ds).map prI
    rw [enumD_eq ds (n + 1)]
    rfl
theorem enumI_map {α β : Type} (f : α → β) : ∀ (ds : List α) (n : Nat), enumI n (ds.map f) = (enumI n ds).map fun p => (p.1, f p.2)
  | [], _ => rfl
  | d :: ds, n => by
    show _ :: enumI (n + 1) (ds.map f) = _ :: (enumI (n + 1) ds).map _
    rw [enumI_map f ds (n + 1)]
theorem enumI_len {α : Type} : ∀ (ds : List α) (n : Nat), (enumI n ds).length = ds.length
  | [], _ => rfl
  | d :: ds, n => by show (enumI (n + 1) ds).length + 1 = _; rw [enumI_len ds]; rfl
/-- enumerate of ints -/
def prII (p : Nat × Int) : D := .tuple [.int (p.1 : Int), .int p.2]
theorem enumD_ints (ws : List Int) : enumD 0 (ws.map PyData.int) = (enumI 0 ws).map prII := by
  rw [enumD_eq, enumI_map, List.map_map]
  rfl
/-- a list or a tuple of ints -/
def Ints (d : D) (ws : List Int) : Prop := d = .list (ws.map .int) ∨ d = .tuple (ws.map .int)
/-- a standing, list or tuple -/
def Std (d : D) (l : Int) (lot : List Int) (r : Int) : Prop := ∃ dl, Ints dl lot ∧ (d = .tuple [.int l, dl, .int r] ∨ d = .list [.int l, dl, .int r])
/-- a standing as the program makes it -/
def std (l : Int) (lot : List Int) (r : Int) : D := .tuple [.int l, .tuple (lot.map .int), .int r]
theorem Std.of (l : Int) (lot : List Int) (r : Int) : Std (std l lot r) l lot r := ⟨_, .inr rfl, .inl rfl⟩
theorem Ints.of (ws : List Int) : Ints (.tuple (ws.map .int)) ws := .inr rfl
/-- a lot read from the other end -/
def turnI (n : Nat) (lot : List Int) : List Int := (lot.map fun p => (n : Int) - 1 - p).reverse
theorem turnI_turnI (n : Nat) (lot : List Int) : turnI n (turnI n lot) = lot := by
  unfold turnI
  rw [List.map_reverse, List.reverse_reverse, List.map_map]
  conv => rhs; rw [← List.map_id lot]
  refine List.map_congr_left fun p _ => ?_
  show (n : Int) - 1 - ((n : Int) - 1 - p) = p
  omega
theorem turnI_len (n : Nat) (lot : List Int) : (turnI n lot).length = lot.length := by
  unfold turnI; rw [List.length_reverse, List.length_map]
/-- what rolls to the right: the pits that hold a bead then, and what leaves -/
def roll (s : Int) (lot : List Int) : List Int → Int → Int → List Int × Int
  | [], _, r => ([], r)
  | d :: ds, p, r =>
    if d < s then roll s lot ds (p + 1) (r + if p ∈ lot then 1 else 0)
    else if p ∈ lot then (p :: (roll s lot ds (p + 1) r).1, (roll s lot ds (p + 1) r).2)
    else if 0 < r then (p :: (roll s lot ds (p + 1) (r - 1)).1, (roll s lot ds (p + 1) (r - 1)).2)
    else roll s lot ds (p + 1) r
/-- a standing after a tilt to the right, and what came out -/
def toR (ws : List Int) (l : Int) (lot : List Int) (r s : Int) : (Int × List Int × Int) × Int := ((0, (roll s lot ws 0 l).1, r + (roll s lot ws 0 l).2), (roll s lot ws 0 l).2)
def tiltF (ws : List Int) (l : Int) (lot : List Int) (r : Int) (right : Bool) (s : Int) : (Int × List Int × Int) × Int :=
  if right then toR ws l lot r s
  else (((toR ws.reverse r (turnI ws.length lot) l s).1.2.2, turnI ws.length (toR ws.reverse r (turnI ws.length lot) l s).1.2.1, (toR ws.reverse r (turnI ws.length lot) l s).1.1), (toR ws.reverse r (turnI ws.length lot) l s).2)
theorem inD_ints (p : Int) (lot : List Int) : inD (.int p) (lot.map .int) = decide (p ∈ lot) := by
  unfold inD
  rw [List.any_map]
  by_cases h : p ∈ lot
  · rw [decide_eq_true h, List.any_eq_true]
    exact ⟨p, h, by simp [PyData.eqv]⟩
  · rw [decide_eq_false h, Bool.eq_false_iff, Ne, List.any_eq_true]
    rintro ⟨x, hx, e⟩
    have : x = p := by simpa [PyData.eqv] using e
    exact h (this ▸ hx)
theorem flat_ints (lot : List Int) : (lot.map PyData.int).all flatD = true := by
  rw [List.all_map]
  exact List.all_eq_true.mpr fun _ _ => rfl
theorem shp_ints (lot : List Int) : shp (.list (lot.map PyData.int)) := dep_shp (n := 1) (dep_ints 0 lot) (by decide)
theorem shp_intsT (lot : List Int) : shp (.tuple (lot.map PyData.int)) := dep_shp (n := 1) (dep_ints 0 lot) (by decide)
/-! a list or a tuple of ints, as it is looked at -/
theorem in_ints {dl : D} {lot : List Int} (h : Ints dl lot) {p : Int} {R : KC} (q : R 0 (.bool (decide (p ∈ lot)))) : dIn (fun b => b) (.int p) R dl := by
  rcases h with rfl | rfl
  · refine ⟨dep_shp (n := 0) rfl (by decide), shp_ints lot, ?_⟩
    rw [inD_ints]; exact q
  · refine ⟨dep_shp (n := 0) rfl (by decide), shp_intsT lot, ?_⟩
    rw [inD_ints]; exact q
theorem notIn_ints {dl : D} {lot : List Int} (h : Ints dl lot) {p : Int} {R : KC} (q : R 0 (.bool (!decide (p ∈ lot)))) : dIn (fun b => !b) (.int p) R dl := by
  rcases h with rfl | rfl
  · refine ⟨dep_shp (n := 0) rfl (by decide), shp_ints lot, ?_⟩
    rw [inD_ints]; exact q
  · refine ⟨dep_shp (n := 0) rfl (by decide), shp_intsT lot, ?_⟩
    rw [inD_ints]; exact q
theorem len_ints {dl : D} {lot : List Int} (h : Ints dl lot) {R : KC} (q : R 0 (.int lot.length)) : dLen R dl := by
  rcases h with rfl | rfl
  · show R 0 (.int ((lot.map PyData.int).length : Nat)); rw [List.length_map]; exact q
  · show R 0 (.int ((lot.map PyData.int).length : Nat)); rw [List.length_map]; exact q
theorem enum_ints {dl : D} {lot : List Int} (h : Ints dl lot) {P : List D → Prop} (q : P ((enumI 0 lot).map prII)) : overEnum P dl := by
  rcases h with rfl | rfl
  · show P _; rw [enumD_ints]; exact q
  · show P _; rw [enumD_ints]; exact q
theorem list_ints {dl : D} {lot : List Int} (h : Ints dl lot) {R : KC} (q : R 1 (.list (lot.map .int))) : dList True R dl := by
  rcases h with rfl | rfl
  · exact ⟨trivial, q⟩
  · exact q
theorem tuple_ints {dl : D} {lot : List Int} (h : Ints dl lot) {R : KC} (q : R 0 (.tuple (lot.map .int))) : dTuple True R dl := by
  rcases h with rfl | rfl
  · exact ⟨trivial, q⟩
  · exact q
/-! ### steps of a reading -/
theorem ev_okb_v {e : Pv.Env} {k : Nat} {d : D} {P : Prop} (q : P) : okb e (.v k d) ∧ P := ⟨trivial, q⟩
theorem ev_okb {e : Pv.Env} {r : Res} {P : Prop} (h : okb e r) (q : P) : okb e r ∧ P := ⟨h, q⟩
theorem ev_scr {ns : List Int} {P : Prop} (q : P) : isScr (ns.map fun n => (PyData.none, PyData.int n)) = true ∧ P := ⟨isScr_map ns, q⟩
theorem ev_dis {l : List Nat} {P : Prop} (h : distinct l = true) (q : P) : distinct l = true ∧ P := ⟨h, q⟩
theorem ev_noB {rs : List Res} {P : Prop} (h : noB rs) (q : P) : noB rs ∧ P := ⟨h, q⟩
theorem ev_own {c : Option Cell} {P : Prop} (h : isOwn c) (q : P) : isOwn c ∧ P := ⟨h, q⟩
theorem ev_flat {r : Res} {P : Prop} (h : flat r) (q : P) : flat r ∧ P := ⟨h, q⟩
theorem ev_away {r : Res} {l : List Nat} {P : Prop} (h : away r l = true) (q : P) : away r l = true ∧ P := ⟨h, q⟩
theorem ev_lst {rs : List Res} {P : Prop} (h : noB rs) (h3 : Nat.ble rs.length 64 = true) (q : P) : (noB rs ∧ rs.length ≤ sizeLine) ∧ P :=
  ⟨⟨h, Nat.le_trans (Nat.le_of_ble_eq_true h3) (by decide)⟩, q⟩
theorem ev_ix {len : Nat} {j : Int} {P : Nat → Prop} (h : (ixN len j).isSome = true) (q : P ((ixN len j).get h)) : ∃ n, ixN len j = some n ∧ P n := ⟨_, (Option.some_get h).symm, q⟩
def intAt : Option Cell → Int
  | some ⟨_, .int a⟩ => a
  | _ => 0
theorem ev_aug {e : Pv.Env} {i : Nat} {P : Int → Prop} (h : getC e i = some (sh (.int (intAt (getC e i))))) (q : P (intAt (getC e i))) : ∃ a : Int, getC e i = some (sh (.int a)) ∧ P a := ⟨_, h, q⟩
theorem rng_eq (lo hi : Int) : rngD lo hi = (List.range' 0 (hi - lo).toNat).map fun i : Nat => PyData.int (lo + (i : Int)) := by
  unfold rngD
  rw [List.range_eq_range']
/-- a channel: that many depths, no two alike -/
def wireOk (m : Int) (ws : List Int) : Prop := 0 < ws.length ∧ (ws.length : Int) ≤ m ∧ ws.Nodup ∧ ∀ w ∈ ws, 1 ≤ w ∧ w < 2 ^ 59
def wireOkP (m : Int) (ws : List Int) : Prop := 0 < ws.length ∧ (ws.length : Int) ≤ m ∧ ws.Nodup ∧ ∀ w ∈ ws, 1 ≤ w ∧ w < 2 ^ 60
theorem wireOk.p {m : Int} {ws : List Int} (h : wireOk m ws) : wireOkP m ws := ⟨h.1, h.2.1, h.2.2.1, fun w hw => ⟨(h.2.2.2 w hw).1, by have := (h.2.2.2 w hw).2; omega⟩⟩
theorem wireOk.of {m : Int} {ws vs : List Int} (h : wireOk m ws) (p : vs.Perm ws) : wireOk m vs :=
  ⟨by rw [p.length_eq]; exact h.1, by rw [p.length_eq]; exact h.2.1, p.nodup_iff.mpr h.2.2.1, fun w hw => h.2.2.2 w (p.mem_iff.mp hw)⟩
theorem nodup_lt {ws : List Int} (h : ws.Pairwise (· < ·)) : ws.Nodup := h.imp fun {a b} h => by omega
theorem perm_map {α β : Type} {f : α → β} : ∀ {es : List β} {vs : List α}, es.Perm (vs.map f) → ∃ us : List α, us.Perm vs ∧ es = us.map f := by
  intro es vs h
  generalize e : vs.map f = ds at h
  induction h generalizing vs with
  | nil => exact ⟨[], by rw [List.map_eq_nil_iff.mp e], rfl⟩
  | cons d h ih =>
    match vs, e with
    | v :: vs, e =>
      obtain ⟨rfl, e2⟩ := List.cons.inj e
      obtain ⟨us, h1, rfl⟩ := ih e2
      exact ⟨v :: us, h1.cons v, rfl⟩
  | swap a b l =>
    match vs, e with
    | v :: w :: vs, e =>
      obtain ⟨rfl, e2⟩ := List.cons.inj e
      obtain ⟨rfl, rfl⟩ := List.cons.inj e2
      exact ⟨w :: v :: vs, List.Perm.swap _ _ _, rfl⟩
  | trans h1 h2 ih1 ih2 =>
    obtain ⟨us, p2, rfl⟩ := ih2 e
    obtain ⟨ws, p1, rfl⟩ := ih1 rfl
    exact ⟨ws, p1.trans p2, rfl⟩
/-- no list in it is greater than 2 ^ 20 -/
def smallF : Nat → D → Bool
  | 0, _ => true
  | n + 1, .list ds => decide (ds.length ≤ 2 ^ 20) && ds.all (smallF n)
  | n + 1, .tuple ds => decide (ds.length ≤ 2 ^ 20) && ds.all (smallF n)
  | _ + 1, _ => true
theorem all_true (n : Nat) : (List.replicate n true).all id = true := by
  rw [List.all_eq_true]
  intro b hb
  rw [List.eq_of_mem_replicate hb]
  rfl
/-- what every law's part is to show: its answer is yes -/
def ph__law_right : Phi := fun args R => ∃ x, args = [x] ∧ Bx 0 x ∧ ∀ x', R (sh (.bool true)) [x']
theorem List.filterMap_congr' {α β : Type} {f g : α → Option β} : ∀ {l : List α}, (∀ x ∈ l, f x = g x) → l.filterMap f = l.filterMap g
  | [], _ => rfl
  | x :: l, h => by
    rw [List.filterMap_cons, List.filterMap_cons, h x List.mem_cons_self, List.filterMap_congr' fun y hy => h y (List.mem_cons_of_mem _ hy)]
theorem range_pick {α β : Type} (f : α → β) : ∀ (vs : List α) (n j : Nat), (List.range' n vs.length).filterMap (fun i => ((vs[i - n]?).map f)) = vs.map f
  | [], _, _ => rfl
  | v :: vs, n, j => by
    rw [List.length_cons, List.range'_succ, List.filterMap_cons, Nat.sub_self, List.getElem?_cons_zero, Option.map_some, List.map_cons, ← range_pick f vs (n + 1) j]
    refine congrArg (f v :: ·) (List.filterMap_congr' fun i hi => ?_)
    have h := (List.mem_range'_1.mp hi).1
    rw [show i - n = (i - (n + 1)) + 1 by omega, List.getElem?_cons_succ]
theorem sorted_uniq : ∀ {xs ys : List Int}, xs.Perm ys → xs.Pairwise (· ≤ ·) → ys.Pairwise (· ≤ ·) → xs = ys
  | [], ys, p, _, _ => by rw [List.Perm.eq_nil p.symm]
  | x :: xs, [], p, _, _ => by cases p.length_eq
  | x :: xs, y :: ys, p, h1, h2 => by
    rw [List.pairwise_cons] at h1 h2
    have e1 : x ≤ y := by
      rcases List.mem_cons.mp (p.mem_iff.mpr (List.mem_cons_self (a := y) (l := ys))) with h | h
      · omega
      · exact h1.1 y h
    have e2 : y ≤ x := by
      rcases List.mem_cons.mp (p.mem_iff.mp (List.mem_cons_self (a := x) (l := xs))) with h | h
      · omega
      · exact h2.1 x h
    have e : x = y := by omega
    subst e
    rw [sorted_uniq (List.Perm.cons_inv p) h1.2 h2.2]
theorem turnI_sorted (n : Nat) {lot : List Int} (h : lot.Pairwise (· < ·)) : (turnI n lot).Pairwise (· ≤ ·) := by
  unfold turnI
  rw [List.pairwise_reverse, List.pairwise_map]
  exact h.imp fun {a b} h => by omega
theorem ix_nat {α : Type} {xs : List α} {j : Int} {n : Nat} (h : j = (n : Int)) : ix xs j = xs[n]? := by
  subst h
  unfold ix
  rw [if_pos (by omega)]
  rfl
theorem ix_back (ws : List Int) (i : Nat) (h : i < ws.length) : ix (ws.map PyData.int) (((ws.map PyData.int).length : Int) - 1 - (0 + (i : Int))) = (ws.reverse[i]?).map PyData.int := by
  rw [ix_nat (n := ws.length - 1 - i) (by rw [List.length_map]; omega), List.getElem?_map, List.getElem?_reverse h]
theorem fm_int (lot : List Int) (f : Int → Int) : (lot.filterMap fun p => some (PyData.int (f p))) = (lot.map f).map PyData.int := by
  rw [List.filterMap_eq_map', List.map_map]
  rfl
theorem ev_len {a b : Nat} {P : Prop} (h : a = b) (q : P) : a = b ∧ P := ⟨h, q⟩
/-- of so many levels, none too great -/
def okD (n : Nat) (d : D) : Prop := dep n d = true ∧ smallF n d = true
theorem okD_int {n : Nat} {i : Int} : okD n (.int i) := by cases n <;> exact ⟨rfl, rfl⟩
theorem okD_bl {n : Nat} {i : Bool} : okD n (.bool i) := by cases n <;> exact ⟨rfl, rfl⟩
theorem okD_list {n : Nat} {ds : List D} (hl : ds.length ≤ 2 ^ 20) (h : ∀ d ∈ ds, okD n d) : okD (n + 1) (.list ds) :=
  ⟨List.all_eq_true.mpr fun d hd => (h d hd).1, by
    show (decide (ds.length ≤ 2 ^ 20) && ds.all (smallF n)) = true
    rw [decide_eq_true hl, List.all_eq_true.mpr fun d hd => (h d hd).2]; rfl⟩
theorem okD_tup {n : Nat} {ds : List D} (hl : ds.length ≤ 2 ^ 20) (h : ∀ d ∈ ds, okD n d) : okD (n + 1) (.tuple ds) :=
  ⟨List.all_eq_true.mpr fun d hd => (h d hd).1, by
    show (decide (ds.length ≤ 2 ^ 20) && ds.all (smallF n)) = true
    rw [decide_eq_true hl, List.all_eq_true.mpr fun d hd => (h d hd).2]; rfl⟩
theorem okD_ints {n : Nat} {ws : List Int} (hl : ws.length ≤ 2 ^ 20) : okD (n + 1) (.tuple (ws.map .int)) := okD_tup (by rw [List.length_map]; exact hl) fun d hd => by
  obtain ⟨i, _, rfl⟩ := List.mem_map.mp hd
  exact okD_int
theorem okD_intsL {n : Nat} {ws : List Int} (hl : ws.length ≤ 2 ^ 20) : okD (n + 1) (.list (ws.map .int)) := okD_list (by rw [List.length_map]; exact hl) fun d hd => by
  obtain ⟨i, _, rfl⟩ := List.mem_map.mp hd
  exact okD_int
theorem okD_std {n : Nat} {l r : Int} {lot : List Int} (hl : lot.length ≤ 2 ^ 20) : okD (n + 2) (std l lot r) := okD_tup (show (3 : Nat) ≤ 2 ^ 20 by decide) fun d hd => by
  rcases List.mem_cons.mp hd with rfl | hd
  · exact okD_int
  · rcases List.mem_cons.mp hd with rfl | hd
    · exact okD_ints hl
    · rw [List.mem_singleton.mp hd]; exact okD_int
theorem okD_l3 {n : Nat} {a b c : D} (h1 : okD n a) (h2 : okD n b) (h3 : okD n c) : okD (n + 1) (.list [a, b, c]) := okD_list (show (3 : Nat) ≤ 2 ^ 20 by decide) fun d hd => by
  rcases List.mem_cons.mp hd with rfl | hd
  · exact h1
  · rcases List.mem_cons.mp hd with rfl | hd
    · exact h2
    · rw [List.mem_singleton.mp hd]; exact h3
theorem okD_l2 {n : Nat} {a b : D} (h1 : okD n a) (h2 : okD n b) : okD (n + 1) (.list [a, b]) := okD_list (show (2 : Nat) ≤ 2 ^ 20 by decide) fun d hd => by
  rcases List.mem_cons.mp hd with rfl | hd
  · exact h1
  · rw [List.mem_singleton.mp hd]; exact h2
/-! ### standings as triples, rows of tilts -/
abbrev Tr := Int × List Int × Int
def dS (x : Tr) : D := std x.1 x.2.1 x.2.2
def tiltS (ws : List Int) (b : Bool) (s : Int) (x : Tr) : Tr := (tiltF ws x.1 x.2.1 x.2.2 b s).1
def ledS (ws : List Int) (row : List (Bool × Int)) (x : Tr) : Tr := row.foldl (fun x p => tiltS ws p.1 p.2 x) x
def iterS (f : Tr → Tr) : Nat → Tr → Tr
  | 0, x => x
  | n + 1, x => iterS f n (f x)
def sideS (b : Bool) : Str := if b then "right" else "left"
/-- one tilt of a row, as data -/
def prT (p : Bool × Int) : D := .tuple [.str (sideS p.1), .int p.2]
/-- a tilt as a list, as a tuple -/
def prW (w : Bool) (p : Bool × Int) : D := match w with
  | true => .list [.str (sideS p.1), .int p.2]
  | false => .tuple [.str (sideS p.1), .int p.2]
def Row (d : D) (row : List (Bool × Int)) : Prop := ∃ w, d = .list (row.map (prW w)) ∨ d = .tuple (row.map (prW w))
/-- what a standing may be -/
def StdS (d : D) (x : Tr) : Prop := Std d x.1 x.2.1 x.2.2
theorem roll_len (s : Int) (lot : List Int) : ∀ (ws : List Int) (p r : Int), (roll s lot ws p r).1.length ≤ ws.length
  | [], _, _ => Nat.le_refl _
  | w :: ws, p, r => by
    rw [roll]
    split
    · exact Nat.le_succ_of_le (roll_len s lot ws _ _)
    · split
      · exact Nat.succ_le_succ (roll_len s lot ws _ _)
      · split
        · exact Nat.succ_le_succ (roll_len s lot ws _ _)
        · exact Nat.le_succ_of_le (roll_len s lot ws _ _)
theorem tiltF_len (ws : List Int) (l : Int) (lot : List Int) (r : Int) (b : Bool) (s : Int) : (tiltF ws l lot r b s).1.2.1.length ≤ ws.length := by
  unfold tiltF
  cases b with
  | true => exact roll_len s lot ws 0 l
  | false =>
    show (turnI ws.length (roll s (turnI ws.length lot) ws.reverse 0 r).1).length ≤ ws.length
    rw [turnI_len]
    have := roll_len s (turnI ws.length lot) ws.reverse 0 r
    rw [List.length_reverse] at this
    exact this
theorem tiltS_len (ws : List Int) (b : Bool) (s : Int) (x : Tr) : (tiltS ws b s x).2.1.length ≤ ws.length := tiltF_len ws _ _ _ b s
theorem ledS_len {ws : List Int} {m : Nat} (hm : ws.length ≤ m) : ∀ (row : List (Bool × Int)) (x : Tr), x.2.1.length ≤ m → (ledS ws row x).2.1.length ≤ m
  | [], _, h => h
  | p :: row, x, h => ledS_len hm row _ (Nat.le_trans (tiltS_len ws p.1 p.2 x) hm)
theorem iterS_len {f : Tr → Tr} {m : Nat} (hf : ∀ x, x.2.1.length ≤ m → (f x).2.1.length ≤ m) : ∀ (n : Nat) (x : Tr), x.2.1.length ≤ m → (iterS f n x).2.1.length ≤ m
  | 0, _, h => h
  | n + 1, x, h => iterS_len hf n _ (hf x h)
theorem iterS_succ (f : Tr → Tr) : ∀ (n : Nat) (x : Tr), iterS f (n + 1) x = f (iterS f n x)
  | 0, _ => rfl
  | n + 1, x => iterS_succ f n (f x)
theorem ints_inj : ∀ {xs ys : List Int}, xs.map PyData.int = ys.map PyData.int → xs = ys
  | [], [], _ => rfl
  | [], _ :: _, h => by cases h
  | _ :: _, [], h => by cases h
  | x :: xs, y :: ys, h => by
    obtain ⟨h1, h2⟩ := List.cons.inj h
    rw [PyData.int.inj h1, ints_inj h2]
theorem dS_inj {x y : Tr} (h : dS x = dS y) : x = y := by
  obtain ⟨a, b, c⟩ := x
  obtain ⟨a', b', c'⟩ := y
  have h' := PyData.tuple.inj h
  obtain ⟨h1, h2⟩ := List.cons.inj h'
  obtain ⟨h3, h4⟩ := List.cons.inj h2
  obtain ⟨h5, _⟩ := List.cons.inj h4
  have e1 : a = a' := PyData.int.inj h1
  have e2 : b = b' := ints_inj (PyData.tuple.inj h3)
  have e3 : c = c' := PyData.int.inj h5
  rw [e1, e2, e3]
theorem nob_dS (x : Tr) : nob 2 (dS x) = true := by
  show List.all [PyData.int x.1, .tuple (x.2.1.map .int), .int x.2.2] (nob 1) = true
  rw [List.all_cons, List.all_cons, List.all_cons, List.all_nil]
  show (true && (List.all (x.2.1.map PyData.int) (nob 0) && (true && true))) = true
  rw [nob_ints]
  rfl
theorem shp_dS (x : Tr) : shp (dS x) := dep_shp (nob_dep 2 _ (nob_dS x)) (by decide)
theorem eqv_dS (x y : Tr) : PyData.eqv (dS x) (dS y) = decide (x = y) := by
  by_cases h : x = y
  · rw [h, eqv_self 2 _ (nob_dep 2 _ (nob_dS y)), decide_eq_true rfl]
  · rw [eqv_ne (nob_dS x) (nob_dS y) (fun z => h (dS_inj z)), decide_eq_false h]
end Lw

/-! Vl: the law's own entry. -/
namespace Lw
open PySem PySem.Spec PyProof.Rows L2 Pv
theorem sp_of_script {K : Fg} {H : Hp} {a : Addr} {ns : List Int} {φ : Phi} {Q : VK} {E : XK} (hS : SqL K H a (ns.map V.int)) (hφ : φ [sh (scrD ns)] fun c _ => c = sh (.bool true)) (hq : ∀ H', Q (.bl true) H') : spOf K [false] φ [.ref a] H Q E := by
  refine ⟨fun _ => .shr, [sh (scrD ns)], fun c _ => c = sh (.bool true), ⟨⟨rfl, .scr (hS.elim (fun h => .inl ⟨h, rfl⟩) .inr)⟩, trivial⟩, fun a t p e => (by cases e), hφ, fun v H' ω' c ios _ _ ho hc => ?_⟩
  subst hc
  have h : Rp K ω' H' v (.bool true) := ho
  cases h
  exact hq H'
end Lw

/-! Vg: the words of the automatic runs. -/
namespace Lw
open PySem PySem.Spec PyProof.Rows L2 Pv
/-- a side condition that stands by itself -/
@[irreducible] def Hold (P : Prop) : Prop := P
theorem Hold.mk {P : Prop} (h : P) : Hold P := by unfold Hold; exact h
theorem Hold.out {P : Prop} (h : Hold P) : P := by unfold Hold at h; exact h
/-- at least k draws are left -/
@[irreducible] def Bk (k : Nat) (x : Cell) : Prop := ∃ n, Bx n x ∧ n + k ≤ 2 ^ 59
theorem Bk.get {k : Nat} {x : Cell} (h : Bk k x) : ∃ n, Bx n x ∧ n + k ≤ 2 ^ 59 := by unfold Bk at h; exact h
theorem Bk.of {n k : Nat} {x : Cell} (h : Bx n x) (e : n + k ≤ 2 ^ 59) : Bk k x := by unfold Bk; exact ⟨n, h, e⟩
theorem Bk.le {m k : Nat} {x : Cell} (h : Bk m x) (e : k ≤ m) : Bk k x := by
  obtain ⟨n, h1, h2⟩ := h.get
  exact .of h1 (by omega)
theorem Bk.ex {k : Nat} {x : Cell} (h : Bk k x) : ∃ d, x = ⟨1, d⟩ := by
  obtain ⟨n, h1, h2⟩ := h.get
  exact h1.ex
theorem R_of {R : Cell → List Cell → Prop} {c c' : Cell} {o o' : List Cell} (h : R c o) (e : Hold (c' = c)) (e2 : Hold (o' = o)) : R c' o' := by
  rw [e.out, e2.out]; exact h
/-! ### a list or a tuple of anything -/
def Sq (d : D) (ds : List D) : Prop := d = .list ds ∨ d = .tuple ds
theorem Sq.l (ds : List D) : Sq (.list ds) ds := .inl rfl
theorem Sq.t (ds : List D) : Sq (.tuple ds) ds := .inr rfl
theorem Ints.sq {d : D} {ws : List Int} (h : Ints d ws) : Sq d (ws.map .int) := h
theorem Row.sq {d : D} {row : List (Bool × Int)} (h : Row d row) : ∃ w, Sq d (row.map (prW w)) := h
theorem Ints.l (ws : List Int) : Ints (.list (ws.map .int)) ws := .inl rfl
theorem Ints.t (ws : List Int) : Ints (.tuple (ws.map .int)) ws := .inr rfl
theorem Ints.l0 : Ints (.list []) [] := .inl rfl
theorem Ints.t0 : Ints (.tuple []) [] := .inr rfl
theorem Row.l (ws : List (Bool × Int)) : Row (.list (ws.map prT)) ws := ⟨false, .inl rfl⟩
theorem Row.wl (w : Bool) (ws : List (Bool × Int)) : Row (.list (ws.map (prW w))) ws := ⟨w, .inl rfl⟩
theorem Row.wt (w : Bool) (ws : List (Bool × Int)) : Row (.tuple (ws.map (prW w))) ws := ⟨w, .inr rfl⟩
theorem Row.t (ws : List (Bool × Int)) : Row (.tuple (ws.map prT)) ws := ⟨false, .inr rfl⟩
theorem Row.l0 : Row (.list []) [] := ⟨false, .inl rfl⟩
theorem Row.l1 (b : Bool) (s : Int) : Row (.list [.tuple [.str (sideS b), .int s]]) [(b, s)] := ⟨false, .inl rfl⟩
theorem Row.l1r (s : Int) : Row (.list [.tuple [.str "right", .int s]]) [(true, s)] := ⟨false, .inl rfl⟩
theorem Row.l1l (s : Int) : Row (.list [.tuple [.str "left", .int s]]) [(false, s)] := ⟨false, .inl rfl⟩
theorem StdS.o (x : Tr) : StdS (dS x) x := Std.of _ _ _
theorem StdS.mk (l : Int) (lot : List Int) (r : Int) : StdS (.tuple [.int l, .tuple (lot.map .int), .int r]) (l, lot, r) := Std.of _ _ _
theorem StdS.mk0 (l : Int) (r : Int) : StdS (.tuple [.int l, .tuple [], .int r]) (l, [], r) := Std.of l [] r
theorem Row.t0 : Row (.tuple []) [] := ⟨false, .inr rfl⟩
/-- written ints -/
inductive IL : List D → List Int → Prop
  | nil : IL [] []
  | cons {x : Int} {ds : List D} {xs : List Int} : IL ds xs → IL (.int x :: ds) (x :: xs)
theorem IL.eq : ∀ {ds : List D} {xs : List Int}, IL ds xs → ds = xs.map .int
  | _, _, .nil => rfl
  | _, _, .cons h => by rw [IL.eq h]; rfl
theorem IL.of : ∀ (xs : List Int), IL (xs.map .int) xs
  | [] => .nil
  | _ :: xs => .cons (IL.of xs)
theorem IL.map (xs : List Int) : IL (xs.map .int) xs := IL.of xs
theorem IL.app {a b : List D} {xs ys : List Int} (h : IL a xs) (h' : IL b ys) : IL (a ++ b) (xs ++ ys) := by
  rw [h.eq, h'.eq, ← List.map_append]
  exact IL.of _
theorem Ints.ofIL {ds : List D} {xs : List Int} (h : IL ds xs) : Ints (.list ds) xs := by rw [h.eq]; exact .inl rfl
theorem Ints.ofILt {ds : List D} {xs : List Int} (h : IL ds xs) : Ints (.tuple ds) xs := by rw [h.eq]; exact .inr rfl
/-- written rows -/
inductive RL : List D → List (Bool × Int) → Prop
  | nil : RL [] []
  | consR {x : Int} {ds : List D} {xs : List (Bool × Int)} : RL ds xs → RL (.tuple [.str "right", .int x] :: ds) ((true, x) :: xs)
  | consL {x : Int} {ds : List D} {xs : List (Bool × Int)} : RL ds xs → RL (.tuple [.str "left", .int x] :: ds) ((false, x) :: xs)
  | consS {b : Bool} {x : Int} {ds : List D} {xs : List (Bool × Int)} : RL ds xs → RL (.tuple [.str (sideS b), .int x] :: ds) ((b, x) :: xs)
theorem RL.eq : ∀ {ds : List D} {xs : List (Bool × Int)}, RL ds xs → ds = xs.map prT
  | _, _, .nil => rfl
  | _, _, .consR h => by rw [RL.eq h]; rfl
  | _, _, .consL h => by rw [RL.eq h]; rfl
  | _, _, .consS h => by rw [RL.eq h]; rfl
theorem RL.of : ∀ (xs : List (Bool × Int)), RL (xs.map prT) xs
  | [] => .nil
  | (b, s) :: xs => .consS (RL.of xs)
theorem RL.map (xs : List (Bool × Int)) : RL (xs.map prT) xs := RL.of xs
theorem RL.app {a b : List D} {xs ys : List (Bool × Int)} (h : RL a xs) (h' : RL b ys) : RL (a ++ b) (xs ++ ys) := by
  rw [h.eq, h'.eq, ← List.map_append]
  exact RL.of _
theorem Row.ofRL {ds : List D} {xs : List (Bool × Int)} (h : RL ds xs) : Row (.list ds) xs := by rw [h.eq]; exact ⟨false, .inl rfl⟩
theorem Row.ofRLt {ds : List D} {xs : List (Bool × Int)} (h : RL ds xs) : Row (.tuple ds) xs := by rw [h.eq]; exact ⟨false, .inr rfl⟩
/-! ### functions on lists of ints -/
def gI (ws : List Int) (i : Int) : Int := ws.getD i.toNat 0
@[irreducible] def irange (lo hi : Int) : List Int := (List.range (hi - lo).toNat).map fun i : Nat => lo + (i : Int)
theorem rngD_eq (lo hi : Int) : rngD lo hi = (irange lo hi).map .int := by
  unfold rngD irange
  rw [List.map_map]
  rfl
theorem mem_irange {lo hi i : Int} : i ∈ irange lo hi ↔ lo ≤ i ∧ i < hi := by
  unfold irange
  rw [List.mem_map]
  constructor
  · rintro ⟨n, hn, rfl⟩
    have := List.mem_range.mp hn
    omega
  · rintro ⟨h1, h2⟩
    exact ⟨(i - lo).toNat, List.mem_range.mpr (by omega), by omega⟩
theorem irange_len (lo hi : Int) : (irange lo hi).length = (hi - lo).toNat := by unfold irange; rw [List.length_map, List.length_range]
theorem irange_lt (lo hi : Int) : (irange lo hi).Pairwise (· < ·) := by
  unfold irange
  rw [List.pairwise_map]
  exact List.Pairwise.imp (fun {a b} h => by omega) List.pairwise_lt_range
theorem irange_get {lo hi : Int} {i : Nat} (h : i < (hi - lo).toNat) : (irange lo hi)[i]? = some (lo + (i : Int)) := by
  unfold irange
  rw [List.getElem?_map, List.getElem?_range h]
  rfl
theorem irange_nil {lo hi : Int} (h : hi ≤ lo) : irange lo hi = [] := List.eq_nil_of_length_eq_zero (by rw [irange_len]; omega)
theorem irange_cons {lo hi : Int} (h : lo < hi) : irange lo hi = lo :: irange (lo + 1) hi := by
  refine List.ext_getElem? fun i => ?_
  cases i with
  | zero => rw [irange_get (by omega)]; simp
  | succ i =>
    rw [List.getElem?_cons_succ]
    by_cases hi : i + 1 < (hi - lo).toNat
    · rw [irange_get hi, irange_get (by omega)]
      congr 1; omega
    · rw [List.getElem?_eq_none (by rw [irange_len]; omega), List.getElem?_eq_none (by rw [irange_len]; omega)]
/-- the greatest, the least -/
def mx : List Int → Int
  | [] => 0
  | w :: ws => ws.foldl max w
def mn : List Int → Int
  | [] => 0
  | w :: ws => ws.foldl min w
theorem mx_mem {ws : List Int} (h : 0 < ws.length) : mx ws ∈ ws := by
  match ws, h with
  | w :: ws, _ => exact (foldl_max ws w).1
theorem le_mx {ws : List Int} {x : Int} (h : x ∈ ws) : x ≤ mx ws := by
  match ws, h with
  | w :: ws, h => exact (foldl_max ws w).2 x h
theorem mn_mem {ws : List Int} (h : 0 < ws.length) : mn ws ∈ ws := by
  match ws, h with
  | w :: ws, _ => exact (foldl_min ws w).1
theorem mn_le {ws : List Int} {x : Int} (h : x ∈ ws) : mn ws ≤ x := by
  match ws, h with
  | w :: ws, h => exact (foldl_min ws w).2 x h
/-- sorted -/
def srt (ws : List Int) : List Int := ws.mergeSort fun a b => decide (a ≤ b)
theorem srt_perm (ws : List Int) : (srt ws).Perm ws := List.mergeSort_perm _ _
theorem srt_le (ws : List Int) : (srt ws).Pairwise (· ≤ ·) := by
  have := List.pairwise_mergeSort (le := fun a b : Int => decide (a ≤ b)) (fun a b c h1 h2 => by simp at *; omega) (fun a b => by simp; omega) ws
  exact this.imp fun {a b} h => of_decide_eq_true h
theorem srt_eq {ws vs : List Int} (p : vs.Perm ws) (h : vs.Pairwise (· ≤ ·)) : vs = srt ws := sorted_uniq (p.trans (srt_perm ws).symm) h (srt_le ws)
theorem srt_len (ws : List Int) : (srt ws).length = ws.length := (srt_perm ws).length_eq
theorem mem_srt {ws : List Int} {x : Int} : x ∈ srt ws ↔ x ∈ ws := (srt_perm ws).mem_iff
/-! ### views: len, list, tuple, in -/
section
variable {α : Type} {inj : α → D} {xs : List α} {ds : List D} {ws lot : List Int} {r : Res} {d : D} {R : KC} {k k' : Nat}
theorem sq_len {f : Prop} (h : Sq d ds) (q : R 0 (.int ds.length)) : dLen R d := by
  rcases h with rfl | rfl <;> exact q
theorem v_len (h : Sq r.d ds) (q : R 0 (.int ds.length)) : apN (at1 oLen) [r] R := apN_op (by rcases h with h | h <;> (show dLen R r.d; rw [h]; exact q))
theorem v_lenM (h : Sq r.d (xs.map inj)) (q : R 0 (.int xs.length)) : apN (at1 oLen) [r] R := v_len h (by rw [List.length_map]; exact q)
theorem v_lenI (h : Ints r.d ws) (q : R 0 (.int ws.length)) : apN (at1 oLen) [r] R := v_lenM (inj := .int) h q
theorem v_list (h : Sq r.d ds) (hf : flat r) (q : R 1 (.list ds)) : apN (at1 oList) [r] R := apN_op (by
  rcases h with h | h <;> (show dList (flat r) R r.d; rw [h])
  · exact ⟨hf, q⟩
  · exact q)
theorem v_tuple (h : Sq r.d ds) (hf : flat r) (q : R 0 (.tuple ds)) : apN (at1 oTuple) [r] R := apN_op (by
  rcases h with h | h <;> (show dTuple (flat r) R r.d; rw [h])
  · exact ⟨hf, q⟩
  · exact q)
theorem v_in {p : Int} (h : Ints r.d lot) (q : R 0 (.bool (decide (p ∈ lot)))) : ap2 oIn (.v k (.int p)) r R := ap2_op (in_ints h q)
theorem v_notIn {p : Int} (h : Ints r.d lot) (q : R 0 (.bool (!decide (p ∈ lot)))) : ap2 oNotIn (.v k (.int p)) r R := ap2_op (notIn_ints h q)
theorem v_sorted (h : r.d = .list (ws.map .int)) (hf : flat r) (q : R 1 (.list ((srt ws).map .int))) : apN (at1 oSorted) [r] R := apN_op (by
  show dSorted (flat r) R r.d
  rw [h]
  exact ⟨hf, .inl ⟨ws, rfl, fun ns' p s => by rw [srt_eq p s]; exact q⟩⟩)
theorem v_sortedT (h : r.d = .tuple (ws.map .int)) (q : R 1 (.list ((srt ws).map .int))) : apN (at1 oSorted) [r] R := apN_op (by
  show dSorted (flat r) R r.d
  rw [h]
  exact ⟨ws, rfl, fun ns' p s => by rw [srt_eq p s]; exact q⟩)
theorem v_sortedS (h : r.d = .list (ws.map .int)) (hf : flat r) (hl : Hold (ws.length ≤ 60)) (q : ∀ us : List Int, us.Pairwise (· < ·) → (∀ k, k ∈ us ↔ k ∈ ws) → us.length ≤ ws.length → R 1 (.list (us.map .int))) : apN (at1 oSortedSet) [r] R := apN_op (by
  show dSortedSet (flat r) R r.d
  rw [h]
  exact ⟨hf, ws, rfl, hl.out, q⟩)
theorem v_sortedS1 {e : Int} (h : r.d = .list (ws.map .int ++ [.int e])) (hf : flat r) (hl : Hold (ws.length + 1 ≤ 60)) (q : ∀ us : List Int, us.Pairwise (· < ·) → (∀ k, k ∈ us ↔ k ∈ ws ++ [e]) → us.length ≤ ws.length + 1 → R 1 (.list (us.map .int))) : apN (at1 oSortedSet) [r] R :=
  v_sortedS (ws := ws ++ [e]) (by rw [h, List.map_append]; rfl) hf (.mk (by rw [List.length_append]; exact hl.out)) fun us h1 h2 h3 => q us h1 h2 (by rw [List.length_append] at h3; exact h3)
theorem v_sortedI (h : Ints r.d ws) (hf : flat r) (q : R 1 (.list ((srt ws).map .int))) : apN (at1 oSorted) [r] R := by
  rcases h with h | h
  · exact v_sorted h hf q
  · exact v_sortedT h q
theorem v_sortedP {ps : List (Int × Int)} (h : r.d = .list (ps.map ijD)) (hf : flat r) (q : ∀ ps' : List (Int × Int), ps'.Perm ps → R 1 (.list (ps'.map ijD))) : apN (at1 oSorted) [r] R := apN_op (by
  show dSorted (flat r) R r.d
  rw [h]
  exact ⟨hf, .inr ⟨ps, rfl, q⟩⟩)
theorem int_le_antisymm' {a b : Int} (h : a ≤ b) (h' : b ≤ a) : a = b := by omega
theorem v_maxDf {i : Int} (h : r.d = .list (ws.map .int)) (hf : flat r) (q : R 0 (.int (mxD i ws))) : apN (at1 (oMaxDf i)) [r] R := apN_op (by
  show dMaxDf (flat r) R i r.d
  rw [h]
  exact ⟨hf, ws, rfl, q⟩)
theorem v_max (h : Ints r.d ws) (hf : flat r) (h0 : Hold (0 < ws.length)) (q : R 0 (.int (mx ws))) : apN (at1 oMax) [r] R := apN_op (by
  have go : ∀ m, m ∈ ws → (∀ y, y ∈ ws → y ≤ m) → R 0 (.int m) := fun m hm hy => by rw [int_le_antisymm' (le_mx hm) (hy _ (mx_mem h0.out))]; exact q
  rcases h with h | h <;> (show dMax (flat r) R r.d; rw [h])
  · exact ⟨hf, ws, rfl, h0.out, go⟩
  · exact ⟨ws, rfl, h0.out, go⟩)
theorem v_min (h : Ints r.d ws) (hf : flat r) (h0 : Hold (0 < ws.length)) (q : R 0 (.int (mn ws))) : apN (at1 oMin) [r] R := apN_op (by
  have go : ∀ m, m ∈ ws → (∀ y, y ∈ ws → m ≤ y) → R 0 (.int m) := fun m hm hy => by rw [int_le_antisymm' (hy _ (mn_mem h0.out)) (mn_le hm)]; exact q
  rcases h with h | h <;> (show dMin (flat r) R r.d; rw [h])
  · exact ⟨hf, ws, rfl, h0.out, go⟩
  · exact ⟨ws, rfl, h0.out, go⟩)
theorem map_bools {f : α → Bool} : (xs.map fun x => PyData.bool (f x)) = (xs.map f).map .bool := by rw [List.map_map]; rfl
theorem v_all {f : α → Bool} (h : r.d = .list (xs.map fun x => .bool (f x))) (hf : flat r) (q : R 0 (.bool (xs.all f))) : apN (at1 oAll) [r] R := apN_op (by
  show dAll (flat r) R r.d
  rw [h, map_bools]
  refine ⟨hf, _, rfl, ?_⟩
  rw [List.all_map]
  exact q)
theorem v_any {f : α → Bool} (h : r.d = .list (xs.map fun x => .bool (f x))) (hf : flat r) (q : R 0 (.bool (xs.any f))) : apN (at1 oAny) [r] R := apN_op (by
  show dAny (flat r) R r.d
  rw [h, map_bools]
  refine ⟨hf, _, rfl, ?_⟩
  rw [List.any_map]
  exact q)
/-! ### subscripts -/
theorem pick_ix {i : Int} {n : Nat} {v : D} (h0 : i = (n : Int)) (hv : ds[n]? = some v) (q : R 0 v) : pick R (ix ds i) := by
  rw [ix_nat h0, hv]; exact q
theorem v_ix {i : Int} (h : Sq r.d (xs.map inj)) (hf : flat r) (h0 : Hold (0 ≤ i)) (h1 : Hold (i < xs.length)) (q : ∀ x, xs[i.toNat]? = some x → R 0 (inj x)) : ap2 oIx r (.v k (.int i)) R := by
  have h0' := h0.out
  have h1' := h1.out
  have hl : i.toNat < xs.length := by omega
  have e : (xs.map inj)[i.toNat]? = some (inj xs[i.toNat]) := by rw [List.getElem?_map, List.getElem?_eq_getElem hl]; rfl
  have q' := q _ (List.getElem?_eq_getElem hl)
  refine ap2_op ?_
  rcases h with h | h
  · show dIx (flat r) R r.d (.int i)
    rw [h]; exact ⟨hf, pick_ix (by omega) e q'⟩
  · show dIx (flat r) R r.d (.int i)
    rw [h]; exact pick_ix (by omega) e q'
theorem v_ixI {i : Int} (h : Ints r.d ws) (hf : flat r) (h0 : Hold (0 ≤ i)) (h1 : Hold (i < ws.length)) (q : R 0 (.int (gI ws i))) : ap2 oIx r (.v k (.int i)) R :=
  v_ix (inj := .int) h hf h0 h1 fun x hx => by
    have : gI ws i = x := by unfold gI; rw [List.getD_eq_getElem?_getD, hx]; rfl
    rw [← this]; exact q
theorem ix_last (h : 0 < ds.length) : ix ds (-1) = ds.getLast? := by
  unfold ix
  rw [if_neg (by omega), if_pos (by omega), List.getLast?_eq_getElem?]
  congr 1; omega
theorem v_ixL (h : Sq r.d (xs.map inj)) (hf : flat r) (h1 : Hold (0 < xs.length)) (q : ∀ x, xs.getLast? = some x → R 0 (inj x)) : ap2 oIx r (.v k (.int (-1))) R := by
  have h1' := h1.out
  have hl : 0 < (xs.map inj).length := by rw [List.length_map]; exact h1'
  obtain ⟨x, hx⟩ : ∃ x, xs.getLast? = some x := by
    rw [List.getLast?_eq_getElem?]
    exact ⟨_, List.getElem?_eq_getElem (by omega)⟩
  have e : pick R (ix (xs.map inj) (-1)) := by
    rw [ix_last hl, List.getLast?_map, hx]
    exact q x hx
  refine ap2_op ?_
  rcases h with h | h
  · show dIx (flat r) R r.d (.int (-1))
    rw [h]; exact ⟨hf, e⟩
  · show dIx (flat r) R r.d (.int (-1))
    rw [h]; exact e
def gL (ws : List Int) : Int := ws.getLastD 0
theorem gL_get {ws : List Int} {y : Int} (h : ws.getLast? = some y) : gL ws = y := by unfold gL; rw [List.getLastD_eq_getLast?, h]; rfl
theorem gL_some {ws : List Int} (h : 0 < ws.length) : ws.getLast? = some (gL ws) := by
  cases e : ws.getLast? with
  | none => rw [List.getLast?_eq_none_iff] at e; rw [e] at h; cases h
  | some y => rw [gL_get e]
theorem v_ixLI (h : Ints r.d ws) (hf : flat r) (h1 : Hold (0 < ws.length)) (q : R 0 (.int (gL ws))) : ap2 oIx r (.v k (.int (-1))) R :=
  v_ixL (inj := .int) h hf h1 fun x hx => by rw [gL_get hx] at q; exact q
theorem v_ixF {i : Int} {dd : D} (h : r.d = .list ds) (hf : flat r) (he : ix ds i = some dd) (q : R 0 dd) : ap2 oIx r (.v k (.int i)) R := by
  refine ap2_op ?_
  show dIx (flat r) R r.d (.int i)
  rw [h]
  exact ⟨hf, by rw [he]; exact q⟩
theorem v_ixM {α : Type} [Inhabited α] {inj : α → D} {xs : List α} {i : Int} (h : Sq r.d (xs.map inj)) (hf : flat r) (h0 : Hold (0 ≤ i)) (h1 : Hold (i < xs.length)) (q : R 0 (inj (xs.getD i.toNat default))) : ap2 oIx r (.v k (.int i)) R := by
  have h0' := h0.out
  have h1' := h1.out
  have e : ix (xs.map inj) i = some (inj (xs.getD i.toNat default)) := by
    unfold ix
    rw [if_pos h0', List.getElem?_map, List.getElem?_eq_getElem (by omega), List.getD_eq_getElem?_getD, List.getElem?_eq_getElem (by omega)]
    rfl
  refine ap2_op ?_
  show dIx (flat r) R r.d (.int i)
  rcases h with h | h <;> rw [h]
  · exact ⟨hf, by rw [e]; exact q⟩
  · show pick R (ix (xs.map inj) i); rw [e]; exact q
theorem v_ixA {dd : D} (h : r.d = .list (ds ++ [dd])) (hf : flat r) (q : R 0 dd) : ap2 oIx r (.v k (.int (-1))) R := by
  refine ap2_op ?_
  show dIx (flat r) R r.d (.int (-1))
  rw [h]
  refine ⟨hf, ?_⟩
  rw [ix_last (by simp)]
  simp only [List.getLast?_append, List.getLast?_singleton]
  exact q
theorem v_ixS0 {x : Tr} (h : StdS d x) (q : R 0 (.int x.1)) : ap2 oIx (.v k d) (.v k' (.int 0)) R := by
  obtain ⟨dl, hl, rfl | rfl⟩ := h
  · exact ap2_op q
  · exact ap2_op ⟨trivial, q⟩
theorem v_ixS1 {x : Tr} (h : StdS d x) (q : ∀ dl, Ints dl x.2.1 → R 0 dl) : ap2 oIx (.v k d) (.v k' (.int 1)) R := by
  obtain ⟨dl, hl, rfl | rfl⟩ := h
  · exact ap2_op (q _ hl)
  · exact ap2_op ⟨trivial, q _ hl⟩
theorem v_ixS2 {x : Tr} (h : StdS d x) (q : R 0 (.int x.2.2)) : ap2 oIx (.v k d) (.v k' (.int 2)) R := by
  obtain ⟨dl, hl, rfl | rfl⟩ := h
  · exact ap2_op q
  · exact ap2_op ⟨trivial, q⟩
theorem v_unpP {w : Bool} {p : Bool × Int} {P : Pv.Env → Prop} {gs : FGs} {e : Pv.Env} (q : toEnv P (gs [.str (sideS p.1), .int p.2] e)) : toEnv P (unpk 2 gs (prW w p) e) := by
  cases w
  · exact unpk_tE q
  · exact unpk_lE q
theorem v_seqP {d : D} {row : List (Bool × Int)} {k : Nat} {P : Res → List D → Prop} (h : Row d row) (q : ∀ w k' d', P (.v k' d') (row.map (prW w))) : ovr (overSeq (.v k d) P) d := ovr_op (by
  obtain ⟨w, rfl | rfl⟩ := h
  · exact ⟨trivial, q _ _ _⟩
  · exact q _ _ _)
theorem v_unpS {x : Tr} {P : Pv.Env → Prop} {gs : FGs} {e : Pv.Env} (h : StdS d x) (q : ∀ dl, Ints dl x.2.1 → toEnv P (gs [.int x.1, dl, .int x.2.2] e)) : toEnv P (unpk 3 gs d e) := by
  obtain ⟨dl, hl, rfl | rfl⟩ := h
  · rw [unpk_t]; exact q _ hl
  · rw [unpk_l]; exact q _ hl
/-! ### equality -/
/-- no bools, no dicts in it -/
def Nb (d : D) : Prop := nob 60 d = true
theorem nob_mono : ∀ (n m : Nat) (d : D), n ≤ m → nob n d = true → nob m d = true
  | 0, 0, _, _, h => h
  | 0, m + 1, d, _, h => by cases d <;> first | (cases h; done) | rfl | exact h
  | n + 1, m + 1, .list ds, e, h => List.all_eq_true.mpr fun d hd => nob_mono n m d (by omega) (List.all_eq_true.mp h d hd)
  | n + 1, m + 1, .tuple ds, e, h => List.all_eq_true.mpr fun d hd => nob_mono n m d (by omega) (List.all_eq_true.mp h d hd)
  | n + 1, m + 1, .none, _, _ => rfl
  | n + 1, m + 1, .bool _, _, h => by cases h
  | n + 1, m + 1, .int _, _, _ => rfl
  | n + 1, m + 1, .str _, _, h => h
  | n + 1, m + 1, .dict _, _, h => by cases h
  | _ + 1, 0, _, e, _ => absurd e (by omega)
theorem nb_int (i : Int) : Nb (.int i) := rfl
theorem nb_non : Nb .none := rfl
theorem nb_side (b : Bool) : Nb (.str (sideS b)) := by cases b <;> (show nob 60 _ = true; decide +kernel)
theorem nb_list {ds : List D} (h : ∀ d ∈ ds, nob 59 d = true) : Nb (.list ds) := List.all_eq_true.mpr h
theorem nb_tup {ds : List D} (h : ∀ d ∈ ds, nob 59 d = true) : Nb (.tuple ds) := List.all_eq_true.mpr h
theorem nb_listI (ws : List Int) : Nb (.list (ws.map .int)) := nob_ints 59 ws
theorem nb_tupI (ws : List Int) : Nb (.tuple (ws.map .int)) := nob_ints 59 ws
theorem nb_nil : Nb (.list []) := rfl
theorem nb_nilT : Nb (.tuple []) := rfl
theorem nb_dS (x : Tr) : Nb (dS x) := nob_mono 2 60 _ (by omega) (nob_dS x)
theorem nb_ints (h : Ints d ws) : Nb d := by rcases h with rfl | rfl; exact nb_listI _; exact nb_tupI _
theorem nob_side (b : Bool) (n : Nat) : nob n (.str (sideS b)) = true := by
  have : nob 0 (.str (sideS b)) = true := by cases b <;> decide +kernel
  exact nob_mono 0 n _ (by omega) this
theorem nob_prT (p : Bool × Int) (n : Nat) : nob (n + 1) (prT p) = true := by
  show List.all [PyData.str (sideS p.1), .int p.2] (nob n) = true
  rw [List.all_cons, List.all_cons, List.all_nil, nob_side]
  cases n <;> rfl
theorem nb_row (row : List (Bool × Int)) : Nb (.list (row.map prT)) := nb_list fun d hd => by
  obtain ⟨p, _, rfl⟩ := List.mem_map.mp hd
  exact nob_prT p 58
theorem dEq_nb {p : Bool → Bool} {a b : D} (h1 : Nb a) (h2 : Nb b) (q : ∀ c, (c = true ↔ a = b) → R 0 (.bool (p c))) : dEq p R a b := by
  have h0 : shp a ∧ shp b ∧ R 0 (.bool (p (PyData.eqv a b))) := ⟨dep_shp (nob_dep 60 _ h1) (by decide), dep_shp (nob_dep 60 _ h2) (by decide), q _ ⟨eqv_eq 60 _ _ h1 h2, fun e => by rw [e]; exact eqv_self 60 _ (nob_dep 60 _ h2)⟩⟩
  have h3 : ∀ c : Bool, (c = true ↔ a = b) → R 0 (.bool (p c)) := q
  cases a <;> cases b <;> first
    | exact h0
    | exact h3 _ (by simp)
theorem v_eq {r' : Res} (h1 : Hold (Nb r.d)) (h2 : Hold (Nb r'.d)) (q : ∀ c, (c = true ↔ r.d = r'.d) → R 0 (.bool c)) : ap2 oEq r r' R := ap2_op (dEq_nb h1.out h2.out q)
theorem v_ne {r' : Res} (h1 : Hold (Nb r.d)) (h2 : Hold (Nb r'.d)) (q : ∀ c, (c = true ↔ r.d = r'.d) → R 0 (.bool (!c))) : ap2 oNe r r' R := ap2_op (dEq_nb (p := fun b => !b) h1.out h2.out q)
theorem v_eqI {i j : Int} (q : R 0 (.bool (decide (i = j)))) : ap2 oEq (.v k (.int i)) (.v k' (.int j)) R := ap2_op q
theorem v_neI {i j : Int} (q : R 0 (.bool (!decide (i = j)))) : ap2 oNe (.v k (.int i)) (.v k' (.int j)) R := ap2_op q
theorem sideS_r {b : Bool} : decide (sideS b = "right") = b := by cases b <;> decide
theorem sideS_l {b : Bool} : decide (sideS b = "left") = !b := by cases b <;> decide
theorem sideS_e {b c : Bool} : decide (sideS b = sideS c) = (b == c) := by cases b <;> cases c <;> decide
theorem v_eqR {b : Bool} (q : R 0 (.bool b)) : ap2 oEq (.v k (.str (sideS b))) (.v k' (.str "right")) R := ap2_op (by show R 0 (.bool (decide (sideS b = "right"))); rw [sideS_r]; exact q)
theorem v_eqL {b : Bool} (q : R 0 (.bool (!b))) : ap2 oEq (.v k (.str (sideS b))) (.v k' (.str "left")) R := ap2_op (by show R 0 (.bool (decide (sideS b = "left"))); rw [sideS_l]; exact q)
theorem v_eqSS {b c : Bool} (q : R 0 (.bool (b == c))) : ap2 oEq (.v k (.str (sideS b))) (.v k' (.str (sideS c))) R := ap2_op (by show R 0 (.bool (decide (sideS b = sideS c))); rw [sideS_e]; exact q)
theorem v_eqS {x y : Tr} (q : R 0 (.bool (decide (x = y)))) : ap2 oEq (.v k (dS x)) (.v k' (dS y)) R := v_eq (.mk (nb_dS x)) (.mk (nb_dS y)) fun c hc => by
  have : c = decide (x = y) := by
    rw [Bool.eq_iff_iff, hc, decide_eq_true_eq]
    exact ⟨dS_inj, fun e => by show dS x = dS y; rw [e]⟩
  rw [this]; exact q
theorem v_neS {x y : Tr} (q : R 0 (.bool (!decide (x = y)))) : ap2 oNe (.v k (dS x)) (.v k' (dS y)) R := v_ne (.mk (nb_dS x)) (.mk (nb_dS y)) fun c hc => by
  have : c = decide (x = y) := by
    rw [Bool.eq_iff_iff, hc, decide_eq_true_eq]
    exact ⟨dS_inj, fun e => by show dS x = dS y; rw [e]⟩
  rw [this]; exact q
theorem v_eqTT {x y : List Int} (q : R 0 (.bool (decide (x = y)))) : ap2 oEq (.v k (.tuple (x.map .int))) (.v k' (.tuple (y.map .int))) R := v_eq (.mk (nb_tupI x)) (.mk (nb_tupI y)) fun c hc => by
  have : c = decide (x = y) := by
    rw [Bool.eq_iff_iff, hc, decide_eq_true_eq]
    exact ⟨fun h => ints_inj (PyData.tuple.inj h), fun e => by show PyData.tuple _ = _; rw [e]; rfl⟩
  rw [this]; exact q
theorem v_neTT {x y : List Int} (q : R 0 (.bool (!decide (x = y)))) : ap2 oNe (.v k (.tuple (x.map .int))) (.v k' (.tuple (y.map .int))) R := v_ne (.mk (nb_tupI x)) (.mk (nb_tupI y)) fun c hc => by
  have : c = decide (x = y) := by
    rw [Bool.eq_iff_iff, hc, decide_eq_true_eq]
    exact ⟨fun h => ints_inj (PyData.tuple.inj h), fun e => by show PyData.tuple _ = _; rw [e]; rfl⟩
  rw [this]; exact q
theorem v_eqLL {x y : List Int} (q : R 0 (.bool (decide (x = y)))) : ap2 oEq (.v k (.list (x.map .int))) (.v k' (.list (y.map .int))) R := v_eq (.mk (nb_listI x)) (.mk (nb_listI y)) fun c hc => by
  have : c = decide (x = y) := by
    rw [Bool.eq_iff_iff, hc, decide_eq_true_eq]
    exact ⟨fun h => ints_inj (PyData.list.inj h), fun e => by show PyData.list _ = _; rw [e]; rfl⟩
  rw [this]; exact q
theorem v_neLL {x y : List Int} (q : R 0 (.bool (!decide (x = y)))) : ap2 oNe (.v k (.list (x.map .int))) (.v k' (.list (y.map .int))) R := v_ne (.mk (nb_listI x)) (.mk (nb_listI y)) fun c hc => by
  have : c = decide (x = y) := by
    rw [Bool.eq_iff_iff, hc, decide_eq_true_eq]
    exact ⟨fun h => ints_inj (PyData.list.inj h), fun e => by show PyData.list _ = _; rw [e]; rfl⟩
  rw [this]; exact q
/-- what a comparison tells, known ahead -/
def EqD (a b : D) (c : Bool) : Prop := Nb a ∧ Nb b ∧ (c = true ↔ a = b)
theorem v_eqD {a b : D} {c : Bool} (h : EqD a b c) (q : R 0 (.bool c)) : ap2 oEq (.v k a) (.v k' b) R := v_eq (.mk h.1) (.mk h.2.1) fun c' hc => by
  have : c' = c := by rw [Bool.eq_iff_iff]; exact hc.trans h.2.2.symm
  rw [this]; exact q
theorem v_neD {a b : D} {c : Bool} (h : EqD a b c) (q : R 0 (.bool (!c))) : ap2 oNe (.v k a) (.v k' b) R := v_ne (.mk h.1) (.mk h.2.1) fun c' hc => by
  have : c' = c := by rw [Bool.eq_iff_iff]; exact hc.trans h.2.2.symm
  rw [this]; exact q
section
variable {α : Type} {inj : α → D} {xs : List α} {r r' : Res} {R : KC}
theorem nilL : (PyData.list (xs.map inj) = PyData.list []) ↔ xs = [] := ⟨fun h => List.map_eq_nil_iff.mp (PyData.list.inj h), fun h => by rw [h]; rfl⟩
theorem nilT : (PyData.tuple (xs.map inj) = PyData.tuple []) ↔ xs = [] := ⟨fun h => List.map_eq_nil_iff.mp (PyData.tuple.inj h), fun h => by rw [h]; rfl⟩
theorem isE {c : Bool} {p : Prop} (h : c = true ↔ p) (h2 : p ↔ xs = []) : c = xs.isEmpty := by
  rw [Bool.eq_iff_iff, h, h2, List.isEmpty_iff]
theorem v_eqNL (h : r.d = .list (xs.map inj)) (h' : r'.d = .list []) (hn : Hold (Nb (.list (xs.map inj)))) (q : R 0 (.bool xs.isEmpty)) : ap2 oEq r r' R := v_eq (.mk (by rw [h]; exact hn.out)) (.mk (by rw [h']; exact nb_nil)) fun c hc => by rw [h, h'] at hc; rw [isE hc nilL]; exact q
theorem v_neNL (h : r.d = .list (xs.map inj)) (h' : r'.d = .list []) (hn : Hold (Nb (.list (xs.map inj)))) (q : R 0 (.bool (!xs.isEmpty))) : ap2 oNe r r' R := v_ne (.mk (by rw [h]; exact hn.out)) (.mk (by rw [h']; exact nb_nil)) fun c hc => by rw [h, h'] at hc; rw [isE hc nilL]; exact q
theorem v_eqNT (h : r.d = .tuple (xs.map inj)) (h' : r'.d = .tuple []) (hn : Hold (Nb (.tuple (xs.map inj)))) (q : R 0 (.bool xs.isEmpty)) : ap2 oEq r r' R := v_eq (.mk (by rw [h]; exact hn.out)) (.mk (by rw [h']; exact nb_nilT)) fun c hc => by rw [h, h'] at hc; rw [isE hc nilT]; exact q
theorem v_neNT (h : r.d = .tuple (xs.map inj)) (h' : r'.d = .tuple []) (hn : Hold (Nb (.tuple (xs.map inj)))) (q : R 0 (.bool (!xs.isEmpty))) : ap2 oNe r r' R := v_ne (.mk (by rw [h]; exact hn.out)) (.mk (by rw [h']; exact nb_nilT)) fun c hc => by rw [h, h'] at hc; rw [isE hc nilT]; exact q
end
/-- a list beside [] -/
theorem nil_eq (h : r.d = .list ds) : (r.d = (Res.v k' (.list [])).d) ↔ ds = [] := by rw [h]; exact ⟨fun e => PyData.list.inj e, fun e => by rw [e]; rfl⟩
theorem firstAt_int {q : Int} : ∀ {ws : List Int}, q ∈ ws → firstAt (.int q) (ws.map .int) = some (ws.idxOf q)
  | w :: ws, h => by
    rw [List.map_cons, firstAt, List.idxOf_cons]
    have e : PyData.eqv (.int w) (.int q) = (w == q) := by simp [PyData.eqv]
    rw [e]
    by_cases hq : w = q
    · subst hq; simp
    · have h' : q ∈ ws := (List.mem_cons.mp h).elim (fun z => absurd z.symm hq) id
      rw [firstAt_int h']
      have : (w == q) = false := by simp [hq]
      rw [this]; simp
theorem v_index {r : Res} {k : Nat} {q : Int} {ws : List Int} {R : KC} (h : r.d = .list (ws.map .int)) (hf : flat r) (hq : Hold (q ∈ ws)) (qq : R 0 (.int (ws.idxOf q : Nat))) : ap2 oIndex r (.v k (.int q)) R := ap2_op (by
  show dIndex (flat r) (.int q) R r.d
  rw [h]
  exact ⟨⟨hf, rfl, flat_ints ws⟩, _, firstAt_int hq.out, qq⟩)
theorem v_revL {α : Type} {inj : α → D} {xs : List α} {r : Res} {R : KC} (h : r.d = .list (xs.map inj)) (hf : flat r) (q : R 1 (.list (xs.reverse.map inj))) : ap1 (oStpA (some (-1))) r R := ap1_op (by
  show dStp (flat r) (-1) R r.d
  rw [h]
  refine ⟨⟨hf, .inr rfl⟩, ?_⟩
  rw [if_neg (by decide), ← List.map_reverse]; exact q)
theorem v_revT {α : Type} {inj : α → D} {xs : List α} {r : Res} {R : KC} (h : r.d = .tuple (xs.map inj)) (hf : flat r) (q : R 0 (.tuple (xs.reverse.map inj))) : ap1 (oStpA (some (-1))) r R := ap1_op (by
  show dStp (flat r) (-1) R r.d
  rw [h]
  refine ⟨.inr rfl, ?_⟩
  rw [if_neg (by decide), ← List.map_reverse]; exact q)
theorem sIx_nn {n d : Nat} {k : Int} (h : 0 ≤ k) : HT.sIx n d (some k) = min k.toNat n := by
  show (if k < 0 then (k + (n : Int)).toNat else min k.toNat n) = _
  rw [if_neg (by omega)]
theorem cut_to {α : Type} {xs : List α} {k : Int} (h : 0 ≤ k) : cut xs none (some k) = xs.take k.toNat := by
  unfold cut
  rw [sIx_nn h]
  show (xs.drop 0).take (min k.toNat xs.length - 0) = _
  rw [List.drop_zero, Nat.sub_zero]
  by_cases hk : k.toNat ≤ xs.length
  · rw [Nat.min_eq_left hk]
  · rw [Nat.min_eq_right (by omega), List.take_of_length_le (Nat.le_refl _), List.take_of_length_le (by omega)]
theorem cut_from {α : Type} {xs : List α} {k : Int} (h : 0 ≤ k) : cut xs (some k) none = xs.drop k.toNat := by
  unfold cut
  rw [sIx_nn h]
  show (xs.drop (min k.toNat xs.length)).take (xs.length - min k.toNat xs.length) = _
  by_cases hk : k.toNat ≤ xs.length
  · rw [Nat.min_eq_left hk, List.take_of_length_le (by rw [List.length_drop]; omega)]
  · rw [Nat.min_eq_right (by omega), List.drop_of_length_le (Nat.le_refl _), List.drop_of_length_le (by omega), List.take_nil]
section
variable {α : Type} {inj : α → D} {xs ys : List α} {r r' : Res} {R : KC} {k : Int}
theorem cut_in {α : Type} {xs : List α} {i j : Int} (h : 0 ≤ i) (h' : 0 ≤ j) : cut xs (some i) (some j) = (xs.drop i.toNat).take (j.toNat - i.toNat) := by
  unfold cut
  rw [sIx_nn h, sIx_nn h']
  by_cases hi : i.toNat ≤ xs.length
  · rw [Nat.min_eq_left hi]
    by_cases hj : j.toNat ≤ xs.length
    · rw [Nat.min_eq_left hj]
    · rw [Nat.min_eq_right (by omega), List.take_of_length_le (by rw [List.length_drop]; omega), List.take_of_length_le (by rw [List.length_drop]; omega)]
  · rw [List.drop_eq_nil_of_le (by omega), List.drop_eq_nil_of_le (by omega)]; simp
theorem cut_but {α : Type} {xs : List α} : cut xs none (some (-1)) = xs.dropLast := by
  unfold cut
  have h : HT.sIx xs.length xs.length (some (-1)) = xs.length - 1 := by
    show (if (-1 : Int) < 0 then ((-1 : Int) + (xs.length : Int)).toNat else min (-1 : Int).toNat xs.length) = _
    rw [if_pos (by decide)]; omega
  rw [h, List.dropLast_eq_take]
  rfl
theorem v_slButL (h : r.d = .list (xs.map inj)) (hf : flat r) (q : R 1 (.list (xs.dropLast.map inj))) : ap1 (oSlA none (some (-1))) r R := ap1_op (by
  show dSl (flat r) none (some (-1)) R r.d
  rw [h]
  refine ⟨hf, ?_⟩
  rw [cut_but, List.dropLast_eq_take, List.length_map, ← List.map_take, ← List.dropLast_eq_take]; exact q)
theorem v_slButT (h : r.d = .tuple (xs.map inj)) (q : R 0 (.tuple (xs.dropLast.map inj))) : ap1 (oSlA none (some (-1))) r R := ap1_op (by
  show dSl (flat r) none (some (-1)) R r.d
  rw [h]
  show R 0 (.tuple (cut _ _ _))
  rw [cut_but, List.dropLast_eq_take, List.length_map, ← List.map_take, ← List.dropLast_eq_take]; exact q)
theorem sIx_m1 {n d : Nat} : HT.sIx n d (some (-1)) = n - 1 := by
  show (if (-1 : Int) < 0 then ((-1 : Int) + (n : Int)).toNat else min (-1 : Int).toNat n) = _
  rw [if_pos (by decide)]; omega
theorem cut_mid {α : Type} {xs : List α} : cut xs (some 1) (some (-1)) = (xs.drop 1).dropLast := by
  unfold cut
  rw [sIx_m1, sIx_nn (by decide), List.dropLast_eq_take, List.length_drop]
  cases xs with
  | nil => rfl
  | cons a xs =>
    rw [show min (1 : Int).toNat (a :: xs).length = 1 by rw [List.length_cons]; show min 1 (xs.length + 1) = 1; omega]
theorem cut_last {α : Type} {xs : List α} : cut xs (some (-1)) none = xs.drop (xs.length - 1) := by
  unfold cut
  rw [sIx_m1]
  show (xs.drop (xs.length - 1)).take (xs.length - (xs.length - 1)) = _
  rw [List.take_of_length_le (by rw [List.length_drop]; omega)]
theorem v_slMidL (h : r.d = .list (xs.map inj)) (hf : flat r) (q : R 1 (.list ((xs.drop 1).dropLast.map inj))) : ap1 (oSlA (some 1) (some (-1))) r R := ap1_op (by
  show dSl (flat r) (some 1) (some (-1)) R r.d
  rw [h]
  refine ⟨hf, ?_⟩
  rw [cut_mid, ← List.map_drop, List.dropLast_eq_take, List.length_map, ← List.map_take, ← List.dropLast_eq_take]; exact q)
theorem v_slLastL (h : r.d = .list (xs.map inj)) (hf : flat r) (q : R 1 (.list ((xs.drop (xs.length - 1)).map inj))) : ap1 (oSlA (some (-1)) none) r R := ap1_op (by
  show dSl (flat r) (some (-1)) none R r.d
  rw [h]
  refine ⟨hf, ?_⟩
  rw [cut_last, List.length_map, ← List.map_drop]; exact q)
theorem v_slInL {i : Int} (h : r.d = .list (xs.map inj)) (hf : flat r) (h0 : Hold (0 ≤ i)) (h1 : Hold (0 ≤ k)) (q : R 1 (.list (((xs.drop i.toNat).take (k.toNat - i.toNat)).map inj))) : ap1 (oSlA (some i) (some k)) r R := ap1_op (by
  show dSl (flat r) (some i) (some k) R r.d
  rw [h]
  refine ⟨hf, ?_⟩
  rw [cut_in h0.out h1.out, ← List.map_drop, ← List.map_take]; exact q)
theorem v_slInT {i : Int} (h : r.d = .tuple (xs.map inj)) (h0 : Hold (0 ≤ i)) (h1 : Hold (0 ≤ k)) (q : R 0 (.tuple (((xs.drop i.toNat).take (k.toNat - i.toNat)).map inj))) : ap1 (oSlA (some i) (some k)) r R := ap1_op (by
  show dSl (flat r) (some i) (some k) R r.d
  rw [h]
  show R 0 (.tuple (cut _ _ _))
  rw [cut_in h0.out h1.out, ← List.map_drop, ← List.map_take]; exact q)
theorem v_slToL (h : r.d = .list (xs.map inj)) (hf : flat r) (h0 : Hold (0 ≤ k)) (q : R 1 (.list ((xs.take k.toNat).map inj))) : ap1 (oSlA none (some k)) r R := ap1_op (by
  show dSl (flat r) none (some k) R r.d
  rw [h]
  refine ⟨hf, ?_⟩
  rw [cut_to h0.out, ← List.map_take]; exact q)
theorem v_slToT (h : r.d = .tuple (xs.map inj)) (hf : flat r) (h0 : Hold (0 ≤ k)) (q : R 0 (.tuple ((xs.take k.toNat).map inj))) : ap1 (oSlA none (some k)) r R := ap1_op (by
  show dSl (flat r) none (some k) R r.d
  rw [h]
  show R 0 (.tuple (cut _ _ _))
  rw [cut_to h0.out, ← List.map_take]; exact q)
theorem v_slFromL (h : r.d = .list (xs.map inj)) (hf : flat r) (h0 : Hold (0 ≤ k)) (q : R 1 (.list ((xs.drop k.toNat).map inj))) : ap1 (oSlA (some k) none) r R := ap1_op (by
  show dSl (flat r) (some k) none R r.d
  rw [h]
  refine ⟨hf, ?_⟩
  rw [cut_from h0.out, ← List.map_drop]; exact q)
theorem v_slFromT (h : r.d = .tuple (xs.map inj)) (hf : flat r) (h0 : Hold (0 ≤ k)) (q : R 0 (.tuple ((xs.drop k.toNat).map inj))) : ap1 (oSlA (some k) none) r R := ap1_op (by
  show dSl (flat r) (some k) none R r.d
  rw [h]
  show R 0 (.tuple (cut _ _ _))
  rw [cut_from h0.out, ← List.map_drop]; exact q)
end
theorem v_catL {α : Type} {inj : α → D} {xs ys : List α} {r r' : Res} {R : KC} (h : r.d = .list (xs.map inj)) (h' : r'.d = .list (ys.map inj)) (hf : flat r) (hf' : flat r') (hl : Hold (xs.length + ys.length ≤ 2 ^ 20)) (q : R 1 (.list ((xs ++ ys).map inj))) : ap2 oAdd r r' R := ap2_op (by
  show dAdd (flat r) (flat r') R r.d r'.d
  rw [h, h']
  refine ⟨⟨hf, hf', by rw [List.length_map, List.length_map]; exact Nat.le_trans hl.out (by decide)⟩, ?_⟩
  rw [← List.map_append]; exact q)
theorem v_catT {α : Type} {inj : α → D} {xs ys : List α} {r r' : Res} {R : KC} (h : r.d = .tuple (xs.map inj)) (h' : r'.d = .tuple (ys.map inj)) (hf : flat r) (hf' : flat r') (hl : Hold (xs.length + ys.length ≤ 2 ^ 20)) (q : R 0 (.tuple ((xs ++ ys).map inj))) : ap2 oAdd r r' R := ap2_op (by
  show dAdd (flat r) (flat r') R r.d r'.d
  rw [h, h']
  refine ⟨by rw [List.length_map, List.length_map]; exact Nat.le_trans hl.out (by decide), ?_⟩
  rw [← List.map_append]; exact q)
theorem v_catIL {a b : List D} {xs ys : List Int} {r r' : Res} {R : KC} (h : r.d = .list a) (h' : r'.d = .list b) (ha : IL a xs) (hb : IL b ys) (hf : flat r) (hf' : flat r') (hl : Hold (xs.length + ys.length ≤ 2 ^ 20)) (q : R 1 (.list ((xs ++ ys).map .int))) : ap2 oAdd r r' R :=
  v_catL (inj := .int) (by rw [h, ha.eq]) (by rw [h', hb.eq]) hf hf' hl q
theorem v_catIT {a b : List D} {xs ys : List Int} {r r' : Res} {R : KC} (h : r.d = .tuple a) (h' : r'.d = .tuple b) (ha : IL a xs) (hb : IL b ys) (hf : flat r) (hf' : flat r') (hl : Hold (xs.length + ys.length ≤ 2 ^ 20)) (q : R 0 (.tuple ((xs ++ ys).map .int))) : ap2 oAdd r r' R :=
  v_catT (inj := .int) (by rw [h, ha.eq]) (by rw [h', hb.eq]) hf hf' hl q
theorem pos_of_ne {α : Type} {xs : List α} (h : xs.isEmpty = false) : 0 < xs.length := by
  cases xs with
  | nil => cases h
  | cons _ _ => exact Nat.succ_pos _
theorem flt_le {α : Type} {p : α → Bool} {xs : List α} {n : Nat} (h : xs.length ≤ n) : (xs.filter p).length ≤ n := Nat.le_trans (List.length_filter_le _ _) h
theorem flt_lt {α : Type} {p : α → Bool} {xs : List α} {n : Nat} (h : xs.length < n) : (xs.filter p).length < n := Nat.lt_of_le_of_lt (List.length_filter_le _ _) h
theorem rngDn_eq (a b : Int) : rngDn a b = ((irange (b + 1) (a + 1)).reverse).map .int := by
  unfold rngDn
  refine List.ext_getElem? fun i => ?_
  by_cases hi : i < (a - b).toNat
  · rw [List.getElem?_map, List.getElem?_range hi, List.getElem?_map, List.getElem?_reverse (by rw [irange_len]; omega), irange_len, irange_get (by omega)]
    show some (PyData.int _) = some (PyData.int _)
    congr 2; omega
  · rw [List.getElem?_eq_none (by rw [List.length_map, List.length_range]; omega), List.getElem?_eq_none (by rw [List.length_map, List.length_reverse, irange_len]; omega)]
theorem ev_rgdn {a b : Int} {P : Prop} (h1 : Hold (-(2 ^ 62) ≤ b ∧ a < 2 ^ 62)) (h2 : Hold (-(2 ^ 62) ≤ a ∧ b < 2 ^ 62 ∧ (a - b).toNat ≤ 2 ^ 24)) (q : P) : RgDn a b ∧ P := ⟨⟨h2.out.1, h1.out.2, h1.out.1, h2.out.2.1, h2.out.2.2⟩, q⟩
/-! ### what is walked -/
theorem v_seq {P : Res → List D → Prop} (h : Sq d ds) (q : ∀ k' d', P (.v k' d') ds) : ovr (overSeq (.v k d) P) d := ovr_op (by
  rcases h with rfl | rfl
  · exact ⟨trivial, q _ _⟩
  · exact q _ _)
theorem v_enum {P : List D → Prop} (h : Ints d ws) (q : P ((enumI 0 ws).map prII)) : ovr (overEnum P) d := ovr_op (enum_ints h q)
theorem v_enumM {α : Type} {inj : α → D} {xs : List α} {d : D} {P : List D → Prop} (h : d = .list (xs.map inj) ∨ d = .tuple (xs.map inj)) (q : P ((enumI 0 xs).map fun p => prI (p.1, inj p.2))) : ovr (overEnum P) d := ovr_op (by
  have e : enumD 0 (xs.map inj) = (enumI 0 xs).map fun p => prI (p.1, inj p.2) := by
    rw [enumD_eq, enumI_map, List.map_map]; rfl
  rcases h with rfl | rfl <;> (show P _; rw [e]; exact q))
theorem v_isT : ∀ {r : Res} {R : KC}, R 0 (.bool (match r.d with | .tuple _ => true | _ => false)) → ap1 (oIsi ["tuple"]) r R := by
  intro r R h
  refine ap1_op ?_
  show R 0 (.bool _)
  have : ((["tuple"] : List String).any fun T => isiD T r.d) = (match r.d with | .tuple _ => true | _ => false) := by
    rw [List.any_cons, List.any_nil, Bool.or_false]
    cases hr : r.d with
    | dict kvs => simp only [isiD, tyD]; cases isScr kvs <;> decide +kernel
    | _ => first | rfl | decide +kernel
  rw [this]; exact h
theorem v_isL : ∀ {r : Res} {R : KC}, R 0 (.bool (match r.d with | .list _ => true | .dict kvs => isScr kvs | _ => false)) → ap1 (oIsi ["list"]) r R := by
  intro r R h
  refine ap1_op ?_
  show R 0 (.bool _)
  have : ((["list"] : List String).any fun T => isiD T r.d) = (match r.d with | .list _ => true | .dict kvs => isScr kvs | _ => false) := by
    rw [List.any_cons, List.any_nil, Bool.or_false]
    cases hr : r.d with
    | dict kvs => simp only [isiD, tyD]; cases isScr kvs <;> decide +kernel
    | _ => first | rfl | decide +kernel
  rw [this]; exact h
theorem v_isS : ∀ {r : Res} {R : KC}, R 0 (.bool (match r.d with | .str _ => true | _ => false)) → ap1 (oIsi ["str"]) r R := by
  intro r R h
  refine ap1_op ?_
  show R 0 (.bool _)
  have : ((["str"] : List String).any fun T => isiD T r.d) = (match r.d with | .str _ => true | _ => false) := by
    rw [List.any_cons, List.any_nil, Bool.or_false]
    cases hr : r.d with
    | dict kvs => simp only [isiD, tyD]; cases isScr kvs <;> decide +kernel
    | _ => first | rfl | decide +kernel
  rw [this]; exact h
theorem v_isB : ∀ {r : Res} {R : KC}, R 0 (.bool (match r.d with | .bool _ => true | _ => false)) → ap1 (oIsi ["bool"]) r R := by
  intro r R h
  refine ap1_op ?_
  show R 0 (.bool _)
  have : ((["bool"] : List String).any fun T => isiD T r.d) = (match r.d with | .bool _ => true | _ => false) := by
    rw [List.any_cons, List.any_nil, Bool.or_false]
    cases hr : r.d with
    | dict kvs => simp only [isiD, tyD]; cases isScr kvs <;> decide +kernel
    | _ => first | rfl | decide +kernel
  rw [this]; exact h
theorem v_isI : ∀ {r : Res} {R : KC}, R 0 (.bool (match r.d with | .bool _ => true | .int _ => true | _ => false)) → ap1 (oIsi ["int"]) r R := by
  intro r R h
  refine ap1_op ?_
  show R 0 (.bool _)
  have : ((["int"] : List String).any fun T => isiD T r.d) = (match r.d with | .bool _ => true | .int _ => true | _ => false) := by
    rw [List.any_cons, List.any_nil, Bool.or_false]
    cases hr : r.d with
    | dict kvs => simp only [isiD, tyD]; cases isScr kvs <;> decide +kernel
    | _ => first | rfl | decide +kernel
  rw [this]; exact h
theorem v_isLT : ∀ {r : Res} {R : KC}, R 0 (.bool (match r.d with | .list _ => true | .tuple _ => true | .dict kvs => isScr kvs | _ => false)) → ap1 (oIsi ["list", "tuple"]) r R := by
  intro r R h
  refine ap1_op ?_
  show R 0 (.bool _)
  have : ((["list", "tuple"] : List String).any fun T => isiD T r.d) = (match r.d with | .list _ => true | .tuple _ => true | .dict kvs => isScr kvs | _ => false) := by
    rw [List.any_cons, List.any_cons, List.any_nil, Bool.or_false]
    cases hr : r.d with
    | dict kvs => simp only [isiD, tyD]; cases isScr kvs <;> decide +kernel
    | _ => first | rfl | decide +kernel
  rw [this]; exact h
end
theorem v_rep {r : Res} {R : KC} {ds : List D} {n : Int} {k : Nat} (h : r.d = .list ds) (hf : flat r) (h1 : Hold (-(2 ^ 63) ≤ n)) (h2 : Hold (n < 2 ^ 63)) (h3 : Hold (ds.length * n.toNat ≤ 2 ^ 20)) (q : R 1 (.list (List.replicate n.toNat ds).flatten)) : ap2 oMulA r (.v k (.int n)) R := ap2_op (by
  show dMulA (flat r) R r.d (.int n)
  rw [h]
  exact ⟨⟨hf, h1.out, h2.out, Nat.le_trans h3.out (by decide)⟩, q⟩)
theorem v_repT {r : Res} {R : KC} {d : D} {n k' : Nat} (h : r.d = .tuple [d]) (h1 : Hold (1 ≤ n)) (h2 : Hold (n ≤ 1000)) (q : R 0 (.tuple (List.replicate n d))) : ap2 oMulA r (.v k' (.int (n : Int))) R := ap2_op (by
  show dMulA (flat r) R r.d (.int n)
  rw [h]
  have := h1.out
  have := h2.out
  refine ⟨⟨List.cons_ne_nil _ _, by omega, by omega, show 1 ≤ 1000 by decide⟩, ?_⟩
  rw [Int.toNat_natCast]
  have e : (List.replicate n [d]).flatten = List.replicate n d := by
    clear q h1 h2
    induction n with
    | zero => rfl
    | succ n ih => cases n with
      | zero => rfl
      | succ n => rw [List.replicate_succ, List.flatten_cons, ih (by omega) (by omega), List.replicate_succ (n := n + 1)]; rfl
  rw [e]
  exact q)
theorem v_mulR {R : KC} {i j : Int} {k k' : Nat} (h1 : Hold (-(2 ^ 64) < j)) (h2 : Hold (j < 2 ^ 64)) (q : R 0 (.int (i * j))) : ap2 oMulA (.v k (.int i)) (.v k' (.int j)) R := ap2_op ⟨cmr h1.out h2.out, q⟩
theorem v_mulL {R : KC} {i j : Int} {k k' : Nat} (h1 : Hold (-(2 ^ 64) < i)) (h2 : Hold (i < 2 ^ 64)) (q : R 0 (.int (i * j))) : ap2 oMulA (.v k (.int i)) (.v k' (.int j)) R := ap2_op ⟨cml h1.out h2.out, q⟩
theorem ev_rg {lo hi : Int} {P : Prop} (h1 : Hold (-(2 ^ 62) ≤ lo)) (h2 : Hold (hi < 2 ^ 62)) (h3 : Hold (-(2 ^ 62) ≤ hi ∧ lo < 2 ^ 62 ∧ (hi - lo).toNat ≤ 2 ^ 24)) (q : P) : RgOk lo hi ∧ P := ⟨⟨h1.out, h3.out.2.1, h3.out.1, h2.out, h3.out.2.2⟩, q⟩
theorem ev_r1 {n : Int} {P : Prop} (h1 : Hold (-(2 ^ 62) ≤ n)) (h2 : Hold (n < 2 ^ 62)) (q : P) : (-(2 ^ 62) ≤ n ∧ n < 2 ^ 62) ∧ P := ⟨⟨h1.out, h2.out⟩, q⟩
theorem ev_r2 {m n : Int} {P : Prop} (h1 : Hold (-(2 ^ 62) ≤ m)) (h2 : Hold (m < 2 ^ 62)) (h3 : Hold (-(2 ^ 62) ≤ n)) (h4 : Hold (n < 2 ^ 62)) (q : P) : (-(2 ^ 62) ≤ m ∧ m < 2 ^ 62 ∧ -(2 ^ 62) ≤ n ∧ n < 2 ^ 62) ∧ P := ⟨⟨h1.out, h2.out, h3.out, h4.out⟩, q⟩
theorem ev_pow {i j : Int} {P : Prop} (h : 0 ≤ j ∧ j ≤ 1000000 ∧ i.natAbs < 2 ^ 64) (q : P) : CPow i j ∧ P := ⟨h, q⟩
theorem ev_sz {n : Nat} {P : Prop} (h1 : Hold (n ≤ 2 ^ 20)) (q : P) : n < sizeLine ∧ P := ⟨Nat.lt_of_le_of_lt h1.out (by decide), q⟩
theorem ev_szl {n : Nat} {P : Prop} (h1 : Hold (n ≤ 2 ^ 20)) (q : P) : n ≤ sizeLine ∧ P := ⟨Nat.le_trans h1.out (by decide), q⟩
theorem irange_one (a : Int) : irange a (a + 1) = [a] := by rw [irange_cons (by omega), irange_nil (by omega)]
/-! ### things of few levels -/
def okDs (n : Nat) (ds : List D) : Prop := ∀ d ∈ ds, okD n d
theorem okDs_nil {n : Nat} : okDs n [] := fun d h => by cases h
theorem okDs_cons {n : Nat} {d : D} {ds : List D} (h : okD n d) (h' : okDs n ds) : okDs n (d :: ds) := fun e he => by
  rcases List.mem_cons.mp he with rfl | he
  · exact h
  · exact h' e he
theorem okDs_map {α : Type} {n : Nat} {inj : α → D} {xs : List α} (h : ∀ x ∈ xs, okD n (inj x)) : okDs n (xs.map inj) := fun e he => by
  obtain ⟨x, hx, rfl⟩ := List.mem_map.mp he
  exact h x hx
theorem okD_L {n : Nat} {ds : List D} (hl : Hold (ds.length ≤ 2 ^ 20)) (h : okDs n ds) : okD (n + 1) (.list ds) := okD_list hl.out h
theorem okD_T {n : Nat} {ds : List D} (hl : Hold (ds.length ≤ 2 ^ 20)) (h : okDs n ds) : okD (n + 1) (.tuple ds) := okD_tup hl.out h
theorem okD_dS {n : Nat} {x : Tr} (h : Hold (x.2.1.length ≤ 2 ^ 20)) : okD (n + 2) (dS x) := okD_std h.out
theorem okD_non {n : Nat} : okD n .none := by cases n <;> exact ⟨rfl, rfl⟩
theorem okD_side {n : Nat} {b : Bool} : okD n (.str (sideS b)) := by
  have h : dep 0 (.str (sideS b)) = true := by cases b <;> decide +kernel
  exact ⟨dep_mono 0 n _ (by omega) h, by cases n <;> rfl⟩
/-! ### loops and comprehensions -/
/-- a comprehension that keeps those that p holds of, as g has them -/
theorem lc_fm {α : Type} (inj : α → D) (p : α → Bool) (g : α → D) {own : List Nat} {tg : FG} {ft : FT} {fe : FE} {r : Res} {R : List D → Pv.Env → Prop} {E : Pv.Env} {X : List α}
    (step : ∀ x acc (N : List D → Pv.Env → Prop), x ∈ X → acc.length < sizeLine → (p x = true → N (acc ++ [g x]) E) → (p x = false → N acc E) →
      toEnv (fun e1 => ft e1 fun b e2 => match b with
        | true => fe e2 fun ry e3 => noB [ry] ∧ acc.length < sizeLine ∧ N (acc ++ [ry.d]) (wipeE e3 own)
        | false => N acc (wipeE e2 own)) (tg (inj x) E)) (ok : okb E r) (hl : Hold (X.length ≤ sizeLine)) (fin : R ((X.filter p).map g) E) : apL (lcGo own tg ft fe r R) (X.map inj) [] E := by
  have ef : ∀ l : List α, l.filterMap (fun x => if p x then some (g x) else none) = (l.filter p).map g := fun l => by
    induction l with
    | nil => rfl
    | cons a l ih =>
      rw [List.filterMap_cons, List.filter_cons]
      cases h : p a with
      | true => simp [h, ih]
      | false => simp [h, ih]
  refine apL_op (lc_map inj (fun x => if p x then some (g x) else none) (fun x acc N hx hl hN => step x acc N hx hl (fun h => ?_) (fun h => ?_)) ok (by rw [ef]; exact fin) hl.out)
  · rw [if_pos h] at hN; exact hN
  · rw [if_neg (by rw [h]; decide)] at hN; rw [Option.toList_none, List.append_nil] at hN; exact hN
theorem lc_mp {α : Type} (inj : α → D) (g : α → D) {own : List Nat} {tg : FG} {ft : FT} {fe : FE} {r : Res} {R : List D → Pv.Env → Prop} {E : Pv.Env} {X : List α}
    (step : ∀ x acc (N : List D → Pv.Env → Prop), x ∈ X → acc.length < sizeLine → N (acc ++ [g x]) E →
      toEnv (fun e1 => ft e1 fun b e2 => match b with
        | true => fe e2 fun ry e3 => noB [ry] ∧ acc.length < sizeLine ∧ N (acc ++ [ry.d]) (wipeE e3 own)
        | false => N acc (wipeE e2 own)) (tg (inj x) E)) (ok : okb E r) (hl : Hold (X.length ≤ sizeLine)) (fin : R (X.map g) E) : apL (lcGo own tg ft fe r R) (X.map inj) [] E :=
  lc_fm inj (fun _ => true) g (fun x acc N hx hl h _ => step x acc N hx hl (h rfl)) ok hl (by rw [List.filter_eq_self.mpr fun _ _ => rfl]; exact fin)
theorem lc_fmI {α : Type} (inj : α → D) (p : α → Bool) (h : α → Int) {own : List Nat} {tg : FG} {ft : FT} {fe : FE} {r : Res} {R : List D → Pv.Env → Prop} {E : Pv.Env} {X : List α}
    (step : ∀ x acc (N : List D → Pv.Env → Prop), x ∈ X → acc.length < sizeLine → (p x = true → N (acc ++ [.int (h x)]) E) → (p x = false → N acc E) →
      toEnv (fun e1 => ft e1 fun b e2 => match b with
        | true => fe e2 fun ry e3 => noB [ry] ∧ acc.length < sizeLine ∧ N (acc ++ [ry.d]) (wipeE e3 own)
        | false => N acc (wipeE e2 own)) (tg (inj x) E)) (ok : okb E r) (hl : Hold (X.length ≤ 2 ^ 20)) (fin : R (((X.filter p).map h).map .int) E) : apL (lcGo own tg ft fe r R) (X.map inj) [] E :=
  lc_fm inj p (fun x => .int (h x)) step ok (.mk (Nat.le_trans hl.out (by decide))) (by rw [List.map_map] at fin; exact fin)
theorem lc_mpI {α : Type} (inj : α → D) (h : α → Int) {own : List Nat} {tg : FG} {ft : FT} {fe : FE} {r : Res} {R : List D → Pv.Env → Prop} {E : Pv.Env} {X : List α}
    (step : ∀ x acc (N : List D → Pv.Env → Prop), x ∈ X → acc.length < sizeLine → N (acc ++ [.int (h x)]) E →
      toEnv (fun e1 => ft e1 fun b e2 => match b with
        | true => fe e2 fun ry e3 => noB [ry] ∧ acc.length < sizeLine ∧ N (acc ++ [ry.d]) (wipeE e3 own)
        | false => N acc (wipeE e2 own)) (tg (inj x) E)) (ok : okb E r) (hl : Hold (X.length ≤ 2 ^ 20)) (fin : R ((X.map h).map .int) E) : apL (lcGo own tg ft fe r R) (X.map inj) [] E :=
  lc_mp inj (fun x => .int (h x)) step ok (.mk (Nat.le_trans hl.out (by decide))) (by rw [List.map_map] at fin; exact fin)
/-- .. when something is carried along -/
theorem lc_st {α : Type} (inj : α → D) {own : List Nat} {g : FG} {ft : FT} {fe : FE} {r : Res} {R : List D → Pv.Env → Prop} {E0 : Pv.Env} {acc0 : List D} {xs0 : List α} (Inv : List α → List D → Pv.Env → Pv.Env → Prop) (st : Inv xs0 acc0 E0 E0)
    (ok : ∀ xs acc e, Inv xs acc E0 e → okb e r)
    (step : ∀ x xs acc e (N : List D → Pv.Env → Prop), Inv (x :: xs) acc E0 e → (∀ acc' e', Inv xs acc' E0 e' → N acc' e') →
      toEnv (fun e1 => ft e1 fun b e2 => match b with
        | true => fe e2 fun ry e3 => noB [ry] ∧ acc.length < sizeLine ∧ N (acc ++ [ry.d]) (wipeE e3 own)
        | false => N acc (wipeE e2 own)) (g (inj x) e)) (fin : ∀ acc e, Inv [] acc E0 e → R acc e) : apL (lcGo own g ft fe r R) (xs0.map inj) acc0 E0 :=
  apL_op <| lc_inv inj (fun xs acc e => Inv xs acc E0 e) ok step fin xs0 acc0 E0 st
/-- .. a slot being of no more use -/
theorem lc_mpd {α : Type} (j : Nat) (inj : α → D) (g : α → D) {own : List Nat} {tg : FG} {ft : FT} {fe : FE} {r : Res} {R : List D → Pv.Env → Prop} {E : Pv.Env} {X : List α}
    (step : ∀ x acc (o : Option Cell) (N : List D → Pv.Env → Prop), x ∈ X → acc.length < sizeLine → (∀ o', N (acc ++ [g x]) (E.set j o')) →
      toEnv (fun e1 => ft e1 fun b e2 => match b with
        | true => fe e2 fun ry e3 => noB [ry] ∧ acc.length < sizeLine ∧ N (acc ++ [ry.d]) (wipeE e3 own)
        | false => N acc (wipeE e2 own)) (tg (inj x) (E.set j o))) (ok : ∀ o, okb (E.set j o) r) (hl : X.length ≤ 2 ^ 20) (o0 : Option Cell) (h0 : E = E.set j o0) (fin : ∀ o, R (X.map g) (E.set j o)) : apL (lcGo own tg ft fe r R) (X.map inj) [] E := by
  have hz : (2 : Nat) ^ 20 < sizeLine := by decide
  refine lc_st inj (fun xs acc _ e => ∃ (k : Nat) (o : Option Cell), e = E.set j o ∧ xs = X.drop k ∧ acc = (X.take k).map g ∧ k + xs.length = X.length) ⟨0, o0, h0, rfl, rfl, by rw [Nat.zero_add]⟩ (fun xs acc e h => ?_) (fun x xs acc e N h hN => ?_) (fun acc e h => ?_)
  · obtain ⟨k, o, rfl, _⟩ := h; exact ok o
  · obtain ⟨k, o, rfl, e1, rfl, e2⟩ := h
    rw [List.length_cons] at e2
    have hk : X[k]? = some x := by
      have : (X.drop k)[0]? = some x := by rw [← e1]; rfl
      rw [List.getElem?_drop] at this
      simpa using this
    refine step x _ o N (List.mem_of_getElem? hk) (by rw [List.length_map, List.length_take]; omega) fun o' => hN _ _ ⟨k + 1, o', rfl, ?_, ?_, by omega⟩
    · rw [← List.drop_drop, ← e1]; rfl
    · rw [List.take_add_one, hk, List.map_append]; rfl
  · obtain ⟨k, o, rfl, e1, rfl, e2⟩ := h
    rw [List.length_nil, Nat.add_zero] at e2
    rw [e2, List.take_length]
    exact fin o
/-- a loop, from the slots as they stand ahead of it -/
theorem for_st {α : Type} (inj : α → D) {g : FG} {body : FS} {k : Kt} {xs0 : List α} {E0 : Pv.Env} (Inv : List α → Pv.Env → Pv.Env → Prop) (st : Inv xs0 E0 E0)
    (step : ∀ x xs e (N : Pv.Env → Prop), Inv (x :: xs) E0 e → (∀ e', Inv xs E0 e' → N e') → toEnv (fun e1 => body e1 { k with nx := N, ct := N, bk := k.nx }) (g (inj x) e)) (fin : ∀ e, Inv [] E0 e → k.nx e) : apF (forGo g body k) (xs0.map inj) E0 :=
  apF_op <| for_inv inj (fun xs e => Inv xs E0 e) step fin xs0 E0 st
/-- .. the continuations being opaque: a long body is quicker so -/
theorem for_sk {α : Type} (inj : α → D) {g : FG} {body : FS} {k : Kt} {xs0 : List α} {E0 : Pv.Env} (Inv : List α → Pv.Env → Pv.Env → Prop) (st : Inv xs0 E0 E0)
    (step : ∀ x xs e (kk : Kt), kk.rt = k.rt → kk.bk = k.nx → Inv (x :: xs) E0 e → (∀ e', Inv xs E0 e' → kk.nx e') → toEnv (fun e1 => body e1 kk) (g (inj x) e)) (fin : ∀ e, Inv [] E0 e → k.nx e) : apF (forGo g body k) (xs0.map inj) E0 :=
  for_st inj Inv st (fun x xs e N hI hN => step x xs e { k with nx := N, ct := N, bk := k.nx } rfl rfl hI hN) fin
theorem toEnv_go {P : Pv.Env → Prop} {o : Option Pv.Env} {e : Pv.Env} (h : o = some e) (q : P e) : toEnv P o := by subst h; exact q
/-- a while, by what falls -/
theorem wh_st {c : FT} {body : FS} {k : Kt} {E0 : Pv.Env} (n : Nat) (Inv : Nat → Pv.Env → Prop) (st : Inv n E0)
    (step : ∀ m e (N : Pv.Env → Prop), Inv m e → (∀ m' e', m' < m → Inv m' e' → N e') → c e fun b e' => match b with
      | true => body e' { k with nx := N, ct := N, bk := k.nx }
      | false => k.nx e') : ∃ n, whGo c body k n E0 := by
  have go : ∀ (n m : Nat) (e : Pv.Env), m < n → Inv m e → whGo c body k n e := by
    intro n
    induction n with
    | zero => intro m e h; omega
    | succ n ih =>
      intro m e h hI
      rw [whGo]
      exact step m e (whGo c body k n) hI fun m' e' h' hI' => ih m' e' (by omega) hI'
  exact ⟨n + 1, go (n + 1) n E0 (by omega) st⟩
/-! ### repr: the text is looked at as a whole -/
@[irreducible] def shw (d : D) : Str := d.shown
theorem shw_eq (d : D) : shw d = d.shown := by unfold shw; rfl
/-- data of at most m layers and n signs -/
structure Rep (m n : Nat) (d : D) : Prop where
  lay : d.canLay0 = true
  sh : d.showable = true
  dp : d.depth ≤ m
  len : d.shown.length ≤ n
theorem Rep.mono {m n m' n' : Nat} {d : D} (h : Rep m n d) (h1 : m ≤ m') (h2 : n ≤ n') : Rep m' n' d := ⟨h.lay, h.sh, Nat.le_trans h.dp h1, Nat.le_trans h.len h2⟩
theorem Rep.int {i : Int} (h : i.natAbs < 10 ^ 19) : Rep 0 20 (.int i) := ⟨rfl, by
  show decide (i.natAbs.log2 < 1920) = true
  rw [decide_eq_true_eq]
  have : i.natAbs < 2 ^ 1920 := Nat.lt_of_lt_of_le h (by decide)
  by_cases h0 : i.natAbs = 0
  · rw [h0]; decide
  · exact (Nat.log2_lt h0).mpr this, Nat.le_refl 0, by
  have e := int_text_length_le10 (k := 19) (by decide) h
  show (Str.ofString (toString i)).length ≤ 20
  rw [PySem.ofString_length]; exact e⟩
theorem Rep.side {b : Bool} : Rep 0 20 (.str (sideS b)) := by
  cases b <;> exact ⟨by decide +kernel, by decide +kernel, by decide +kernel, by decide +kernel⟩
theorem rep_lay {m n : Nat} : ∀ {ds : List D}, (∀ d ∈ ds, Rep m n d) → PyData.canLayAll0 ds = true ∧ PyData.showableAll ds = true ∧ PyData.depthAll ds ≤ m ∧ ((PyData.shownAll ds).map (·.length)).sum ≤ n * ds.length
  | [], _ => ⟨rfl, rfl, Nat.zero_le _, Nat.zero_le _⟩
  | d :: ds, h => by
    obtain ⟨h1, h2, h3, h4⟩ := rep_lay (ds := ds) fun x hx => h x (List.mem_cons_of_mem _ hx)
    have g := h d (List.mem_cons_self ..)
    refine ⟨?_, ?_, ?_, ?_⟩
    · show (PyData.canLay0 d && PyData.canLayAll0 ds) = true
      rw [g.lay, h1]; rfl
    · show (PyData.showable d && PyData.showableAll ds) = true
      rw [g.sh, h2]; rfl
    · exact Nat.max_le.mpr ⟨g.dp, h3⟩
    · show d.shown.length + ((PyData.shownAll ds).map (·.length)).sum ≤ n * (ds.length + 1)
      have := g.len
      rw [Nat.mul_add]; omega
theorem Rep.list {m n : Nat} {ds : List D} (h : ∀ d ∈ ds, Rep m n d) : Rep (m + 1) ((n + 2) * ds.length + 3) (.list ds) := by
  obtain ⟨h1, h2, h3, h4⟩ := rep_lay h
  have h5 := listText_len_le (PyData.shownAll ds)
  have h6 := PyData.shownAll_length ds
  refine ⟨h1, h2, Nat.succ_le_succ h3, ?_⟩
  show (listText (PyData.shownAll ds)).length ≤ _
  rw [h6] at h5
  rw [Nat.add_mul]; omega
theorem Rep.tuple {m n : Nat} {ds : List D} (h : ∀ d ∈ ds, Rep m n d) : Rep (m + 1) ((n + 2) * ds.length + 3) (.tuple ds) := by
  obtain ⟨h1, h2, h3, h4⟩ := rep_lay h
  have h5 := tupleText_len_le (PyData.shownAll ds)
  have h6 := PyData.shownAll_length ds
  refine ⟨h1, h2, Nat.succ_le_succ h3, ?_⟩
  show (tupleText (PyData.shownAll ds)).length ≤ _
  rw [h6] at h5
  rw [Nat.add_mul]; omega
theorem Rep.listM {α : Type} {inj : α → D} {m n l : Nat} {xs : List α} (hl : xs.length ≤ l) (h : ∀ x ∈ xs, Rep m n (inj x)) : Rep (m + 1) ((n + 2) * l + 3) (.list (xs.map inj)) :=
  (Rep.list (m := m) (n := n) fun d hd => by obtain ⟨x, hx, rfl⟩ := List.mem_map.mp hd; exact h x hx).mono (Nat.le_refl _) (by rw [List.length_map]; have := Nat.mul_le_mul_left (n + 2) hl; omega)
theorem Rep.tupleM {α : Type} {inj : α → D} {m n l : Nat} {xs : List α} (hl : xs.length ≤ l) (h : ∀ x ∈ xs, Rep m n (inj x)) : Rep (m + 1) ((n + 2) * l + 3) (.tuple (xs.map inj)) :=
  (Rep.tuple (m := m) (n := n) fun d hd => by obtain ⟨x, hx, rfl⟩ := List.mem_map.mp hd; exact h x hx).mono (Nat.le_refl _) (by rw [List.length_map]; have := Nat.mul_le_mul_left (n + 2) hl; omega)
theorem Rep.ints {l : Nat} {ws : List Int} (hl : ws.length ≤ l) (h : ∀ x ∈ ws, x.natAbs < 10 ^ 19) : Rep 1 (22 * l + 3) (.list (ws.map .int)) := Rep.listM hl fun x hx => Rep.int (h x hx)
theorem Rep.intsT {l : Nat} {ws : List Int} (hl : ws.length ≤ l) (h : ∀ x ∈ ws, x.natAbs < 10 ^ 19) : Rep 1 (22 * l + 3) (.tuple (ws.map .int)) := Rep.tupleM hl fun x hx => Rep.int (h x hx)
theorem Rep.ofInts {l : Nat} {ws : List Int} {d : D} (e : Ints d ws) (hl : ws.length ≤ l) (h : ∀ x ∈ ws, x.natAbs < 10 ^ 19) : Rep 1 (22 * l + 3) d := by
  rcases e with rfl | rfl
  · exact Rep.ints hl h
  · exact Rep.intsT hl h
/-- a standing -/
theorem Rep.dS {l : Nat} {x : Tr} (h1 : x.1.natAbs < 10 ^ 19) (h2 : x.2.2.natAbs < 10 ^ 19) (hl : x.2.1.length ≤ l) (h : ∀ y ∈ x.2.1, y.natAbs < 10 ^ 19) : Rep 2 (66 * l + 80) (dS x) := by
  have a : ∀ d ∈ [PyData.int x.1, .tuple (x.2.1.map .int), .int x.2.2], Rep 1 (22 * l + 23) d := by
    intro d hd
    simp only [List.mem_cons, List.not_mem_nil, or_false] at hd
    rcases hd with rfl | rfl | rfl
    · exact (Rep.int h1).mono (by omega) (by omega)
    · exact (Rep.intsT hl h).mono (by omega) (by omega)
    · exact (Rep.int h2).mono (by omega) (by omega)
  exact (Rep.tuple a).mono (by omega) (by show (22 * l + 23 + 2) * 3 + 3 ≤ _; omega)
theorem Rep.prW {w : Bool} {p : Bool × Int} (h : p.2.natAbs < 10 ^ 19) : Rep 1 47 (prW w p) := by
  have a : ∀ d ∈ [PyData.str (sideS p.1), .int p.2], Rep 0 20 d := by
    intro d hd
    simp only [List.mem_cons, List.not_mem_nil, or_false] at hd
    rcases hd with rfl | rfl
    · exact Rep.side
    · exact Rep.int h
  cases w
  · exact (Rep.tuple a).mono (by omega) (by show (20 + 2) * 2 + 3 ≤ 47; omega)
  · exact (Rep.list a).mono (by omega) (by show (20 + 2) * 2 + 3 ≤ 47; omega)
theorem Rep.d {m n : Nat} {d : D} (h : Rep m n d) (hs : ∃ ds, d = .list ds ∨ d = .tuple ds) (hm : m ≤ 60 := by decide) (hn : n ≤ 10000000 := by decide) : RepD d :=
  ⟨h.lay, h.sh, Nat.le_trans h.dp hm, Nat.le_trans (Nat.le_trans h.len hn) (by rw [sizeLine_eq]; decide)⟩
theorem Rep.a {m n : Nat} {d : D} (h : Rep m n d) (hm : m ≤ 60 := by decide) (hn : n ≤ 10000000 := by decide) : RepD d :=
  ⟨h.lay, h.sh, Nat.le_trans h.dp hm, Nat.le_trans (Nat.le_trans h.len hn) (by rw [sizeLine_eq]; decide)⟩
section
variable {r : Res} {d : D} {R : KC} {k k' : Nat}
theorem v_reprV (h : Hold (RepD d)) (q : R 0 (.str (shw d))) : apN (at1 oRepr) [.v k d] R := apN_op (by show RepD d ∧ R 0 (.str d.shown); rw [← shw_eq]; exact ⟨h.out, q⟩)
theorem v_reprB (h : Hold (RepD d)) (q : R 0 (.str (shw d))) : apN (at1 oRepr) [.b k k' d] R := apN_op (by show RepD d ∧ R 0 (.str d.shown); rw [← shw_eq]; exact ⟨h.out, q⟩)
theorem v_eqW (q : R 0 (.bool true)) : ap2 oEq (.v k (.str (shw d))) (.v k' (.str (shw d))) R := ap2_op (by show R 0 (.bool (decide (shw d = shw d))); rw [decide_eq_true rfl]; exact q)
theorem v_neW (q : R 0 (.bool false)) : ap2 oNe (.v k (.str (shw d))) (.v k' (.str (shw d))) R := ap2_op (by show R 0 (.bool (!decide (shw d = shw d))); rw [decide_eq_true rfl]; exact q)
end
/-- the box is a list of ints: a slot may be lent -/
theorem lend_bx {m : Nat} {z : D} {e e' : Pv.Env} (h : Bk m (ow z)) : ∀ j ∈ [0], (some (ow z) :: e' : Pv.Env)[j]? = (some (ow z) :: e : Pv.Env)[j]? ∧ ∃ ns : List Int, (some (ow z) :: e : Pv.Env)[j]? = some (some ⟨1, .list (ns.map .int)⟩) := by
  intro j hj
  have hj0 : j = 0 := by simpa using hj
  subst hj0
  obtain ⟨n, ⟨a, b, c, e1, _⟩, _⟩ := h.get
  exact ⟨rfl, [a, b, c], congrArg (fun q => some (some q)) e1⟩
end Lw

/-! Vm: what tilts do, in plain Lean. -/
namespace Lw
open PySem PySem.Spec PyProof.Rows L2 Pv
theorem roll_app (s : Int) (lot : List Int) : ∀ (a b : List Int) (p r : Int), roll s lot (a ++ b) p r = ((roll s lot a p r).1 ++ (roll s lot b (p + a.length) (roll s lot a p r).2).1, (roll s lot b (p + a.length) (roll s lot a p r).2).2)
  | [], b, p, r => by simp [roll]
  | w :: a, b, p, r => by
    have e : p + ((w :: a).length : Int) = p + 1 + (a.length : Int) := by rw [List.length_cons]; omega
    rw [List.cons_append, e, roll, roll]
    split
    · exact roll_app s lot a b (p + 1) _
    · split
      · rw [roll_app s lot a b (p + 1) r]; rfl
      · split
        · rw [roll_app s lot a b (p + 1) (r - 1)]; rfl
        · exact roll_app s lot a b (p + 1) r
/-- how many of a lot from p on -/
def cnt (lot : List Int) (p : Int) : Nat → Int
  | 0 => 0
  | n + 1 => (if p ∈ lot then 1 else 0) + cnt lot (p + 1) n
theorem cnt_nil (p : Int) : ∀ n, cnt [] p n = 0
  | 0 => rfl
  | n + 1 => by rw [cnt, cnt_nil (p + 1) n]; rfl
theorem roll_low {s : Int} {lot : List Int} : ∀ {ws : List Int} {p r : Int}, (∀ w ∈ ws, w < s) → roll s lot ws p r = ([], r + cnt lot p ws.length)
  | [], p, r, _ => by simp [roll, cnt]
  | w :: ws, p, r, h => by
    rw [roll, if_pos (h w List.mem_cons_self), roll_low fun x hx => h x (List.mem_cons_of_mem _ hx)]
    rw [List.length_cons, cnt]
    congr 1; omega
theorem roll_bare {s : Int} {lot : List Int} : ∀ {ws : List Int} {p r : Int}, (∀ w ∈ ws, s ≤ w) → (∀ i, p ≤ i → i < p + ws.length → i ∉ lot) → 0 ≤ r → roll s lot ws p r = (irange p (p + min r ws.length), r - min r ws.length)
  | [], p, r, _, _, h => by
    rw [roll, irange_nil (by simp; omega)]
    congr 1; simp; omega
  | w :: ws, p, r, h, h2, h3 => by
    have hw := h w List.mem_cons_self
    have ih := fun r hr => roll_bare (s := s) (lot := lot) (ws := ws) (p := p + 1) (r := r) (fun x hx => h x (List.mem_cons_of_mem _ hx)) (fun i h4 h5 => h2 i (by omega) (by rw [List.length_cons]; omega)) hr
    rw [roll, if_neg (show ¬ w < s by omega), if_neg (h2 p (by omega) (by rw [List.length_cons]; omega))]
    split
    · rw [ih (r - 1) (by omega), List.length_cons, irange_cons (lo := p) (by omega), show p + 1 + min (r - 1) (ws.length : Int) = p + min r ((ws.length + 1 : Nat) : Int) by omega, show r - 1 - min (r - 1) (ws.length : Int) = r - min r ((ws.length + 1 : Nat) : Int) by omega]
    · rw [ih r h3, irange_nil (by omega), irange_nil (by omega)]
      congr 1; rw [List.length_cons]; omega
theorem roll_full {s : Int} {lot : List Int} : ∀ {ws : List Int} {p r : Int}, (∀ w ∈ ws, s ≤ w) → (∀ i, p ≤ i → i < p + ws.length → i ∈ lot) → roll s lot ws p r = (irange p (p + ws.length), r)
  | [], p, r, _, _ => by rw [roll, irange_nil (by simp)]
  | w :: ws, p, r, h, h2 => by
    have hw := h w List.mem_cons_self
    rw [roll, if_neg (show ¬ w < s by omega), if_pos (h2 p (by omega) (by rw [List.length_cons]; omega)), roll_full (fun x hx => h x (List.mem_cons_of_mem _ hx)) (fun i h4 h5 => h2 i (by omega) (by rw [List.length_cons]; omega))]
    rw [List.length_cons, irange_cons (lo := p) (by omega), show p + 1 + (ws.length : Int) = p + ((ws.length + 1 : Nat) : Int) by omega]
theorem irange_app {a b c : Int} (h : a ≤ b) (h2 : b ≤ c) : irange a b ++ irange b c = irange a c := by
  unfold irange
  rw [show (c - a).toNat = (b - a).toNat + (c - b).toNat by omega, List.range_add, List.map_append, List.map_map]
  congr 1
  refine List.map_congr_left fun i _ => ?_
  show b + (i : Int) = a + (((b - a).toNat + i : Nat) : Int)
  omega
theorem irange_rev_map (a b n : Int) : ((irange a b).map fun p => n - 1 - p).reverse = irange (n - b) (n - a) := by
  refine List.ext_getElem? fun i => ?_
  by_cases hi : i < (b - a).toNat
  · rw [List.getElem?_reverse (by rw [List.length_map, irange_len]; exact hi), List.length_map, irange_len, List.getElem?_map, irange_get (by omega), irange_get (by omega)]
    show some (n - 1 - (a + (((b - a).toNat - 1 - i : Nat) : Int))) = _
    congr 1; omega
  · rw [List.getElem?_eq_none (by rw [List.length_reverse, List.length_map, irange_len]; omega), List.getElem?_eq_none (by rw [irange_len]; omega)]
theorem turnI_range (n : Nat) (a b : Int) : turnI n (irange a b) = irange (n - b) (n - a) := irange_rev_map a b n
theorem turnI_app (n : Nat) (a b : List Int) : turnI n (a ++ b) = turnI n b ++ turnI n a := by unfold turnI; rw [List.map_append, List.reverse_append]
theorem turnI_nil (n : Nat) : turnI n [] = [] := rfl
theorem iterS_fix {f : Tr → Tr} {y : Tr} (h : f y = y) : ∀ n, iterS f n y = y
  | 0 => rfl
  | n + 1 => by rw [iterS, h]; exact iterS_fix h n
theorem iterS_one {f : Tr → Tr} {x y : Tr} (h : f x = y) (h2 : f y = y) {n : Nat} (hn : 1 ≤ n) : iterS f n x = y := by
  match n, hn with
  | n + 1, _ => rw [iterS, h]; exact iterS_fix h2 n
theorem tiltS_r (ws : List Int) (s l : Int) (lot : List Int) (r : Int) : tiltS ws true s (l, lot, r) = (0, (roll s lot ws 0 l).1, r + (roll s lot ws 0 l).2) := rfl
theorem tiltS_l (ws : List Int) (s l : Int) (lot : List Int) (r : Int) : tiltS ws false s (l, lot, r) = (l + (roll s (turnI ws.length lot) ws.reverse 0 r).2, turnI ws.length (roll s (turnI ws.length lot) ws.reverse 0 r).1, 0) := rfl
theorem ledS_cons (ws : List Int) (b : Bool) (s : Int) (row : List (Bool × Int)) (x : Tr) : ledS ws ((b, s) :: row) x = ledS ws row (tiltS ws b s x) := rfl
theorem ledS_nil (ws : List Int) (x : Tr) : ledS ws [] x = x := rfl
theorem ledS_app (ws : List Int) (a b : List (Bool × Int)) (x : Tr) : ledS ws (a ++ b) x = ledS ws b (ledS ws a x) := List.foldl_append
/-! ### pit by pit in an order -/
def rollO (dp : Int → Int) (s : Int) (lot : List Int) : List Int → Int → List Int × Int
  | [], r => ([], r)
  | q :: ord, r =>
    if dp q < s then rollO dp s lot ord (r + if q ∈ lot then 1 else 0)
    else if q ∈ lot then (q :: (rollO dp s lot ord r).1, (rollO dp s lot ord r).2)
    else if 0 < r then (q :: (rollO dp s lot ord (r - 1)).1, (rollO dp s lot ord (r - 1)).2)
    else rollO dp s lot ord r
def ordB (n : Nat) (b : Bool) : List Int := if b then irange 0 n else (irange 0 n).reverse
theorem roll_eq {dp : Int → Int} {s : Int} {lot : List Int} : ∀ (ws : List Int) (p r : Int), (∀ (i : Nat) (h : i < ws.length), dp (p + i) = ws[i]) → roll s lot ws p r = rollO dp s lot (irange p (p + ws.length)) r
  | [], p, r, _ => by rw [irange_nil (by simp)]; rfl
  | w :: ws, p, r, h => by
    have h0 : dp p = w := by have := h 0 (by simp); simpa using this
    have ih := fun r => roll_eq (dp := dp) (s := s) (lot := lot) ws (p + 1) r fun i hi => by
      have := h (i + 1) (by simpa using hi)
      rw [show p + 1 + (i : Int) = p + ((i + 1 : Nat) : Int) by omega]
      simpa using this
    rw [List.length_cons, irange_cons (by omega), show p + ((ws.length + 1 : Nat) : Int) = p + 1 + (ws.length : Int) by omega, roll, rollO, h0, ih, ih, ih]
theorem rollO_map {dp dp' : Int → Int} {s : Int} {lot lot' : List Int} {f : Int → Int} : ∀ (ord : List Int) (r : Int), (∀ q ∈ ord, dp' q = dp (f q)) → (∀ q ∈ ord, (q ∈ lot' ↔ f q ∈ lot)) → rollO dp s lot (ord.map f) r = ((rollO dp' s lot' ord r).1.map f, (rollO dp' s lot' ord r).2)
  | [], r, _, _ => rfl
  | q :: ord, r, h, h2 => by
    have hq := h q List.mem_cons_self
    have hl := h2 q List.mem_cons_self
    have ih := fun r => rollO_map (dp := dp) (dp' := dp') (s := s) (lot := lot) (lot' := lot') (f := f) ord r (fun x hx => h x (List.mem_cons_of_mem _ hx)) (fun x hx => h2 x (List.mem_cons_of_mem _ hx))
    rw [List.map_cons, rollO, rollO, ih, ih, ih, hq]
    by_cases hm : q ∈ lot'
    · rw [if_pos hm, if_pos hm, if_pos (hl.mp hm), if_pos (hl.mp hm)]
      split <;> rfl
    · rw [if_neg hm, if_neg hm, if_neg (fun z => hm (hl.mpr z)), if_neg (fun z => hm (hl.mpr z))]
      split
      · rfl
      · split <;> rfl
theorem gI_nat {ws : List Int} {i : Nat} (h : i < ws.length) : gI ws (i : Int) = ws[i] := by unfold gI; rw [Int.toNat_natCast, List.getD_eq_getElem?_getD, List.getElem?_eq_getElem h]; rfl
theorem gI_mem {ws : List Int} {i : Int} (h0 : 0 ≤ i) (h : i < ws.length) : gI ws i ∈ ws := by
  obtain ⟨n, rfl⟩ : ∃ n : Nat, i = n := ⟨i.toNat, by omega⟩
  rw [gI_nat (by omega)]
  exact List.getElem_mem _
/-- what comes from a tilt's own side -/
def src (b : Bool) (x : Tr) : Int := if b then x.1 else x.2.2
def OO (ws : List Int) (b : Bool) (s : Int) (x : Tr) : List Int × Int := rollO (gI ws) s x.2.1 (ordB ws.length b) (src b x)
theorem mem_turnI {n : Nat} {lot : List Int} {q : Int} : q ∈ turnI n lot ↔ (n : Int) - 1 - q ∈ lot := by
  unfold turnI
  rw [List.mem_reverse, List.mem_map]
  constructor
  · rintro ⟨p, hp, rfl⟩
    rw [show (n : Int) - 1 - (n - 1 - p) = p by omega]; exact hp
  · intro h
    exact ⟨_, h, by omega⟩
theorem rollL_O (ws : List Int) (s r : Int) (lot : List Int) : rollO (gI ws) s lot (irange 0 ws.length).reverse r = ((turnI ws.length (roll s (turnI ws.length lot) ws.reverse 0 r).1).reverse, (roll s (turnI ws.length lot) ws.reverse 0 r).2) := by
  have h1 := roll_eq (dp := fun q => gI ws (ws.length - 1 - q)) (s := s) (lot := turnI ws.length lot) ws.reverse 0 r fun i hi => by
    rw [List.length_reverse] at hi
    rw [List.getElem_reverse, show (ws.length : Int) - 1 - (0 + (i : Int)) = ((ws.length - 1 - i : Nat) : Int) by omega, gI_nat]
  rw [List.length_reverse, Int.zero_add] at h1
  have h2 : (irange 0 (ws.length : Int)).reverse = (irange 0 (ws.length : Int)).map (fun p => (ws.length : Int) - 1 - p) := by
    have := irange_rev_map 0 ws.length ws.length
    rw [Int.sub_self, Int.sub_zero] at this
    rw [← this, List.reverse_reverse, this]
  rw [h2, rollO_map (dp := gI ws) (dp' := fun q => gI ws (ws.length - 1 - q)) (lot' := turnI ws.length lot) _ _ (fun q _ => rfl) (fun q _ => mem_turnI), ← h1]
  unfold turnI
  rw [List.reverse_reverse]
theorem rollR_O (ws : List Int) (s r : Int) (lot : List Int) : rollO (gI ws) s lot (irange 0 ws.length) r = roll s lot ws 0 r := by
  have h1 := roll_eq (dp := gI ws) (s := s) (lot := lot) ws 0 r fun i hi => by rw [Int.zero_add, gI_nat hi]
  rw [h1, Int.zero_add]
theorem tiltS_O (ws : List Int) (b : Bool) (s : Int) (x : Tr) : tiltS ws b s x = if b then (0, (OO ws b s x).1, x.2.2 + (OO ws b s x).2) else (x.1 + (OO ws b s x).2, (OO ws b s x).1.reverse, 0) := by
  obtain ⟨l, lot, r⟩ := x
  cases b with
  | true => rw [tiltS_r]; show _ = (0, (rollO (gI ws) s lot (irange 0 ws.length) l).1, r + (rollO (gI ws) s lot (irange 0 ws.length) l).2); rw [rollR_O]
  | false =>
    rw [tiltS_l]
    show _ = (l + (rollO (gI ws) s lot (irange 0 ws.length).reverse r).2, (rollO (gI ws) s lot (irange 0 ws.length).reverse r).1.reverse, 0)
    rw [rollL_O, List.reverse_reverse]
def rolS (ws : List Int) (b : Bool) (s : Int) (x : Tr) : Int := (tiltF ws x.1 x.2.1 x.2.2 b s).2
theorem rolS_O (ws : List Int) (b : Bool) (s : Int) (x : Tr) : rolS ws b s x = (OO ws b s x).2 := by
  obtain ⟨l, lot, r⟩ := x
  cases b with
  | true => show (roll s lot ws 0 l).2 = (rollO (gI ws) s lot (irange 0 ws.length) l).2; rw [rollR_O]
  | false => show (roll s (turnI ws.length lot) ws.reverse 0 r).2 = (rollO (gI ws) s lot (irange 0 ws.length).reverse r).2; rw [rollL_O]
theorem rollO_sub (dp : Int → Int) (s : Int) (lot : List Int) : ∀ (ord : List Int) (r : Int), ((rollO dp s lot ord r).1).Sublist ord
  | [], _ => .slnil
  | q :: ord, r => by
    rw [rollO]
    split
    · exact (rollO_sub dp s lot ord _).cons q
    · split
      · exact (rollO_sub dp s lot ord _).cons₂ q
      · split
        · exact (rollO_sub dp s lot ord _).cons₂ q
        · exact (rollO_sub dp s lot ord _).cons q
theorem rollO_deep (dp : Int → Int) (s : Int) (lot : List Int) : ∀ (ord : List Int) (r q : Int), q ∈ (rollO dp s lot ord r).1 → s ≤ dp q
  | [], _, _, h => by cases h
  | q' :: ord, r, q, h => by
    rw [rollO] at h
    split at h
    · exact rollO_deep dp s lot ord _ q h
    · split at h
      · rcases List.mem_cons.mp h with rfl | h
        · omega
        · exact rollO_deep dp s lot ord _ q h
      · split at h
        · rcases List.mem_cons.mp h with rfl | h
          · omega
          · exact rollO_deep dp s lot ord _ q h
        · exact rollO_deep dp s lot ord _ q h
theorem rollO_keep (dp : Int → Int) (s : Int) (lot : List Int) : ∀ (ord : List Int) (r q : Int), q ∈ ord → q ∈ lot → s ≤ dp q → q ∈ (rollO dp s lot ord r).1
  | [], _, _, h, _, _ => by cases h
  | q' :: ord, r, q, h, hl, hd => by
    rw [rollO]
    rcases List.mem_cons.mp h with rfl | h
    · rw [if_neg (by omega), if_pos hl]; exact List.mem_cons_self
    · split
      · exact rollO_keep dp s lot ord _ q h hl hd
      · split
        · exact List.mem_cons_of_mem _ (rollO_keep dp s lot ord _ q h hl hd)
        · split
          · exact List.mem_cons_of_mem _ (rollO_keep dp s lot ord _ q h hl hd)
          · exact rollO_keep dp s lot ord _ q h hl hd
theorem rollO_nn (dp : Int → Int) (s : Int) (lot : List Int) : ∀ (ord : List Int) (r : Int), 0 ≤ r → 0 ≤ (rollO dp s lot ord r).2
  | [], _, h => h
  | q :: ord, r, h => by
    rw [rollO]
    split
    · exact rollO_nn dp s lot ord _ (by split <;> omega)
    · split
      · exact rollO_nn dp s lot ord _ h
      · split
        · exact rollO_nn dp s lot ord _ (by omega)
        · exact rollO_nn dp s lot ord _ h
/-- beads are kept -/
theorem rollO_cnt (dp : Int → Int) (s : Int) (lot : List Int) : ∀ (ord : List Int) (r : Int), 0 ≤ r → ((rollO dp s lot ord r).1.length : Int) + (rollO dp s lot ord r).2 = r + ((ord.filter (· ∈ lot)).length : Int)
  | [], r, _ => by simp [rollO]
  | q :: ord, r, h => by
    have ih := fun r h => rollO_cnt dp s lot ord r h
    rw [rollO, List.filter_cons]
    by_cases hm : q ∈ lot
    · simp only [hm, decide_true, if_true]
      split
      · have := ih (r + 1) (by omega)
        rw [List.length_cons]; omega
      · have := ih r h
        rw [List.length_cons, List.length_cons]; omega
    · simp only [hm, decide_false, if_false, Bool.false_eq_true, Int.add_zero]
      split
      · exact ih r h
      · split
        · have := ih (r - 1) (by omega)
          rw [List.length_cons]; omega
        · exact ih r h
/-- what is still free behind a tilt -/
def freeO (dp : Int → Int) (s : Int) (L ord : List Int) : List Int := ord.filter fun i => decide (s ≤ dp i) && !decide (i ∈ L)
theorem freeO_congr {dp : Int → Int} {s : Int} {L L' ord : List Int} (h : ∀ i ∈ ord, (i ∈ L ↔ i ∈ L')) : freeO dp s L ord = freeO dp s L' ord := by
  unfold freeO
  refine List.filter_congr fun i hi => ?_
  rw [decide_eq_decide.mpr (h i hi)]
/-- one bead more rolls -/
theorem roll_succ {dp : Int → Int} {s : Int} {lot : List Int} : ∀ (ord : List Int) (r : Int), ord.Nodup → 0 ≤ r →
    (freeO dp s (rollO dp s lot ord r).1 ord = [] → rollO dp s lot ord (r + 1) = ((rollO dp s lot ord r).1, (rollO dp s lot ord r).2 + 1)) ∧
    (∀ f fs, freeO dp s (rollO dp s lot ord r).1 ord = f :: fs → (∀ i, i ∈ (rollO dp s lot ord (r + 1)).1 ↔ i = f ∨ i ∈ (rollO dp s lot ord r).1) ∧ (rollO dp s lot ord (r + 1)).2 = (rollO dp s lot ord r).2)
  | [], r, _, _ => ⟨fun _ => rfl, fun f fs h => by cases h⟩
  | q :: ord, r, hn, hr => by
    obtain ⟨hq, hn⟩ := List.nodup_cons.mp hn
    have ih := fun r hr => roll_succ (dp := dp) (s := s) (lot := lot) ord r hn hr
    have hsub := fun r x (h : x ∈ (rollO dp s lot ord r).1) => (rollO_sub dp s lot ord r).subset h
    by_cases h1 : dp q < s
    · have e : ∀ r, rollO dp s lot (q :: ord) r = rollO dp s lot ord (r + if q ∈ lot then 1 else 0) := fun r => by rw [rollO, if_pos h1]
      have ef : ∀ L, freeO dp s L (q :: ord) = freeO dp s L ord := fun L => by
        unfold freeO
        rw [List.filter_cons, if_neg (by simp; omega)]
      have h2 := ih (r + if q ∈ lot then 1 else 0) (by split <;> omega)
      rw [e, e, ef, show r + 1 + (if q ∈ lot then 1 else 0) = r + (if q ∈ lot then 1 else 0) + 1 by omega]
      exact h2
    · by_cases h2 : q ∈ lot
      · have e : ∀ r, rollO dp s lot (q :: ord) r = (q :: (rollO dp s lot ord r).1, (rollO dp s lot ord r).2) := fun r => by rw [rollO, if_neg h1, if_pos h2]
        have ef : freeO dp s (q :: (rollO dp s lot ord r).1) (q :: ord) = freeO dp s (rollO dp s lot ord r).1 ord := by
          unfold freeO
          rw [List.filter_cons, if_neg (by simp)]
          refine List.filter_congr fun i hi => ?_
          rw [decide_eq_decide.mpr (show i ∈ q :: (rollO dp s lot ord r).1 ↔ i ∈ (rollO dp s lot ord r).1 from ⟨fun h => (List.mem_cons.mp h).elim (fun z => absurd (z ▸ hi) hq) id, List.mem_cons_of_mem _⟩)]
        obtain ⟨h3, h4⟩ := ih r hr
        rw [e, e, ef]
        refine ⟨fun h => ?_, fun f fs h => ?_⟩
        · rw [h3 h]
        · obtain ⟨h5, h6⟩ := h4 f fs h
          refine ⟨fun i => ?_, h6⟩
          rw [List.mem_cons, List.mem_cons, h5]
          constructor <;> (rintro (h | h | h) <;> simp [h])
      · by_cases h3 : 0 < r
        · have e : ∀ r, 0 < r → rollO dp s lot (q :: ord) r = (q :: (rollO dp s lot ord (r - 1)).1, (rollO dp s lot ord (r - 1)).2) := fun r hr => by rw [rollO, if_neg h1, if_neg h2, if_pos hr]
          have ef : freeO dp s (q :: (rollO dp s lot ord (r - 1)).1) (q :: ord) = freeO dp s (rollO dp s lot ord (r - 1)).1 ord := by
            unfold freeO
            rw [List.filter_cons, if_neg (by simp)]
            refine List.filter_congr fun i hi => ?_
            rw [decide_eq_decide.mpr (show i ∈ q :: (rollO dp s lot ord (r - 1)).1 ↔ i ∈ (rollO dp s lot ord (r - 1)).1 from ⟨fun h => (List.mem_cons.mp h).elim (fun z => absurd (z ▸ hi) hq) id, List.mem_cons_of_mem _⟩)]
          obtain ⟨h4, h5⟩ := ih (r - 1) (by omega)
          rw [e r h3, e (r + 1) (by omega), ef, show r + 1 - 1 = r - 1 + 1 by omega]
          refine ⟨fun h => ?_, fun f fs h => ?_⟩
          · rw [h4 h]
          · obtain ⟨h6, h7⟩ := h5 f fs h
            refine ⟨fun i => ?_, h7⟩
            rw [List.mem_cons, List.mem_cons, h6]
            constructor <;> (rintro (h | h | h) <;> simp [h])
        · have hz : r = 0 := by omega
          subst hz
          have e0 : rollO dp s lot (q :: ord) 0 = rollO dp s lot ord 0 := by rw [rollO, if_neg h1, if_neg h2, if_neg h3]
          have e1 : rollO dp s lot (q :: ord) (0 + 1) = (q :: (rollO dp s lot ord 0).1, (rollO dp s lot ord 0).2) := by rw [rollO, if_neg h1, if_neg h2, if_pos (by omega)]; rfl
          have ef : freeO dp s (rollO dp s lot ord 0).1 (q :: ord) = q :: freeO dp s (rollO dp s lot ord 0).1 ord := by
            unfold freeO
            rw [List.filter_cons, if_pos]
            simp only [Bool.and_eq_true, decide_eq_true_eq, Bool.not_eq_true', decide_eq_false_iff_not]
            exact ⟨by omega, fun h => hq (hsub _ _ h)⟩
          rw [e0, e1, ef]
          refine ⟨fun h => (by cases h), fun f fs h => ?_⟩
          obtain ⟨rfl, _⟩ := List.cons.inj h
          exact ⟨fun i => List.mem_cons, rfl⟩
/-! ### bead by bead, the foremost first -/
/-- what lies beyond a pit -/
def overO (ord : List Int) (q : Int) : List Int := (ord.reverse.take (ord.reverse.idxOf q)).reverse
theorem overO_eq {a c : List Int} {q : Int} (h : q ∉ c) : overO (a ++ q :: c) q = c := by
  unfold overO
  have e : (a ++ q :: c).reverse = c.reverse ++ q :: a.reverse := by rw [List.reverse_append, List.reverse_cons, List.append_assoc]; rfl
  rw [e, List.idxOf_append, if_neg (by rw [List.mem_reverse]; exact h), List.idxOf_cons_self, Nat.zero_add, List.take_left, List.reverse_reverse]
def ownStep (dp : Int → Int) (s : Int) (ord : List Int) (st : List Int × Int) (spot : Option Int) : List Int × Int :=
  let over := match spot with | none => ord | some q => overO ord q
  (st.1 ++ (freeO dp s st.1 over).take 1, st.2 + if freeO dp s st.1 over = [] then 1 else 0)
def beginsO (dp : Int → Int) (s : Int) (lot ord : List Int) (rear : Nat) : List (Option Int) := ((ord.reverse.filter fun q => decide (q ∈ lot) && decide (dp q < s)).map some) ++ List.replicate rear none
/-- a state that is as a sweep over c has it, beside what stood elsewhere -/
def Fits (dp : Int → Int) (s : Int) (lot : List Int) (full0 c : List Int) (r : Int) (st : List Int × Int) : Prop :=
  (∀ i ∈ c, (i ∈ st.1 ↔ i ∈ (rollO dp s lot c r).1)) ∧ (∀ i, i ∉ c → (i ∈ st.1 ↔ i ∈ full0)) ∧ st.2 = (rollO dp s lot c r).2 ∧ st.1.Nodup
theorem fits_step {dp : Int → Int} {s : Int} {lot full0 c : List Int} {r : Int} {st : List Int × Int} (hn : c.Nodup) (hr : 0 ≤ r) (h : Fits dp s lot full0 c r st) :
    Fits dp s lot full0 c (r + 1) (st.1 ++ (freeO dp s st.1 c).take 1, st.2 + if freeO dp s st.1 c = [] then 1 else 0) := by
  obtain ⟨h1, h2, h3, h4⟩ := h
  obtain ⟨s1, s2⟩ := roll_succ (dp := dp) (s := s) (lot := lot) c r hn hr
  have ef : freeO dp s st.1 c = freeO dp s (rollO dp s lot c r).1 c := freeO_congr h1
  cases hf : freeO dp s (rollO dp s lot c r).1 c with
  | nil =>
    have e := s1 hf
    rw [ef, hf, if_pos rfl, List.take_nil, List.append_nil]
    exact ⟨fun i hi => by rw [e]; exact h1 i hi, h2, by rw [e, h3], h4⟩
  | cons f fs =>
    obtain ⟨t1, t2⟩ := s2 f fs hf
    have hfm : f ∈ freeO dp s (rollO dp s lot c r).1 c := by rw [hf]; exact List.mem_cons_self
    unfold freeO at hfm
    obtain ⟨m1, m2⟩ := List.mem_filter.mp hfm
    simp only [Bool.and_eq_true, decide_eq_true_eq, Bool.not_eq_true', decide_eq_false_iff_not] at m2
    have hfs : f ∉ st.1 := fun z => m2.2 ((h1 f m1).mp z)
    rw [ef, hf, if_neg (by simp), Int.add_zero]
    refine ⟨fun i hi => ?_, fun i hi => ?_, by rw [t2]; exact h3, ?_⟩
    · show i ∈ st.1 ++ [f] ↔ _
      rw [List.mem_append, List.mem_singleton, t1, h1 i hi]
      exact or_comm
    · show i ∈ st.1 ++ [f] ↔ _
      rw [List.mem_append, List.mem_singleton, h2 i hi]
      exact ⟨fun z => z.elim id fun z => absurd (z ▸ m1) hi, .inl⟩
    · show (st.1 ++ [f]).Nodup
      rw [List.nodup_append]
      exact ⟨h4, by simp, fun a ha b hb => by rw [List.mem_singleton] at hb; subst hb; intro e; exact hfs (e ▸ ha)⟩
theorem fits_in {dp : Int → Int} {s : Int} {lot ord : List Int} (hn : ord.Nodup) (hl : lot.Nodup) : ∀ (c a : List Int), ord = a ++ c →
    Fits dp s lot (lot.filter fun q => decide (s ≤ dp q)) c 0 (((c.reverse.filter fun q => decide (q ∈ lot) && decide (dp q < s)).map some).foldl (ownStep dp s ord) (lot.filter fun q => decide (s ≤ dp q), 0))
  | [], a, _ => ⟨fun i hi => (by cases hi), fun i _ => Iff.rfl, rfl, hl.filter _⟩
  | q :: c, a, e => by
    have ih := fits_in (dp := dp) (s := s) hn hl c (a ++ [q]) (by rw [e, List.append_assoc]; rfl)
    have hn' : (q :: c).Nodup := by rw [e] at hn; exact (List.nodup_append.mp hn).2.1
    obtain ⟨hq, hnc⟩ := List.nodup_cons.mp hn'
    rw [List.reverse_cons, List.filter_append, List.map_append, List.foldl_append]
    generalize (((c.reverse.filter fun q => decide (q ∈ lot) && decide (dp q < s)).map some).foldl (ownStep dp s ord) (lot.filter fun q => decide (s ≤ dp q), 0)) = st at ih ⊢
    obtain ⟨h1, h2, h3, h4⟩ := ih
    have hq0 : q ∈ st.1 ↔ q ∈ lot.filter (fun q => decide (s ≤ dp q)) := h2 q hq
    rw [List.mem_filter, decide_eq_true_eq] at hq0
    have hsub := fun r x (h : x ∈ (rollO dp s lot c r).1) => (rollO_sub dp s lot c r).subset h
    by_cases hd : dp q < s
    · by_cases hm : q ∈ lot
      · have es : ([q].filter fun q => decide (q ∈ lot) && decide (dp q < s)) = [q] := by simp [hd, hm]
        rw [es]
        show Fits dp s lot _ (q :: c) 0 (ownStep dp s ord st (some q))
        have eo : overO ord q = c := by rw [e]; exact overO_eq hq
        have := fits_step hnc (Int.le_refl 0) ⟨h1, h2, h3, h4⟩
        show Fits dp s lot _ (q :: c) 0 (st.1 ++ (freeO dp s st.1 (overO ord q)).take 1, st.2 + if freeO dp s st.1 (overO ord q) = [] then 1 else 0)
        rw [eo]
        obtain ⟨g1, g2, g3, g4⟩ := this
        have er : rollO dp s lot (q :: c) 0 = rollO dp s lot c (0 + 1) := by rw [rollO, if_pos hd, if_pos hm]
        refine ⟨fun i hi => ?_, fun i hi => g2 i fun z => hi (List.mem_cons_of_mem _ z), by rw [er]; exact g3, g4⟩
        rw [er]
        rcases List.mem_cons.mp hi with rfl | hi
        · refine ⟨fun z => ?_, fun z => absurd (hsub _ _ z) hq⟩
          have := (g2 i hq).mp z
          rw [List.mem_filter, decide_eq_true_eq] at this
          omega
        · exact g1 i hi
      · have es : ([q].filter fun q => decide (q ∈ lot) && decide (dp q < s)) = [] := by simp [hm]
        rw [es]
        show Fits dp s lot _ (q :: c) 0 st
        have er : rollO dp s lot (q :: c) 0 = rollO dp s lot c 0 := by rw [rollO, if_pos hd, if_neg hm]; rfl
        refine ⟨fun i hi => ?_, fun i hi => h2 i fun z => hi (List.mem_cons_of_mem _ z), by rw [er]; exact h3, h4⟩
        rw [er]
        rcases List.mem_cons.mp hi with rfl | hi
        · exact ⟨fun z => absurd (hq0.mp z).1 hm, fun z => absurd (hsub _ _ z) hq⟩
        · exact h1 i hi
    · have es : ([q].filter fun q => decide (q ∈ lot) && decide (dp q < s)) = [] := by simp [hd]
      rw [es]
      show Fits dp s lot _ (q :: c) 0 st
      by_cases hm : q ∈ lot
      · have er : rollO dp s lot (q :: c) 0 = (q :: (rollO dp s lot c 0).1, (rollO dp s lot c 0).2) := by rw [rollO, if_neg hd, if_pos hm]
        refine ⟨fun i hi => ?_, fun i hi => h2 i fun z => hi (List.mem_cons_of_mem _ z), by rw [er]; exact h3, h4⟩
        rw [er, List.mem_cons]
        rcases List.mem_cons.mp hi with rfl | hi
        · exact ⟨fun _ => .inl rfl, fun _ => hq0.mpr ⟨hm, by omega⟩⟩
        · rw [h1 i hi]
          exact ⟨.inr, fun z => z.elim (fun z => absurd (z ▸ hi) hq) id⟩
      · have er : rollO dp s lot (q :: c) 0 = rollO dp s lot c 0 := by rw [rollO, if_neg hd, if_neg hm, if_neg (by omega)]
        refine ⟨fun i hi => ?_, fun i hi => h2 i fun z => hi (List.mem_cons_of_mem _ z), by rw [er]; exact h3, h4⟩
        rw [er]
        rcases List.mem_cons.mp hi with rfl | hi
        · exact ⟨fun z => absurd (hq0.mp z).1 hm, fun z => absurd (hsub _ _ z) hq⟩
        · exact h1 i hi
theorem fits_rear {dp : Int → Int} {s : Int} {lot full0 ord : List Int} (hn : ord.Nodup) : ∀ (k : Nat) (r : Int) (st : List Int × Int), 0 ≤ r → Fits dp s lot full0 ord r st → Fits dp s lot full0 ord (r + k) ((List.replicate k none).foldl (ownStep dp s ord) st)
  | 0, r, st, _, h => by simpa using h
  | k + 1, r, st, hr, h => by
    rw [List.replicate_succ, List.foldl_cons, show r + ((k + 1 : Nat) : Int) = r + 1 + (k : Int) by omega]
    exact fits_rear hn k (r + 1) _ (by omega) (fits_step hn hr h)
/-- bead by bead comes to the same as the sweep -/
theorem own_eq {dp : Int → Int} {s : Int} {lot ord : List Int} {r : Int} (hn : ord.Nodup) (hl : lot.Nodup) (hs : ∀ q ∈ lot, q ∈ ord) (hr : 0 ≤ r) :
    let st := (beginsO dp s lot ord r.toNat).foldl (ownStep dp s ord) (lot.filter fun q => decide (s ≤ dp q), 0)
    (∀ i, i ∈ st.1 ↔ i ∈ (rollO dp s lot ord r).1) ∧ st.2 = (rollO dp s lot ord r).2 ∧ st.1.Nodup := by
  intro st
  have h0 := fits_in (dp := dp) (s := s) hn hl ord [] rfl
  have h1 := fits_rear (dp := dp) (s := s) (lot := lot) hn r.toNat 0 _ (Int.le_refl 0) h0
  rw [show (0 : Int) + (r.toNat : Int) = r by omega, ← List.foldl_append] at h1
  obtain ⟨h1, h2, h3, h4⟩ := h1
  refine ⟨fun i => ?_, h3, h4⟩
  by_cases hi : i ∈ ord
  · exact h1 i hi
  · refine ⟨fun z => ?_, fun z => absurd ((rollO_sub dp s lot ord r).subset z) hi⟩
    have := (h2 i hi).mp z
    exact absurd (hs i (List.mem_filter.mp this).1) hi
/-! ### standings that are right -/
def okS (n : Nat) (x : Tr) : Prop := 0 ≤ x.1 ∧ 0 ≤ x.2.2 ∧ x.2.1.Pairwise (· < ·) ∧ ∀ p ∈ x.2.1, 0 ≤ p ∧ p < n
theorem rise_len : ∀ (xs : List Int) (a b : Int), xs.Pairwise (· < ·) → (∀ p ∈ xs, a ≤ p ∧ p < b) → xs.length ≤ (b - a).toNat
  | [], _, _, _, _ => Nat.zero_le _
  | x :: xs, a, b, h, h2 => by
    obtain ⟨h3, h4⟩ := List.pairwise_cons.mp h
    have hx := h2 x List.mem_cons_self
    have := rise_len xs (x + 1) b h4 fun p hp => ⟨by have := h3 p hp; omega, (h2 p (List.mem_cons_of_mem _ hp)).2⟩
    rw [List.length_cons]
    omega
theorem okS.len {n : Nat} {x : Tr} (h : okS n x) : x.2.1.length ≤ n := by
  have := rise_len x.2.1 0 n h.2.2.1 h.2.2.2
  omega
theorem ordB_nodup (n : Nat) (b : Bool) : (ordB n b).Nodup := by
  unfold ordB
  cases b with
  | true => exact nodup_lt (irange_lt 0 n)
  | false => exact List.pairwise_reverse.mpr ((nodup_lt (irange_lt 0 n)).imp fun {a b} h => Ne.symm h)
theorem mem_ordB {n : Nat} {b : Bool} {q : Int} : q ∈ ordB n b ↔ 0 ≤ q ∧ q < n := by
  unfold ordB
  cases b with
  | true => exact mem_irange
  | false => rw [if_neg (by simp), List.mem_reverse]; exact mem_irange
theorem tiltS_lot (ws : List Int) (b : Bool) (s : Int) (x : Tr) : (tiltS ws b s x).2.1.Pairwise (· < ·) ∧ (∀ q, q ∈ (tiltS ws b s x).2.1 ↔ q ∈ (OO ws b s x).1) := by
  rw [tiltS_O]
  have hsub := rollO_sub (gI ws) s x.2.1 (ordB ws.length b) (src b x)
  cases b with
  | true => exact ⟨(irange_lt 0 ws.length).sublist hsub, fun q => Iff.rfl⟩
  | false =>
    have h2 : ((OO ws false s x).1.reverse).Sublist (irange 0 ws.length) := by
      have := List.Sublist.reverse hsub
      unfold ordB at this
      rw [if_neg (by simp), List.reverse_reverse] at this
      exact this
    exact ⟨(irange_lt 0 ws.length).sublist h2, fun q => by show q ∈ (OO ws false s x).1.reverse ↔ _; rw [List.mem_reverse]⟩
theorem src_nn {n : Nat} {x : Tr} (h : okS n x) (b : Bool) : 0 ≤ src b x := by
  unfold src; cases b; exact h.2.1; exact h.1
theorem tiltS_ok {ws : List Int} {x : Tr} (h : okS ws.length x) (b : Bool) (s : Int) : okS ws.length (tiltS ws b s x) := by
  have hl := tiltS_lot ws b s x
  have hr : 0 ≤ (OO ws b s x).2 := rollO_nn _ _ _ _ _ (src_nn h b)
  have hm : ∀ p ∈ (tiltS ws b s x).2.1, 0 ≤ p ∧ p < (ws.length : Int) := fun p hp => mem_ordB.mp ((rollO_sub _ _ _ _ _).subset ((hl.2 p).mp hp))
  refine ⟨?_, ?_, hl.1, hm⟩
  · rw [tiltS_O]
    cases b with
    | true => exact Int.le_refl 0
    | false => exact Int.add_nonneg h.1 hr
  · rw [tiltS_O]
    cases b with
    | true => exact Int.add_nonneg h.2.1 hr
    | false => exact Int.le_refl 0
theorem ledS_ok {ws : List Int} : ∀ (row : List (Bool × Int)) {x : Tr}, okS ws.length x → okS ws.length (ledS ws row x)
  | [], _, h => h
  | (b, s) :: row, _, h => ledS_ok row (tiltS_ok h b s)
/-- two rising lists of the same are one -/
theorem rise_uniq {xs ys : List Int} (h : xs.Pairwise (· < ·)) (h' : ys.Pairwise (· < ·)) (he : ∀ i, i ∈ xs ↔ i ∈ ys) : xs = ys :=
  sorted_uniq ((List.perm_ext_iff_of_nodup (nodup_lt h) (nodup_lt h')).mpr he) (h.imp fun {a b} h => by omega) (h'.imp fun {a b} h => by omega)
theorem srt_rise {xs ys : List Int} (hn : xs.Nodup) (h' : ys.Pairwise (· < ·)) (he : ∀ i, i ∈ xs ↔ i ∈ ys) : srt xs = ys :=
  sorted_uniq ((srt_perm xs).trans ((List.perm_ext_iff_of_nodup hn (nodup_lt h')).mpr he)) (srt_le xs) (h'.imp fun {a b} h => by omega)
theorem srt_lt {xs : List Int} (hn : xs.Nodup) : (srt xs).Pairwise (· < ·) := by
  have h1 := srt_le xs
  have h2 : (srt xs).Nodup := (srt_perm xs).nodup_iff.mpr hn
  exact (List.Pairwise.and h1 h2).imp fun {a b} h => by have := h.1; have := h.2; omega
/-- the beads of a standing -/
def beadsS (x : Tr) : Int := x.1 + x.2.1.length + x.2.2
theorem filter_all_len {n : Nat} {x : Tr} (h : okS n x) (b : Bool) : ((ordB n b).filter (· ∈ x.2.1)).length = x.2.1.length := by
  refine List.Perm.length_eq ((List.perm_ext_iff_of_nodup ((ordB_nodup n b).filter _) (nodup_lt h.2.2.1)).mpr fun i => ?_)
  rw [List.mem_filter, mem_ordB, decide_eq_true_eq]
  exact ⟨fun z => z.2, fun z => ⟨h.2.2.2 i z, z⟩⟩
theorem tiltS_beads {ws : List Int} {x : Tr} (h : okS ws.length x) (b : Bool) (s : Int) : beadsS (tiltS ws b s x) = beadsS x := by
  have hc := rollO_cnt (gI ws) s x.2.1 (ordB ws.length b) (src b x) (src_nn h b)
  rw [filter_all_len h b] at hc
  rw [tiltS_O]
  unfold beadsS
  cases b with
  | true =>
    show 0 + ((OO ws true s x).1.length : Int) + (x.2.2 + (OO ws true s x).2) = _
    have hc' : ((OO ws true s x).1.length : Int) + (OO ws true s x).2 = x.1 + x.2.1.length := hc
    omega
  | false =>
    show (x.1 + (OO ws false s x).2) + ((OO ws false s x).1.reverse.length : Int) + 0 = _
    have hc' : ((OO ws false s x).1.length : Int) + (OO ws false s x).2 = x.2.2 + x.2.1.length := hc
    rw [List.length_reverse]
    omega
theorem own_tilt {ws : List Int} {x : Tr} (hx : okS ws.length x) (b : Bool) (s : Int) {fm : List Int} (hfm : fm = (ordB ws.length b).reverse) :
    let fin := (((fm.filter fun q => decide (q ∈ x.2.1) && decide (gI ws q < s)).map some) ++ List.replicate (src b x).toNat none).foldl (ownStep (gI ws) s fm.reverse) (x.2.1.filter fun q => decide (s ≤ gI ws q), 0)
    tiltS ws b s x = (if b then (0, srt fin.1, x.2.2 + fin.2) else (x.1 + fin.2, srt fin.1, 0)) ∧ rolS ws b s x = fin.2 := by
  intro fin
  have h := own_eq (dp := gI ws) (s := s) (ordB_nodup ws.length b) (nodup_lt hx.2.2.1) (fun q hq => mem_ordB.mpr (hx.2.2.2 q hq)) (src_nn hx b)
  have e : fin = (beginsO (gI ws) s x.2.1 (ordB ws.length b) (src b x).toNat).foldl (ownStep (gI ws) s (ordB ws.length b)) (x.2.1.filter fun q => decide (s ≤ gI ws q), 0) := by
    show List.foldl _ _ _ = List.foldl _ _ _
    subst hfm
    rw [List.reverse_reverse]
    rfl
  rw [← e] at h
  obtain ⟨h1, h2, h3⟩ := h
  have hl := tiltS_lot ws b s x
  have hs : srt fin.1 = (tiltS ws b s x).2.1 := srt_rise h3 hl.1 fun i => (h1 i).trans (hl.2 i).symm
  refine ⟨?_, by rw [rolS_O]; exact h2.symm⟩
  rw [hs]
  have h2' : fin.2 = (OO ws b s x).2 := h2
  rw [h2']
  conv => lhs; rw [tiltS_O]
  rw [tiltS_O]
  cases b <;> rfl
/-- all in one tray: the left one for false -/
def inT0 (b : Bool) (m : Int) : Tr := if b then (0, [], m) else (m, [], 0)
theorem inT0_ok {n : Nat} {m : Int} (h : 0 ≤ m) (b : Bool) : okS n (inT0 b m) := by
  cases b
  · exact ⟨h, Int.le_refl 0, .nil, fun p hp => by cases hp⟩
  · exact ⟨Int.le_refl 0, h, .nil, fun p hp => by cases hp⟩
theorem inT0_beads (m : Int) (b : Bool) : beadsS (inT0 b m) = m := by cases b <;> simp [inT0, beadsS]
/-! ### one bead more -/
def extraO (lot lot' ord : List Int) : Int := ((ord.filter fun q => decide (q ∈ lot') && !decide (q ∈ lot)).length : Int)
theorem extra_cons (lot lot' : List Int) (q : Int) (ord : List Int) : extraO lot lot' (q :: ord) = (if q ∈ lot' ∧ q ∉ lot then 1 else 0) + extraO lot lot' ord := by
  unfold extraO
  rw [List.filter_cons]
  by_cases h : q ∈ lot' ∧ q ∉ lot
  · rw [if_pos (by simp [h]), if_pos h, List.length_cons]; omega
  · rw [if_neg (by simp only [Bool.and_eq_true, decide_eq_true_eq, Bool.not_eq_true', decide_eq_false_iff_not]; exact h), if_neg h]; omega
theorem extra_nn (lot lot' ord : List Int) : 0 ≤ extraO lot lot' ord := Int.natCast_nonneg _
theorem roll_mono {dp : Int → Int} {s : Int} {lot lot' : List Int} : ∀ (ord : List Int) (r r' : Int), (∀ q ∈ ord, q ∈ lot → q ∈ lot') → 0 ≤ r → r ≤ r' → r' - r + extraO lot lot' ord ≤ 1 →
    (∀ i ∈ (rollO dp s lot ord r).1, i ∈ (rollO dp s lot' ord r').1) ∧ (rollO dp s lot ord r).2 ≤ (rollO dp s lot' ord r').2 ∧ (rollO dp s lot' ord r').2 ≤ (rollO dp s lot ord r).2 + 1
  | [], r, r', _, _, h, h2 => by
    refine ⟨fun i hi => (by cases hi), h, ?_⟩
    have := extra_nn lot lot' []
    show r' ≤ r + 1
    omega
  | q :: ord, r, r', hs, h0, h, h2 => by
    have hs' : ∀ q ∈ ord, q ∈ lot → q ∈ lot' := fun x hx => hs x (List.mem_cons_of_mem _ hx)
    have hq := hs q List.mem_cons_self
    have ih := fun r r' => roll_mono (dp := dp) (s := s) ord r r' hs'
    have hn := extra_nn lot lot' ord
    rw [extra_cons] at h2
    rw [rollO, rollO]
    by_cases hd : dp q < s
    · rw [if_pos hd, if_pos hd]
      by_cases h3 : q ∈ lot
      · rw [if_pos h3, if_pos (hq h3)]
        rw [if_neg (fun z => z.2 h3)] at h2
        exact ih _ _ (by omega) (by omega) (by omega)
      · rw [if_neg h3]
        by_cases h4 : q ∈ lot'
        · rw [if_pos h4]
          rw [if_pos ⟨h4, h3⟩] at h2
          exact ih _ _ (by omega) (by omega) (by omega)
        · rw [if_neg h4]
          rw [if_neg (fun z => h4 z.1)] at h2
          exact ih _ _ (by omega) (by omega) (by omega)
    · rw [if_neg hd, if_neg hd]
      by_cases h3 : q ∈ lot
      · rw [if_pos h3, if_pos (hq h3)]
        rw [if_neg (fun z => z.2 h3)] at h2
        obtain ⟨a, b, c⟩ := ih r r' h0 h (by omega)
        refine ⟨fun i hi => ?_, b, c⟩
        rcases List.mem_cons.mp hi with e | hi
        · rw [e]; exact List.mem_cons_self
        · exact List.mem_cons_of_mem _ (a i hi)
      · rw [if_neg h3]
        by_cases h4 : q ∈ lot'
        · rw [if_pos h4]
          rw [if_pos ⟨h4, h3⟩] at h2
          split
          · obtain ⟨a, b, c⟩ := ih (r - 1) r' (by omega) (by omega) (by omega)
            refine ⟨fun i hi => ?_, b, c⟩
            rcases List.mem_cons.mp hi with e | hi
            · rw [e]; exact List.mem_cons_self
            · exact List.mem_cons_of_mem _ (a i hi)
          · obtain ⟨a, b, c⟩ := ih r r' h0 h (by omega)
            exact ⟨fun i hi => List.mem_cons_of_mem _ (a i hi), b, c⟩
        · rw [if_neg h4]
          rw [if_neg (fun z => h4 z.1)] at h2
          by_cases hr : 0 < r
          · rw [if_pos hr, if_pos (show 0 < r' by omega)]
            obtain ⟨a, b, c⟩ := ih (r - 1) (r' - 1) (by omega) (by omega) (by omega)
            refine ⟨fun i hi => ?_, b, c⟩
            rcases List.mem_cons.mp hi with e | hi
            · rw [e]; exact List.mem_cons_self
            · exact List.mem_cons_of_mem _ (a i hi)
          · rw [if_neg hr]
            by_cases hr' : 0 < r'
            · rw [if_pos hr']
              obtain ⟨a, b, c⟩ := ih r (r' - 1) h0 (by omega) (by omega)
              exact ⟨fun i hi => List.mem_cons_of_mem _ (a i hi), b, c⟩
            · rw [if_neg hr']
              exact ih r r' h0 h (by omega)
/-- the one has all that the other has, and a bead more -/
def OneMore (n : Nat) (x y : Tr) : Prop := okS n x ∧ okS n y ∧ (∀ i ∈ x.2.1, i ∈ y.2.1) ∧ beadsS y = beadsS x + 1 ∧ x.1 ≤ y.1 ∧ x.2.2 ≤ y.2.2
theorem extra_len {n : Nat} {x y : Tr} (hx : okS n x) (hy : okS n y) (h : ∀ i ∈ x.2.1, i ∈ y.2.1) (b : Bool) : extraO x.2.1 y.2.1 (ordB n b) = (y.2.1.length : Int) - x.2.1.length := by
  have h1 := filter_all_len hx b
  have h2 := filter_all_len hy b
  have h3 : ∀ l : List Int, ((l.filter (· ∈ y.2.1)).length : Int) = extraO x.2.1 y.2.1 l + ((l.filter (· ∈ x.2.1)).length : Int) := fun l => by
    induction l with
    | nil => rfl
    | cons q l ih =>
      rw [extra_cons, List.filter_cons, List.filter_cons]
      by_cases a : q ∈ x.2.1
      · have := h q a
        simp only [a, this, decide_true, if_true, List.length_cons, not_true_eq_false, and_false, if_false]
        omega
      · by_cases c : q ∈ y.2.1
        · simp only [a, c, decide_true, decide_false, if_true, List.length_cons, not_false_eq_true, and_self, Bool.false_eq_true, if_false]
          omega
        · simp only [a, c, decide_false, Bool.false_eq_true, if_false, false_and]
          omega
  have := h3 (ordB n b)
  rw [h1, h2] at this
  omega
theorem OneMore.tilt {ws : List Int} {x y : Tr} (h : OneMore ws.length x y) (b : Bool) (s : Int) : OneMore ws.length (tiltS ws b s x) (tiltS ws b s y) ∧ rolS ws b s x ≤ rolS ws b s y ∧ rolS ws b s y ≤ rolS ws b s x + 1 := by
  obtain ⟨hx, hy, hs, hb, h1, h2⟩ := h
  have hsr : src b x ≤ src b y := by cases b; exact h2; exact h1
  have hext := extra_len hx hy hs b
  have hbd : y.1 + y.2.1.length + y.2.2 = x.1 + x.2.1.length + x.2.2 + 1 := hb
  obtain ⟨m1, m2, m3⟩ := roll_mono (dp := gI ws) (s := s) (ordB ws.length b) (src b x) (src b y) (fun q _ => hs q) (src_nn hx b) hsr (by rw [hext]; cases b <;> (simp only [src]; simp; omega))
  refine ⟨⟨tiltS_ok hx b s, tiltS_ok hy b s, fun i hi => ?_, by rw [tiltS_beads hx, tiltS_beads hy]; exact hb, ?_, ?_⟩, ?_, ?_⟩
  · exact ((tiltS_lot ws b s y).2 i).mpr (m1 i (((tiltS_lot ws b s x).2 i).mp hi))
  · rw [tiltS_O, tiltS_O]
    cases b
    · exact Int.add_le_add h1 m2
    · exact Int.le_refl 0
  · rw [tiltS_O, tiltS_O]
    cases b
    · exact Int.le_refl 0
    · exact Int.add_le_add h2 m2
  · rw [rolS_O, rolS_O]; exact m2
  · rw [rolS_O, rolS_O]; exact m3
/-! ### strengths between, tilts to one side -/
theorem rollO_congr {dp dp' : Int → Int} {s s' : Int} {lot lot' : List Int} : ∀ (ord : List Int) (r : Int), (∀ q ∈ ord, (dp q < s ↔ dp' q < s')) → (∀ q ∈ ord, (q ∈ lot ↔ q ∈ lot')) → rollO dp s lot ord r = rollO dp' s' lot' ord r
  | [], _, _, _ => rfl
  | q :: ord, r, h, h2 => by
    have ih := fun r => rollO_congr ord r (fun x hx => h x (List.mem_cons_of_mem _ hx)) (fun x hx => h2 x (List.mem_cons_of_mem _ hx))
    have a := h q List.mem_cons_self
    have b := h2 q List.mem_cons_self
    rw [rollO, rollO, ih, ih, ih]
    by_cases hd : dp q < s
    · rw [if_pos hd, if_pos (a.mp hd)]
      by_cases hm : q ∈ lot
      · rw [if_pos hm, if_pos (b.mp hm)]
      · rw [if_neg hm, if_neg (fun z => hm (b.mpr z))]
    · rw [if_neg hd, if_neg (fun z => hd (a.mpr z))]
      by_cases hm : q ∈ lot
      · rw [if_pos hm, if_pos (b.mp hm)]
      · rw [if_neg hm, if_neg (fun z => hm (b.mpr z))]
theorem tiltS_str {ws : List Int} {b : Bool} {s s' : Int} {x : Tr} (h : ∀ w ∈ ws, (w < s ↔ w < s')) : tiltS ws b s x = tiltS ws b s' x := by
  have e : OO ws b s x = OO ws b s' x := rollO_congr _ _ (fun q hq => h _ (gI_mem (mem_ordB.mp hq).1 (mem_ordB.mp hq).2)) fun q _ => Iff.rfl
  rw [tiltS_O, tiltS_O, e]
/-- of bare pits the first deep ones are full then -/
theorem rollO_bare {dp : Int → Int} {s : Int} : ∀ (ord : List Int) (n : Nat), (rollO dp s [] ord n).1 = (ord.filter fun q => decide (s ≤ dp q)).take n
  | [], n => by simp [rollO]
  | q :: ord, n => by
    have hm : ¬ q ∈ ([] : List Int) := by simp
    rw [rollO, List.filter_cons]
    by_cases hd : dp q < s
    · have hs : ¬ (decide (s ≤ dp q) = true) := by rw [decide_eq_true_eq]; omega
      rw [if_pos hd, if_neg hm, if_neg hs, Int.add_zero]
      exact rollO_bare ord n
    · have hs : decide (s ≤ dp q) = true := by rw [decide_eq_true_eq]; omega
      rw [if_neg hd, if_neg hm, if_pos hs]
      cases n with
      | zero =>
        rw [if_neg (show ¬ ((0 : Int) < ((0 : Nat) : Int)) by omega), List.take_zero]
        exact (rollO_bare ord 0).trans (List.take_zero)
      | succ n =>
        rw [if_pos (show (0 : Int) < ((n + 1 : Nat) : Int) by omega), List.take_succ_cons, show ((n + 1 : Nat) : Int) - 1 = n by omega, rollO_bare ord n]
/-- stronger and stronger to one side: as the last one alone -/
theorem rollO_two {dp : Int → Int} {s s' : Int} (hs : s ≤ s') : ∀ (ord : List Int) (m n : Nat), ord.Nodup → (rollO dp s' ((ord.filter fun q => decide (s ≤ dp q)).take m) ord n).1 = (rollO dp s' [] ord ((n : Int) + m)).1
  | [], m, n, _ => rfl
  | q :: ord, m, n, hn => by
    obtain ⟨hq, hn⟩ := List.nodup_cons.mp hn
    have hqf : ∀ m, q ∉ (ord.filter fun q => decide (s ≤ dp q)).take m := fun m z => hq (List.mem_filter.mp (List.mem_of_mem_take z)).1
    have hm0 : ¬ q ∈ ([] : List Int) := by simp
    rw [List.filter_cons]
    by_cases h1 : dp q < s
    · have h1' : dp q < s' := by omega
      rw [if_neg (show ¬ (decide (s ≤ dp q) = true) by rw [decide_eq_true_eq]; omega), rollO, if_pos h1', if_neg (hqf m), rollO, if_pos h1', if_neg hm0, Int.add_zero, Int.add_zero]
      exact rollO_two hs ord m n hn
    · rw [if_pos (show decide (s ≤ dp q) = true by rw [decide_eq_true_eq]; omega)]
      cases m with
      | zero => rw [List.take_zero]; rfl
      | succ m =>
        rw [List.take_succ_cons]
        have hc : ∀ r, rollO dp s' (q :: (ord.filter fun q => decide (s ≤ dp q)).take m) ord r = rollO dp s' ((ord.filter fun q => decide (s ≤ dp q)).take m) ord r := fun r => rollO_congr ord r (fun _ _ => Iff.rfl) fun x hx => by
          rw [List.mem_cons]
          exact ⟨fun z => z.elim (fun e => absurd (e ▸ hx) hq) id, .inr⟩
        rw [rollO, hc, hc, hc, if_pos List.mem_cons_self, if_pos List.mem_cons_self, rollO]
        by_cases h2 : dp q < s'
        · rw [if_pos h2, if_pos h2, if_neg hm0, Int.add_zero, show (n : Int) + ((m + 1 : Nat) : Int) = ((n + 1 : Nat) : Int) + m by omega]
          exact rollO_two hs ord m (n + 1) hn
        · rw [if_neg h2, if_neg h2, if_neg hm0, if_pos (show 0 < (n : Int) + ((m + 1 : Nat) : Int) by omega), show (n : Int) + ((m + 1 : Nat) : Int) - 1 = (n : Int) + m by omega]
          show q :: _ = q :: _
          rw [rollO_two hs ord m n hn]
/-- nothing rolls -/
theorem rollO_still {dp : Int → Int} {s : Int} {lot : List Int} : ∀ (ord : List Int), (∀ q ∈ ord, q ∈ lot → s ≤ dp q) → rollO dp s lot ord 0 = (ord.filter (· ∈ lot), 0)
  | [], _ => rfl
  | q :: ord, h => by
    have ih := rollO_still (dp := dp) (s := s) (lot := lot) ord fun x hx => h x (List.mem_cons_of_mem _ hx)
    rw [rollO, List.filter_cons]
    by_cases hm : q ∈ lot
    · have := h q List.mem_cons_self hm
      rw [if_neg (show ¬ dp q < s by omega), if_pos hm, ih, if_pos (show decide (q ∈ lot) = true by simp [hm])]
    · rw [if_neg hm, if_neg hm, if_neg (show ¬ ((0 : Int) < 0) by omega), Int.add_zero, ih, if_neg (show ¬ (decide (q ∈ lot) = true) by simp [hm])]
      split <;> rfl
/-- the deep pits, as many as there are beads, the farthest, the rest in the tray -/
def nearL (ws : List Int) (c : Nat) (b : Bool) (s : Int) : List Int := ((ordB ws.length b).filter fun q => decide (s ≤ gI ws q)).take c
def nearS (ws : List Int) (c : Nat) (b : Bool) (s : Int) : Tr := if b then (0, nearL ws c b s, (c : Int) - (nearL ws c b s).length) else ((c : Int) - (nearL ws c b s).length, (nearL ws c b s).reverse, 0)
theorem near_of {ws : List Int} {b : Bool} {s : Int} {x : Tr} {c : Nat} (hx : okS ws.length x) (hb : beadsS x = c) (h : (OO ws b s x).1 = nearL ws c b s) : tiltS ws b s x = nearS ws c b s := by
  have hbd := tiltS_beads hx b s
  rw [hb] at hbd
  rw [tiltS_O] at hbd ⊢
  rw [h] at hbd ⊢
  unfold nearS
  cases b with
  | true =>
    have e : (0 : Int) + ((nearL ws c true s).length : Int) + (x.2.2 + (OO ws true s x).2) = c := hbd
    show (0, _, _) = (0, _, _)
    rw [show x.2.2 + (OO ws true s x).2 = (c : Int) - (nearL ws c true s).length by omega]
  | false =>
    have e : (x.1 + (OO ws false s x).2) + ((nearL ws c false s).reverse.length : Int) + 0 = c := hbd
    rw [List.length_reverse] at e
    show (_, _, 0) = (_, _, 0)
    rw [show x.1 + (OO ws false s x).2 = (c : Int) - (nearL ws c false s).length by omega]
theorem src_inT (b : Bool) (m : Int) : src b (inT0 (!b) m) = m := by cases b <;> rfl
theorem near_first {ws : List Int} {b : Bool} {s : Int} (c : Nat) : tiltS ws b s (inT0 (!b) c) = nearS ws c b s := by
  refine near_of (inT0_ok (Int.natCast_nonneg c) _) (inT0_beads _ _) ?_
  have e : OO ws b s (inT0 (!b) c) = rollO (gI ws) s [] (ordB ws.length b) c := by
    unfold OO
    rw [src_inT]
    cases b <;> rfl
  rw [e, rollO_bare]
  rfl
theorem nearS_lot (ws : List Int) (c : Nat) (b : Bool) (s : Int) (q : Int) : q ∈ (nearS ws c b s).2.1 ↔ q ∈ nearL ws c b s := by
  unfold nearS
  cases b
  · exact List.mem_reverse
  · exact Iff.rfl
theorem nearS_ok (ws : List Int) (c : Nat) (b : Bool) (s : Int) : okS ws.length (nearS ws c b s) := by rw [← near_first]; exact tiltS_ok (inT0_ok (Int.natCast_nonneg c) _) b s
theorem nearS_beads (ws : List Int) (c : Nat) (b : Bool) (s : Int) : beadsS (nearS ws c b s) = c := by rw [← near_first, tiltS_beads (inT0_ok (Int.natCast_nonneg c) _), inT0_beads]
theorem nearS_src (ws : List Int) (c : Nat) (b : Bool) (s : Int) : src b (nearS ws c b s) = 0 := by cases b <;> rfl
theorem near_more {ws : List Int} {b : Bool} {s s' : Int} (h : s ≤ s') (c : Nat) : tiltS ws b s' (nearS ws c b s) = nearS ws c b s' := by
  refine near_of (nearS_ok ws c b s) (nearS_beads ws c b s) ?_
  unfold OO
  rw [nearS_src, rollO_congr (lot' := nearL ws c b s) _ _ (fun _ _ => Iff.rfl) fun q _ => nearS_lot ws c b s q]
  have := rollO_two (dp := gI ws) h (ordB ws.length b) c 0 (ordB_nodup _ _)
  rw [show ((0 : Nat) : Int) + (c : Int) = c by omega, rollO_bare] at this
  exact this
theorem near_less {ws : List Int} {b : Bool} {s s' : Int} (h : s' ≤ s) (c : Nat) : tiltS ws b s' (nearS ws c b s) = nearS ws c b s := by
  have hd : ∀ q ∈ nearL ws c b s, s ≤ gI ws q := fun q hq => by
    have := (List.mem_filter.mp (List.mem_of_mem_take hq)).2
    exact of_decide_eq_true this
  have hx := nearS_ok ws c b s
  have hl := tiltS_lot ws b s' (nearS ws c b s)
  have e : OO ws b s' (nearS ws c b s) = ((ordB ws.length b).filter (· ∈ (nearS ws c b s).2.1), 0) := by
    unfold OO
    rw [nearS_src, rollO_still _ fun q _ hq => Int.le_trans h (hd q ((nearS_lot ws c b s q).mp hq))]
  have el : (tiltS ws b s' (nearS ws c b s)).2.1 = (nearS ws c b s).2.1 := rise_uniq hl.1 hx.2.2.1 fun i => by
    rw [hl.2 i, e, List.mem_filter, mem_ordB, decide_eq_true_eq]
    exact ⟨fun z => z.2, fun z => ⟨hx.2.2.2 i z, z⟩⟩
  rw [tiltS_O] at el ⊢
  rw [e] at el ⊢
  cases b with
  | true =>
    have el' : (List.filter (· ∈ (nearS ws c true s).2.1) (ordB ws.length true)) = (nearS ws c true s).2.1 := el
    show (0, _, (nearS ws c true s).2.2 + 0) = _
    rw [el', Int.add_zero]; rfl
  | false =>
    have el' : (List.filter (· ∈ (nearS ws c false s).2.1) (ordB ws.length false)).reverse = (nearS ws c false s).2.1 := el
    show ((nearS ws c false s).1 + 0, _, 0) = _
    rw [el', Int.add_zero]; rfl
/-- strengths that rise, that fall -/
theorem near_up {ws : List Int} {b : Bool} (c : Nat) : ∀ (ps : List Int) (p : Int), (p :: ps).Pairwise (· ≤ ·) → ledS ws (ps.map fun s => (b, s)) (nearS ws c b p) = nearS ws c b ((p :: ps).getLastD 0)
  | [], p, _ => rfl
  | s :: ps, p, h => by
    obtain ⟨h1, h2⟩ := List.pairwise_cons.mp h
    rw [List.map_cons, ledS_cons, near_more (h1 s List.mem_cons_self), near_up c ps s h2]
    simp [List.getLastD]
theorem near_down {ws : List Int} {b : Bool} (c : Nat) (p : Int) : ∀ (ps : List Int), (∀ s ∈ ps, s ≤ p) → ledS ws (ps.map fun s => (b, s)) (nearS ws c b p) = nearS ws c b p
  | [], _ => rfl
  | s :: ps, h => by
    rw [List.map_cons, ledS_cons, near_less (h s List.mem_cons_self)]
    exact near_down c p ps fun x hx => h x (List.mem_cons_of_mem _ hx)
theorem near_row_up {ws : List Int} {b : Bool} (c : Nat) {l : List Int} (h : l.Pairwise (· ≤ ·)) (h0 : 0 < l.length) : ledS ws (l.map fun s => (b, s)) (inT0 (!b) c) = nearS ws c b (gL l) := by
  match l, h, h0 with
  | p :: ps, h, _ =>
    rw [List.map_cons, ledS_cons, near_first, near_up c ps p h]
    rfl
theorem near_row_down {ws : List Int} {b : Bool} (c : Nat) {l : List Int} (h : l.Pairwise (· ≤ ·)) (h0 : 0 < l.length) : ledS ws (l.reverse.map fun s => (b, s)) (inT0 (!b) c) = nearS ws c b (gL l) := by
  have hg := gL_some h0
  obtain ⟨a, ha⟩ := List.getLast?_eq_some_iff.mp hg
  have hle : ∀ s ∈ a.reverse, s ≤ gL l := fun s hs => by
    have h2 := h
    rw [ha, List.pairwise_append] at h2
    exact h2.2.2 s (List.mem_reverse.mp hs) _ (List.mem_singleton.mpr rfl)
  have e : l.reverse = gL l :: a.reverse := by
    conv => lhs; rw [ha]
    rw [List.reverse_append]; rfl
  rw [e, List.map_cons, ledS_cons, near_first, near_down c _ _ hle]
/-! ### pits that count nothing -/
theorem rollO_skip {dp : Int → Int} {s : Int} {lot : List Int} {p : Int → Bool} : ∀ (ord : List Int) (r : Int), (∀ q ∈ ord, p q = false → (q ∈ lot ∧ s ≤ dp q) ∨ (q ∉ lot ∧ dp q < s)) →
    (rollO dp s lot (ord.filter p) r).1 = (rollO dp s lot ord r).1.filter p ∧ (rollO dp s lot (ord.filter p) r).2 = (rollO dp s lot ord r).2
  | [], _, _ => ⟨rfl, rfl⟩
  | q :: ord, r, h => by
    have ih := fun r => rollO_skip (dp := dp) (s := s) (lot := lot) (p := p) ord r fun x hx => h x (List.mem_cons_of_mem _ hx)
    cases hp : p q with
    | false =>
      rw [List.filter_cons_of_neg (by rw [hp]; decide)]
      rcases h q List.mem_cons_self hp with ⟨h1, h2⟩ | ⟨h1, h2⟩
      · rw [rollO, if_neg (show ¬ dp q < s by omega), if_pos h1]
        show _ = List.filter p (q :: _) ∧ _
        rw [List.filter_cons_of_neg (by rw [hp]; decide)]
        exact ih r
      · rw [rollO, if_pos h2, if_neg h1, Int.add_zero]
        exact ih r
    | true =>
      rw [List.filter_cons_of_pos hp, rollO, rollO]
      split
      · exact ih _
      · split
        · show q :: _ = List.filter p (q :: _) ∧ _
          rw [List.filter_cons_of_pos hp, (ih r).1]
          exact ⟨rfl, (ih r).2⟩
        · split
          · show q :: _ = List.filter p (q :: _) ∧ _
            rw [List.filter_cons_of_pos hp, (ih (r - 1)).1]
            exact ⟨rfl, (ih (r - 1)).2⟩
          · exact ih r
/-- a channel within another one -/
structure Emb (us ws : List Int) (f : Int → Int) : Prop where
  mono : ∀ i j : Int, 0 ≤ i → i < j → j < us.length → f i < f j
  rng : ∀ j : Int, 0 ≤ j → j < us.length → 0 ≤ f j ∧ f j < ws.length
  dep : ∀ j : Int, 0 ≤ j → j < us.length → gI us j = gI ws (f j)
def inImg (us : List Int) (f : Int → Int) (q : Int) : Bool := ((irange 0 us.length).map f).contains q
theorem inImg_iff {us : List Int} {f : Int → Int} {q : Int} : inImg us f q = true ↔ ∃ j : Int, 0 ≤ j ∧ j < us.length ∧ f j = q := by
  unfold inImg
  rw [List.contains_iff_mem, List.mem_map]
  constructor
  · rintro ⟨j, hj, e⟩; have := mem_irange.mp hj; exact ⟨j, this.1, this.2, e⟩
  · rintro ⟨j, h1, h2, e⟩; exact ⟨j, mem_irange.mpr ⟨h1, h2⟩, e⟩
theorem Emb.ord {us ws : List Int} {f : Int → Int} (E : Emb us ws f) (b : Bool) : (ordB ws.length b).filter (inImg us f) = (ordB us.length b).map f := by
  have h : (irange 0 ws.length).filter (inImg us f) = (irange 0 us.length).map f := by
    refine rise_uniq ((irange_lt 0 _).filter _) ?_ fun q => ?_
    · rw [List.pairwise_map]
      exact ((irange_lt 0 us.length).and (List.pairwise_iff_forall_sublist.mpr fun {a b} h => (show a ∈ irange 0 (us.length : Int) ∧ b ∈ irange 0 (us.length : Int) from ⟨h.subset (by simp), h.subset (by simp)⟩))).imp fun {a b} h => E.mono a b (mem_irange.mp h.2.1).1 h.1 (mem_irange.mp h.2.2).2
    · rw [List.mem_filter, inImg_iff, List.mem_map, mem_irange]
      constructor
      · rintro ⟨_, j, h1, h2, e⟩; exact ⟨j, mem_irange.mpr ⟨h1, h2⟩, e⟩
      · rintro ⟨j, hj, e⟩
        have hj := mem_irange.mp hj
        subst e
        exact ⟨E.rng j hj.1 hj.2, j, hj.1, hj.2, rfl⟩
  cases b with
  | true => exact h
  | false =>
    show List.filter _ (irange 0 ws.length).reverse = List.map f (irange 0 us.length).reverse
    rw [List.filter_reverse, h, List.map_reverse]
/-- the one standing within the other: beside it the pits dl are full -/
def Lift (us ws : List Int) (f : Int → Int) (dl : List Int) (x y : Tr) : Prop := okS us.length x ∧ okS ws.length y ∧ x.1 = y.1 ∧ x.2.2 = y.2.2 ∧ (∀ j : Int, 0 ≤ j → j < us.length → (j ∈ x.2.1 ↔ f j ∈ y.2.1)) ∧
  ∀ q : Int, 0 ≤ q → q < ws.length → inImg us f q = false → (q ∈ y.2.1 ↔ q ∈ dl)
theorem Lift.tilt {us ws : List Int} {f : Int → Int} {dl : List Int} {x y : Tr} (h : Lift us ws f dl x y) (E : Emb us ws f) (b : Bool) {s : Int} (hz : ∀ q : Int, 0 ≤ q → q < ws.length → inImg us f q = false → (q ∈ dl ∧ s ≤ gI ws q) ∨ (q ∉ dl ∧ gI ws q < s)) :
    Lift us ws f dl (tiltS us b s x) (tiltS ws b s y) ∧ rolS us b s x = rolS ws b s y := by
  obtain ⟨hx, hy, e1, e2, hl, hd⟩ := h
  have hsrc : src b x = src b y := by cases b; exact e2; exact e1
  have hsk := rollO_skip (dp := gI ws) (s := s) (lot := y.2.1) (p := inImg us f) (ordB ws.length b) (src b y) fun q hq hp => by
    have hq := mem_ordB.mp hq
    rcases hz q hq.1 hq.2 hp with h | h
    · exact .inl ⟨(hd q hq.1 hq.2 hp).mpr h.1, h.2⟩
    · exact .inr ⟨fun z => h.1 ((hd q hq.1 hq.2 hp).mp z), h.2⟩
  have hmap := rollO_map (dp := gI ws) (dp' := gI us) (s := s) (lot := y.2.1) (lot' := x.2.1) (f := f) (ordB us.length b) (src b y) (fun q hq => E.dep q (mem_ordB.mp hq).1 (mem_ordB.mp hq).2) (fun q hq => hl q (mem_ordB.mp hq).1 (mem_ordB.mp hq).2)
  rw [E.ord, hmap] at hsk
  have hOx : OO us b s x = rollO (gI us) s x.2.1 (ordB us.length b) (src b y) := by unfold OO; rw [hsrc]
  obtain ⟨k1, k2⟩ := hsk
  have k1 : (OO us b s x).1.map f = (OO ws b s y).1.filter (inImg us f) := by rw [hOx]; exact k1
  have k2 : (OO us b s x).2 = (OO ws b s y).2 := by rw [hOx]; exact k2
  have hinj : ∀ i j : Int, 0 ≤ i → i < us.length → 0 ≤ j → j < us.length → f i = f j → i = j := fun i j a1 a2 b1 b2 e => by
    rcases Int.lt_trichotomy i j with h | h | h
    · have := E.mono i j a1 h b2; omega
    · exact h
    · have := E.mono j i b1 h a2; omega
  refine ⟨⟨tiltS_ok hx b s, tiltS_ok hy b s, ?_, ?_, fun j h1 h2 => ?_, fun q h1 h2 h3 => ?_⟩, by rw [rolS_O, rolS_O]; exact k2⟩
  · rw [tiltS_O, tiltS_O]
    cases b
    · show x.1 + _ = y.1 + _; rw [e1, k2]
    · rfl
  · rw [tiltS_O, tiltS_O]
    cases b
    · rfl
    · show x.2.2 + _ = y.2.2 + _; rw [e2, k2]
  · rw [(tiltS_lot us b s x).2, (tiltS_lot ws b s y).2]
    have hi : inImg us f (f j) = true := inImg_iff.mpr ⟨j, h1, h2, rfl⟩
    constructor
    · intro h
      have : f j ∈ (OO us b s x).1.map f := List.mem_map.mpr ⟨j, h, rfl⟩
      rw [k1] at this
      exact (List.mem_filter.mp this).1
    · intro h
      have : f j ∈ (OO us b s x).1.map f := by rw [k1]; exact List.mem_filter.mpr ⟨h, hi⟩
      obtain ⟨i, hi2, e⟩ := List.mem_map.mp this
      have hr := mem_ordB.mp ((rollO_sub _ _ _ _ _).subset hi2)
      rw [← hinj i j hr.1 hr.2 h1 h2 e]; exact hi2
  · rw [(tiltS_lot ws b s y).2]
    constructor
    · intro h
      rcases hz q h1 h2 h3 with z | z
      · exact z.1
      · have := rollO_deep _ _ _ _ _ _ h; omega
    · intro h
      rcases hz q h1 h2 h3 with z | z
      · exact rollO_keep _ _ _ _ _ _ (mem_ordB.mpr ⟨h1, h2⟩) ((hd q h1 h2 h3).mpr h) z.2
      · exact absurd h z.1
/-! ### beyond the foremost beginning -/
theorem rollO_app (dp : Int → Int) (s : Int) (lot : List Int) : ∀ (a c : List Int) (r : Int), rollO dp s lot (a ++ c) r = ((rollO dp s lot a r).1 ++ (rollO dp s lot c (rollO dp s lot a r).2).1, (rollO dp s lot c (rollO dp s lot a r).2).2)
  | [], c, r => rfl
  | q :: a, c, r => by
    have ih := fun r => rollO_app dp s lot a c r
    rw [List.cons_append, rollO, rollO]
    split
    · exact ih _
    · split
      · rw [ih]; rfl
      · split
        · rw [ih]; rfl
        · exact ih _
/-- where none begins and some come out all deep ones are full -/
theorem rollO_all {dp : Int → Int} {s : Int} {lot : List Int} : ∀ (ord : List Int) (r : Int), (∀ q ∈ ord, q ∈ lot → s ≤ dp q) → 0 < (rollO dp s lot ord r).2 → 0 < r ∧ ∀ q ∈ ord, s ≤ dp q → q ∈ (rollO dp s lot ord r).1
  | [], r, _, h => ⟨h, fun q hq => by cases hq⟩
  | q :: ord, r, h, h2 => by
    have ih := fun r => rollO_all (dp := dp) (s := s) (lot := lot) ord r fun x hx => h x (List.mem_cons_of_mem _ hx)
    rw [rollO] at h2 ⊢
    by_cases hd : dp q < s
    · rw [if_pos hd] at h2 ⊢
      have hm : q ∉ lot := fun z => by have := h q List.mem_cons_self z; omega
      rw [if_neg hm, Int.add_zero] at h2 ⊢
      obtain ⟨a, b⟩ := ih r h2
      refine ⟨a, fun x hx hs => ?_⟩
      rcases List.mem_cons.mp hx with e | hx
      · rw [e] at hs; omega
      · exact b x hx hs
    · rw [if_neg hd] at h2 ⊢
      by_cases hm : q ∈ lot
      · rw [if_pos hm] at h2 ⊢
        obtain ⟨a, b⟩ := ih r h2
        refine ⟨a, fun x hx hs => ?_⟩
        rcases List.mem_cons.mp hx with e | hx
        · rw [e]; exact List.mem_cons_self
        · exact List.mem_cons_of_mem _ (b x hx hs)
      · rw [if_neg hm] at h2 ⊢
        by_cases hr : 0 < r
        · rw [if_pos hr] at h2 ⊢
          obtain ⟨a, b⟩ := ih (r - 1) h2
          refine ⟨hr, fun x hx hs => ?_⟩
          rcases List.mem_cons.mp hx with e | hx
          · rw [e]; exact List.mem_cons_self
          · exact List.mem_cons_of_mem _ (b x hx hs)
        · rw [if_neg hr] at h2 ⊢
          obtain ⟨a, b⟩ := ih r h2
          exact absurd a hr
theorem ordB_split {n : Nat} {b : Bool} {m : Int} (h0 : -1 ≤ m) (h1 : m ≤ n) : ∃ a c, ordB n b = a ++ c ∧ (∀ q ∈ c, if b then m < q else q < m) ∧ ∀ q : Int, 0 ≤ q → q < n → (if b then m < q else q < m) → q ∈ c := by
  cases b with
  | true =>
    refine ⟨irange 0 (min (m + 1) n), irange (min (m + 1) n) n, (irange_app (by omega) (by omega)).symm, fun q hq => ?_, fun q a b c => ?_⟩
    · have := mem_irange.mp hq
      show m < q
      omega
    · have c : m < q := c
      exact mem_irange.mpr ⟨by omega, b⟩
  | false =>
    refine ⟨(irange (max 0 m) n).reverse, (irange 0 (max 0 m)).reverse, ?_, fun q hq => ?_, fun q a b c => ?_⟩
    · show (irange 0 n).reverse = _
      rw [← List.reverse_append, irange_app (by omega) (by omega)]
    · have := mem_irange.mp (List.mem_reverse.mp hq)
      show q < m
      omega
    · have c : q < m := c
      exact List.mem_reverse.mpr (mem_irange.mpr ⟨a, by omega⟩)
/-- beyond the foremost that begins all deep ones are full, where some come to the tray -/
theorem tilt_beyond {ws : List Int} {b : Bool} {s : Int} {x : Tr} {m : Int} (hc : 0 < rolS ws b s x) (h0 : -1 ≤ m) (h1 : m ≤ ws.length) (hm : ∀ q ∈ x.2.1, gI ws q < s → if b then q ≤ m else m ≤ q) :
    ∀ q : Int, 0 ≤ q → q < ws.length → s ≤ gI ws q → (if b then m < q else q < m) → q ∈ (tiltS ws b s x).2.1 := by
  obtain ⟨a, c, e, ha, hin⟩ := ordB_split (n := ws.length) (b := b) h0 h1
  intro q q0 q1 hs hq
  rw [(tiltS_lot ws b s x).2]
  rw [rolS_O] at hc
  unfold OO at hc ⊢
  rw [e, rollO_app] at hc ⊢
  have := (rollO_all c _ (fun p hp hl => by
    have h2 := ha p hp
    by_cases hlt : gI ws p < s
    · have h3 := hm p hl hlt
      cases b
      · have h2 : p < m := h2
        have h3 : m ≤ p := h3
        omega
      · have h2 : m < p := h2
        have h3 : p ≤ m := h3
        omega
    · omega) hc).2 q (hin q q0 q1 hq) hs
  exact List.mem_append_right _ this
theorem tilt_keep {ws : List Int} {b : Bool} {s : Int} {x : Tr} (hx : okS ws.length x) {q : Int} (hq : q ∈ x.2.1) (hs : s ≤ gI ws q) : q ∈ (tiltS ws b s x).2.1 :=
  ((tiltS_lot ws b s x).2 q).mpr (rollO_keep _ _ _ _ _ _ (mem_ordB.mpr (hx.2.2.2 q hq)) hq hs)
end Lw

/-! Vn: tilts to one side as one; rounds settle. -/
namespace Lw
open PySem PySem.Spec PyProof.Rows L2 Pv
theorem tr_ext {n : Nat} {x y : Tr} {b : Bool} (hx : okS n x) (hy : okS n y) (hl : ∀ i, i ∈ x.2.1 ↔ i ∈ y.2.1) (hb : beadsS x = beadsS y) (h : src b x = src b y) : x = y := by
  obtain ⟨l, lot, r⟩ := x
  obtain ⟨l', lot', r'⟩ := y
  have e : lot = lot' := rise_uniq hx.2.2.1 hy.2.2.1 hl
  subst e
  have hb' : l + (lot.length : Int) + r = l' + (lot.length : Int) + r' := hb
  cases b with
  | true =>
    have h' : l = l' := h
    subst h'
    rw [show r = r' by omega]
  | false =>
    have h' : r = r' := h
    subst h'
    rw [show l = l' by omega]
theorem okS.le {n m : Nat} {x : Tr} (h : okS n x) (hn : n ≤ m) : x.2.1.length ≤ m := Nat.le_trans h.len hn
theorem tiltS_src (ws : List Int) (b : Bool) (s : Int) (x : Tr) : src b (tiltS ws b s x) = 0 := by
  rw [tiltS_O]; cases b <;> rfl
theorem tiltS_deep {ws : List Int} {b : Bool} {s : Int} {x : Tr} {q : Int} (h : q ∈ (tiltS ws b s x).2.1) : s ≤ gI ws q :=
  rollO_deep _ _ _ _ _ q (((tiltS_lot ws b s x).2 q).mp h)
/-- nothing rolls, nothing lies behind: nothing changes -/
theorem tilt_still {ws : List Int} {b : Bool} {s : Int} {y : Tr} (hy : okS ws.length y) (h0 : src b y = 0) (hd : ∀ q ∈ y.2.1, s ≤ gI ws q) : tiltS ws b s y = y := by
  have e : OO ws b s y = ((ordB ws.length b).filter (· ∈ y.2.1), 0) := by
    unfold OO
    rw [h0, rollO_still _ fun q _ hq => hd q hq]
  refine tr_ext (n := ws.length) (b := b) (tiltS_ok hy b s) hy (fun i => ?_) (tiltS_beads hy b s) (by rw [tiltS_src, h0])
  rw [(tiltS_lot ws b s y).2 i, e, List.mem_filter, mem_ordB, decide_eq_true_eq]
  exact ⟨fun z => z.2, fun z => ⟨hy.2.2.2 i z, z⟩⟩
theorem rollO_join {dp : Int → Int} {s s' : Int} (hs : s ≤ s') {lot M : List Int} : ∀ (ord : List Int) (r r2 : Int), ord.Nodup → 0 ≤ r → 0 ≤ r2 → (∀ q ∈ ord, (q ∈ M ↔ q ∈ (rollO dp s lot ord r).1)) →
    (rollO dp s' M ord r2).1 = (rollO dp s' lot ord (r + r2)).1
  | [], _, _, _, _, _, _ => rfl
  | q :: ord, r, r2, hn, h0, h2, hM => by
    obtain ⟨hq, hn⟩ := List.nodup_cons.mp hn
    have sub : ∀ r', q ∉ (rollO dp s lot ord r').1 := fun r' z => hq ((rollO_sub dp s lot ord r').subset z)
    have tl : ∀ {r' : Int} {L : List Int}, (rollO dp s lot (q :: ord) r).1 = L → (∀ x ∈ ord, (x ∈ L ↔ x ∈ (rollO dp s lot ord r').1)) → ∀ x ∈ ord, (x ∈ M ↔ x ∈ (rollO dp s lot ord r').1) := fun e h x hx => by
      rw [hM x (List.mem_cons_of_mem _ hx), e]; exact h x hx
    have nq : ∀ {x : Int}, x ∈ ord → x ≠ q := fun hx e => hq (e ▸ hx)
    have hMq := hM q List.mem_cons_self
    rw [rollO] at hMq
    rw [rollO, rollO]
    by_cases h1 : dp q < s
    · have h1' : dp q < s' := by omega
      rw [if_pos h1] at hMq
      rw [if_pos h1', if_pos h1']
      have hM0 : q ∉ M := fun z => sub _ (hMq.mp z)
      rw [if_neg hM0]
      have hr : 0 ≤ (if q ∈ lot then (1 : Int) else 0) := by split <;> omega
      have := rollO_join hs (M := M) ord (r + if q ∈ lot then 1 else 0) (r2 + 0) hn (by omega) (by omega) (tl (by rw [rollO, if_pos h1]) fun x hx => Iff.rfl)
      rw [this]
      congr 2
      omega
    · rw [if_neg h1] at hMq
      by_cases hm : q ∈ lot
      · rw [if_pos hm] at hMq
        have hM1 : q ∈ M := hMq.mpr List.mem_cons_self
        have ih := fun r2' h2' => rollO_join hs (M := M) (lot := lot) (dp := dp) ord r r2' hn h0 h2' (tl (r' := r) (by rw [rollO, if_neg h1, if_pos hm]) fun x hx => by rw [List.mem_cons]; exact ⟨fun z => z.resolve_left (nq hx), .inr⟩)
        by_cases h3 : dp q < s'
        · rw [if_pos h3, if_pos h3, if_pos hM1, if_pos hm, ih (r2 + 1) (by omega)]
          congr 2
          omega
        · rw [if_neg h3, if_neg h3, if_pos hM1, if_pos hm]
          show q :: _ = q :: _
          rw [ih r2 h2]
      · rw [if_neg hm] at hMq
        by_cases hr : 0 < r
        · rw [if_pos hr] at hMq
          have hM1 : q ∈ M := hMq.mpr List.mem_cons_self
          have ih := fun r2' h2' => rollO_join hs (M := M) (lot := lot) (dp := dp) ord (r - 1) r2' hn (by omega) h2' (tl (r' := r - 1) (by rw [rollO, if_neg h1, if_neg hm, if_pos hr]) fun x hx => by rw [List.mem_cons]; exact ⟨fun z => z.resolve_left (nq hx), .inr⟩)
          by_cases h3 : dp q < s'
          · rw [if_pos h3, if_pos h3, if_pos hM1, if_neg hm, ih (r2 + 1) (by omega)]
            congr 2
            omega
          · rw [if_neg h3, if_neg h3, if_pos hM1, if_neg hm, if_pos (show 0 < r + r2 by omega)]
            show q :: _ = q :: _
            rw [ih r2 h2]
            congr 3
            omega
        · rw [if_neg hr] at hMq
          have hM0 : q ∉ M := fun z => sub _ (hMq.mp z)
          have ih := fun r2' h2' => rollO_join hs (M := M) (lot := lot) (dp := dp) ord r r2' hn h0 h2' (tl (r' := r) (by rw [rollO, if_neg h1, if_neg hm, if_neg hr]) fun x hx => Iff.rfl)
          by_cases h3 : dp q < s'
          · rw [if_pos h3, if_pos h3, if_neg hM0, if_neg hm, ih (r2 + 0) (by omega)]
            congr 2
            omega
          · rw [if_neg h3, if_neg h3, if_neg hM0, if_neg hm]
            by_cases h4 : 0 < r2
            · rw [if_pos h4, if_pos (show 0 < r + r2 by omega)]
              show q :: _ = q :: _
              rw [ih (r2 - 1) (by omega)]
              congr 3
              omega
            · rw [if_neg h4, if_neg (show ¬ 0 < r + r2 by omega), ih r2 h2]
theorem ev_div {i j : Int} {P : Prop} (h1 : Hold (0 < j)) (h2 : Hold (j < 2 ^ 62)) (q : P) : CDivW i j ∧ P := ⟨cdv h1.out h2.out, q⟩
theorem ev_cat {f1 f2 : Prop} {n : Nat} {P : Prop} (h1 : f1) (h2 : f2) (h3 : Hold (n ≤ 2 ^ 20)) (q : P) : (f1 ∧ f2 ∧ n ≤ sizeLine) ∧ P := ⟨⟨h1, h2, Nat.le_trans h3.out (by decide)⟩, q⟩
theorem v_ixD1 {x : Tr} {k k' : Nat} {R : KC} (q : R 0 (.tuple (x.2.1.map .int))) : ap2 oIx (.v k (dS x)) (.v k' (.int 1)) R := ap2_op (by
  show dIx _ R (dS x) (.int 1)
  exact q)
theorem gs_n {i : Nat} {gs : FGs} {d : D} {ds : List D} {e : Pv.Env} : gsCons (gN i) gs (d :: ds) e = gs ds (e.set i (some (sh d))) := rfl
theorem gs_t {n : Nat} {g gs : FGs} {d : D} {ds : List D} {e : Pv.Env} : gsCons (gT n g) gs (d :: ds) e = match unpk n g d e with | some e' => gs ds e' | none => none := rfl
theorem gs_0 {e : Pv.Env} : gsNil [] e = some e := rfl
theorem keepC_none : keepC none = none := rfl
theorem StdS.ml (l : Int) (lot : List Int) (r : Int) : StdS (.list [.int l, .list (lot.map .int), .int r]) (l, lot, r) := ⟨_, .inl rfl, .inr rfl⟩
/-- what is heard by a row -/
def heardS (ws : List Int) : List (Bool × Int) → Tr → List Int
  | [], _ => []
  | (b, s) :: row, x => rolS ws b s x :: heardS ws row (tiltS ws b s x)
theorem heardS_len (ws : List Int) : ∀ (row : List (Bool × Int)) (x : Tr), (heardS ws row x).length = row.length
  | [], _ => rfl
  | (b, s) :: row, x => congrArg (· + 1) (heardS_len ws row _)
theorem heardS_app (ws : List Int) : ∀ (a c : List (Bool × Int)) (x : Tr), heardS ws (a ++ c) x = heardS ws a x ++ heardS ws c (ledS ws a x)
  | [], _, _ => rfl
  | (b, s) :: a, c, x => congrArg (_ :: ·) (heardS_app ws a c _)
theorem tiltS_srt {ws : List Int} {b : Bool} {s : Int} {x : Tr} : srt (OO ws b s x).1 = (tiltS ws b s x).2.1 :=
  srt_rise ((ordB_nodup ws.length b).sublist (rollO_sub _ _ _ _ _)) (tiltS_lot ws b s x).1 fun i => ((tiltS_lot ws b s x).2 i).symm
theorem v_fwdL {r : Res} {ds : List D} {R : KC} (h : r.d = .list ds) (hf : flat r) (q : R 1 (.list ds)) : ap1 (oStpA (some 1)) r R := ap1_op (by
  show dStp (flat r) 1 R r.d
  rw [h]
  exact ⟨⟨hf, .inl rfl⟩, q⟩)
theorem v_fwdT {r : Res} {ds : List D} {R : KC} (h : r.d = .tuple ds) (hf : flat r) (q : R 0 (.tuple ds)) : ap1 (oStpA (some 1)) r R := ap1_op (by
  show dStp (flat r) 1 R r.d
  rw [h]
  exact ⟨.inl rfl, q⟩)
def noPhi : Phi := fun _ _ => False
theorem ixN_last {n : Nat} : ixN (n + 1) (-1) = some n := by
  unfold ixN
  rw [if_neg (by omega), if_pos (by omega)]
  congr 1
  omega
/-- two tilts to one side are the stronger one -/
theorem tilt_join {ws : List Int} {b : Bool} {s s' : Int} {x : Tr} (hx : okS ws.length x) : tiltS ws b s' (tiltS ws b s x) = tiltS ws b (max s s') x := by
  by_cases hs : s ≤ s'
  · rw [show max s s' = s' by omega]
    refine tr_ext (n := ws.length) (b := b) (tiltS_ok (tiltS_ok hx b s) b s') (tiltS_ok hx b s') (fun i => ?_) (by rw [tiltS_beads (tiltS_ok hx b s), tiltS_beads hx, tiltS_beads hx]) (by rw [tiltS_src, tiltS_src])
    rw [(tiltS_lot ws b s' _).2 i, (tiltS_lot ws b s' x).2 i]
    unfold OO
    rw [tiltS_src, rollO_join hs (M := (tiltS ws b s x).2.1) (lot := x.2.1) (ordB ws.length b) (src b x) 0 (ordB_nodup _ _) (src_nn hx b) (Int.le_refl 0) (fun q _ => (tiltS_lot ws b s x).2 q), Int.add_zero]
  · rw [show max s s' = s by omega]
    exact tilt_still (tiltS_ok hx b s) (tiltS_src ws b s x) fun q hq => by have := tiltS_deep hq; omega
theorem mx_cons {p : Int} {ps : List Int} (h : 0 < ps.length) : mx (p :: ps) = max p (mx ps) := by
  have h1 := mx_mem (ws := p :: ps) (Nat.zero_lt_succ _)
  have h2 := le_mx (ws := p :: ps) List.mem_cons_self
  have h3 := le_mx (ws := p :: ps) (List.mem_cons_of_mem _ (mx_mem h))
  rcases List.mem_cons.mp h1 with e | h1
  · omega
  · have := le_mx h1; omega
theorem mx_perm {xs ys : List Int} (h : xs.Perm ys) (h0 : 0 < xs.length) : mx xs = mx ys := by
  have h1 := le_mx (h.mem_iff.mp (mx_mem h0))
  have h2 := le_mx (h.mem_iff.mpr (mx_mem (h.length_eq ▸ h0)))
  omega
/-- a row to one side -/
theorem led_side {ws : List Int} {b : Bool} : ∀ (row : List (Bool × Int)) {x : Tr}, okS ws.length x → (∀ p ∈ row, p.1 = b) → 0 < row.length → ledS ws row x = tiltS ws b (mx (row.map Prod.snd)) x
  | [], _, _, _, h => absurd h (Nat.lt_irrefl _)
  | (c, s) :: row, x, hx, hb, _ => by
    have e : c = b := hb _ List.mem_cons_self
    subst e
    rw [ledS_cons]
    by_cases h0 : 0 < row.length
    · rw [led_side row (tiltS_ok hx c s) (fun p hp => hb p (List.mem_cons_of_mem _ hp)) h0, tilt_join hx, List.map_cons, mx_cons (by rw [List.length_map]; exact h0)]
    · have : row = [] := List.eq_nil_of_length_eq_zero (by omega)
      subst this
      rfl
/-- neighbours to one side as the strongest alone -/
def joinG : List (Bool × Int) → List (Bool × Int) → List (Bool × Int)
  | acc, [] => acc
  | acc, p :: row => match acc.getLast? with
    | some q => if q.1 = p.1 then joinG (acc.dropLast ++ [(p.1, max q.2 p.2)]) row else joinG (acc ++ [p]) row
    | none => joinG (acc ++ [p]) row
theorem joinG_len : ∀ (row acc : List (Bool × Int)), (joinG acc row).length ≤ acc.length + row.length
  | [], acc => Nat.le_refl _
  | p :: row, acc => by
    rw [joinG]
    have h1 := joinG_len row (acc ++ [p])
    rw [List.length_append, List.length_singleton] at h1
    rw [List.length_cons]
    cases e : acc.getLast? with
    | none => show (joinG (acc ++ [p]) row).length ≤ _; omega
    | some q =>
      show (if q.1 = p.1 then joinG (acc.dropLast ++ [(p.1, max q.2 p.2)]) row else joinG (acc ++ [p]) row).length ≤ _
      have h2 := joinG_len row (acc.dropLast ++ [(p.1, max q.2 p.2)])
      rw [List.length_append, List.length_singleton, List.length_dropLast] at h2
      have : 0 < acc.length := by cases acc with
        | nil => cases e
        | cons _ _ => exact Nat.zero_lt_succ _
      split <;> omega
theorem joinG_led {ws : List Int} : ∀ (row acc : List (Bool × Int)) {x : Tr}, okS ws.length x → ledS ws (joinG acc row) x = ledS ws (acc ++ row) x
  | [], acc, x, _ => by rw [joinG, List.append_nil]
  | p :: row, acc, x, hx => by
    rw [joinG]
    cases e : acc.getLast? with
    | none =>
      show ledS ws (joinG (acc ++ [p]) row) x = _
      rw [joinG_led row _ hx, List.append_assoc]; rfl
    | some q =>
      show ledS ws (if q.1 = p.1 then joinG (acc.dropLast ++ [(p.1, max q.2 p.2)]) row else joinG (acc ++ [p]) row) x = _
      by_cases h : q.1 = p.1
      · rw [if_pos h, joinG_led row _ hx]
        obtain ⟨init, rfl⟩ := List.getLast?_eq_some_iff.mp e
        obtain ⟨pb, ps⟩ := p
        obtain ⟨qb, qs⟩ := q
        have h : qb = pb := h
        subst h
        rw [List.dropLast_concat]
        simp only [ledS_app, ledS_cons, ledS_nil]
        rw [tilt_join (ledS_ok init hx)]
      · rw [if_neg h, joinG_led row _ hx, List.append_assoc]; rfl
theorem join_led {ws : List Int} {row : List (Bool × Int)} {x : Tr} (hx : okS ws.length x) : ledS ws (joinG [] row) x = ledS ws row x := by rw [joinG_led row [] hx]; rfl
theorem ledS_beads {ws : List Int} : ∀ (row : List (Bool × Int)) {x : Tr}, okS ws.length x → beadsS (ledS ws row x) = beadsS x
  | [], _, _ => rfl
  | (b, s) :: row, x, h => by rw [ledS_cons, ledS_beads row (tiltS_ok h b s), tiltS_beads h]
theorem iterS_ok {ws : List Int} {row : List (Bool × Int)} : ∀ (n : Nat) {x : Tr}, okS ws.length x → okS ws.length (iterS (ledS ws row) n x)
  | 0, _, h => h
  | n + 1, _, h => iterS_ok n (ledS_ok row h)
theorem iterS_beads {ws : List Int} {row : List (Bool × Int)} : ∀ (n : Nat) {x : Tr}, okS ws.length x → beadsS (iterS (ledS ws row) n x) = beadsS x
  | 0, _, _ => rfl
  | n + 1, x, h => by
    show beadsS (iterS (ledS ws row) n (ledS ws row x)) = _
    rw [iterS_beads n (ledS_ok row h), ledS_beads row h]
theorem iterS_add (f : Tr → Tr) (m n : Nat) (x : Tr) : iterS f (m + n) x = iterS f n (iterS f m x) := by
  induction m generalizing x with
  | zero => rw [Nat.zero_add]; rfl
  | succ m ih =>
    rw [show m + 1 + n = (m + n) + 1 by omega]
    show iterS f (m + n) (f x) = iterS f n (iterS f m (f x))
    exact ih (f x)
/-- so many rounds until nothing changes -/
def Settles (f : Tr → Tr) (x : Tr) (t : Nat) : Prop := iterS f (t + 1) x = iterS f t x ∧ ∀ j, j < t → iterS f (j + 1) x ≠ iterS f j x
theorem Settles.on {f : Tr → Tr} {x : Tr} {t : Nat} (h : Settles f x t) {n : Nat} (hn : t ≤ n) : iterS f n x = iterS f t x := by
  obtain ⟨k, rfl⟩ := Nat.exists_eq_add_of_le hn
  rw [iterS_add]
  have : f (iterS f t x) = iterS f t x := (iterS_succ f t x).symm.trans h.1
  exact iterS_fix this k
theorem Settles.one {f : Tr → Tr} {x : Tr} {t : Nat} (h : Settles f x t) {j : Nat} (hj : iterS f (j + 1) x = iterS f j x) : t ≤ j := by
  rcases Nat.lt_or_ge j t with h' | h'
  · exact absurd hj (h.2 j h')
  · exact h'
theorem Settles.of {f : Tr → Tr} {x : Tr} : ∀ (j : Nat), iterS f (j + 1) x = iterS f j x → ∃ t, Settles f x t ∧ t ≤ j := by
  intro j
  induction j using Nat.strongRecOn with
  | _ j ih =>
    intro hj
    by_cases h : ∃ i, i < j ∧ iterS f (i + 1) x = iterS f i x
    · obtain ⟨i, hi, e⟩ := h
      obtain ⟨t, ht, hti⟩ := ih i hi e
      exact ⟨t, ht, by omega⟩
    · exact ⟨j, ⟨hj, fun i hi e => h ⟨i, hi, e⟩⟩, Nat.le_refl j⟩
theorem Settles.uniq {f : Tr → Tr} {x : Tr} {t u : Nat} (h : Settles f x t) (h' : Settles f x u) : t = u := Nat.le_antisymm (h.one h'.1) (h'.one h.1)
/-- behind a value that is met again: it's settled -/
theorem Settles.eq_last {f : Tr → Tr} {x : Tr} {t n : Nat} (h : Settles f x t) (e : iterS f n x = iterS f t x) : t ≤ n := by
  refine h.one ?_
  rw [iterS_succ, e]
  exact (iterS_succ f t x).symm.trans h.1
/-- deep pits stay full -/
theorem led_keep {ws : List Int} {q S : Int} (hq : S ≤ gI ws q) : ∀ (row : List (Bool × Int)) {x : Tr}, okS ws.length x → (∀ p ∈ row, p.2 ≤ S) → q ∈ x.2.1 → q ∈ (ledS ws row x).2.1
  | [], _, _, _, h => h
  | (b, s) :: row, x, hx, hs, h => by
    rw [ledS_cons]
    exact led_keep hq row (tiltS_ok hx b s) (fun p hp => hs p (List.mem_cons_of_mem _ hp)) (tilt_keep hx h (Int.le_trans (hs _ List.mem_cons_self) hq))
theorem row_split {row : List (Bool × Int)} (h : row ≠ []) : ∃ pre b S post, row = pre ++ (b, S) :: post ∧ ∀ p ∈ row, p.2 ≤ S := by
  induction row with
  | nil => exact absurd rfl h
  | cons p row ih =>
    by_cases hr : row = []
    · subst hr
      exact ⟨[], p.1, p.2, [], rfl, fun q hq => by rw [List.mem_singleton.mp hq]; exact Int.le_refl _⟩
    · obtain ⟨pre, b, S, post, e, hS⟩ := ih hr
      by_cases hp : p.2 ≤ S
      · refine ⟨p :: pre, b, S, post, by rw [e]; rfl, fun q hq => ?_⟩
        rcases List.mem_cons.mp hq with rfl | hq
        · exact hp
        · exact hS q hq
      · refine ⟨[], p.1, p.2, row, rfl, fun q hq => ?_⟩
        rcases List.mem_cons.mp hq with rfl | hq
        · exact Int.le_refl _
        · have := hS q hq; omega
theorem sub_len : ∀ {xs ys : List Int}, xs.Nodup → (∀ i ∈ xs, i ∈ ys) → xs.length ≤ ys.length
  | [], _, _, _ => Nat.zero_le _
  | x :: xs, ys, hn, h => by
    obtain ⟨hx, hn⟩ := List.nodup_cons.mp hn
    have hy := h x List.mem_cons_self
    have := sub_len (xs := xs) (ys := ys.erase x) hn fun i hi => (List.mem_erase_of_ne (fun e => hx (by rw [← e]; exact hi))).mpr (h i (List.mem_cons_of_mem _ hi))
    rw [List.length_erase_of_mem hy] at this
    have : 0 < ys.length := List.length_pos_of_mem hy
    rw [List.length_cons]; omega
theorem sub_eq {xs ys : List Int} (hn : xs.Nodup) (h : ∀ i ∈ xs, i ∈ ys) (hl : ys.length ≤ xs.length) {i : Int} (hi : i ∈ ys) : i ∈ xs := by
  refine Classical.byContradiction fun hx => ?_
  have := sub_len (xs := i :: xs) (ys := ys) (List.nodup_cons.mpr ⟨hx, hn⟩) fun j hj => by
    rcases List.mem_cons.mp hj with rfl | hj
    · exact hi
    · exact h j hj
  rw [List.length_cons] at this
  omega
/-- what stands behind the strongest tilt of a round -/
def topA (ws : List Int) (pre : List (Bool × Int)) (b : Bool) (S : Int) (x : Tr) : Tr := tiltS ws b S (ledS ws pre x)
section
variable {ws : List Int} {row pre post : List (Bool × Int)} {b : Bool} {S : Int} {x : Tr}
theorem top_led (e : row = pre ++ (b, S) :: post) : ledS ws row x = ledS ws post (topA ws pre b S x) := by
  rw [e, ledS_app, ledS_cons]; rfl
theorem top_ok (hx : okS ws.length x) : okS ws.length (topA ws pre b S x) := tiltS_ok (ledS_ok pre hx) b S
theorem top_in (e : row = pre ++ (b, S) :: post) (hS : ∀ p ∈ row, p.2 ≤ S) (hx : okS ws.length x) {q : Int} (hq : q ∈ x.2.1) (hd : S ≤ gI ws q) : q ∈ (topA ws pre b S x).2.1 :=
  tilt_keep (ledS_ok pre hx) (led_keep hd pre hx (fun p hp => hS p (by rw [e]; exact List.mem_append_left _ hp)) hq) hd
theorem top_out (e : row = pre ++ (b, S) :: post) (hS : ∀ p ∈ row, p.2 ≤ S) (hx : okS ws.length x) {q : Int} (hq : q ∈ (topA ws pre b S x).2.1) : q ∈ (ledS ws row x).2.1 ∧ S ≤ gI ws q := by
  have hd : S ≤ gI ws q := tiltS_deep hq
  rw [top_led e]
  exact ⟨led_keep hd post (top_ok hx) (fun p hp => hS p (by rw [e]; exact List.mem_append_right _ (List.mem_cons_of_mem _ hp))) hq, hd⟩
theorem top_eq (e : row = pre ++ (b, S) :: post) (hS : ∀ p ∈ row, p.2 ≤ S) (hx : okS ws.length x) (hl : (topA ws pre b S (ledS ws row x)).2.1.length ≤ (topA ws pre b S x).2.1.length) : topA ws pre b S (ledS ws row x) = topA ws pre b S x := by
  have hy := ledS_ok row hx
  refine tr_ext (n := ws.length) (b := b) (top_ok hy) (top_ok hx) (fun i => ?_) ?_ (by unfold topA; rw [tiltS_src, tiltS_src])
  · have sub : ∀ i, i ∈ (topA ws pre b S x).2.1 → i ∈ (topA ws pre b S (ledS ws row x)).2.1 := fun i hi => by
      obtain ⟨h1, h2⟩ := top_out e hS hx hi
      exact top_in e hS hy h1 h2
    refine ⟨fun hi => ?_, sub i⟩
    exact sub_eq (nodup_lt (top_ok (b := b) (S := S) (pre := pre) hx).2.2.1) sub hl hi
  · unfold topA
    rw [tiltS_beads (ledS_ok pre hy), tiltS_beads (ledS_ok pre hx), ledS_beads pre hy, ledS_beads pre hx, ledS_beads row hx]
theorem top_next (e : row = pre ++ (b, S) :: post) (h : topA ws pre b S (ledS ws row x) = topA ws pre b S x) : ledS ws row (ledS ws row x) = ledS ws row x := by
  rw [top_led e, h, ← top_led e]
theorem top_mono (e : row = pre ++ (b, S) :: post) (hS : ∀ p ∈ row, p.2 ≤ S) (hx : okS ws.length x) : (topA ws pre b S x).2.1.length ≤ (topA ws pre b S (ledS ws row x)).2.1.length :=
  sub_len (nodup_lt (top_ok (b := b) (S := S) (pre := pre) hx).2.2.1) fun i hi => by
    obtain ⟨h1, h2⟩ := top_out e hS hx hi
    exact top_in e hS (ledS_ok row hx) h1 h2
end
/-- rounds settle: no more than one above how many pits there are -/
theorem led_settles {ws : List Int} {row : List (Bool × Int)} {x : Tr} (hx : okS ws.length x) : ∃ t, Settles (ledS ws row) x t ∧ t ≤ ws.length + 1 := by
  by_cases hr : row = []
  · subst hr
    exact ⟨0, ⟨rfl, fun j h => by omega⟩, by omega⟩
  · obtain ⟨pre, b, S, post, e, hS⟩ := row_split hr
    have key : ∃ j, j ≤ ws.length ∧ iterS (ledS ws row) (j + 1 + 1) x = iterS (ledS ws row) (j + 1) x := by
      refine Classical.byContradiction fun hno => ?_
      have grow : ∀ j, j ≤ ws.length + 1 → j ≤ (topA ws pre b S (iterS (ledS ws row) j x)).2.1.length := by
        intro j
        induction j with
        | zero => intro _; exact Nat.zero_le _
        | succ j ih =>
          intro hj
          have h1 := ih (by omega)
          have hy := iterS_ok (row := row) j hx
          have h2 := top_mono e hS hy
          rw [iterS_succ]
          rcases Nat.lt_or_ge (topA ws pre b S (iterS (ledS ws row) j x)).2.1.length (topA ws pre b S (ledS ws row (iterS (ledS ws row) j x))).2.1.length with h3 | h3
          · omega
          · exact absurd ⟨j, by omega, by rw [iterS_succ, iterS_succ]; exact top_next e (top_eq e hS hy h3)⟩ hno
      have h1 := grow (ws.length + 1) (Nat.le_refl _)
      have h2 := (top_ok (b := b) (S := S) (pre := pre) (iterS_ok (row := row) (ws.length + 1) hx)).len
      omega
    obtain ⟨j, hj, ej⟩ := key
    obtain ⟨t, ht, htj⟩ := Settles.of (j + 1) ej
    exact ⟨t, ht, by omega⟩
/-- the rounds that are needed -/
theorem led_far {ws : List Int} {row : List (Bool × Int)} {x : Tr} (hx : okS ws.length x) {n : Nat} (hn : ws.length + 1 ≤ n) : iterS (ledS ws row) n x = iterS (ledS ws row) (ws.length + 1) x := by
  obtain ⟨t, ht, hl⟩ := led_settles (row := row) hx
  rw [ht.on (show t ≤ n by omega), ht.on hl]
theorem inT0_len {b : Bool} {m : Int} : (inT0 b m).2.1.length = 0 := by cases b <;> rfl
theorem iterS_congr {n : Nat} {f g : Tr → Tr} (hfg : ∀ y, okS n y → f y = g y) (hok : ∀ y, okS n y → okS n (f y)) : ∀ (k : Nat) {x : Tr}, okS n x → iterS f k x = iterS g k x
  | 0, _, _ => rfl
  | k + 1, x, h => by
    show iterS f k (f x) = iterS g k (g x)
    rw [iterS_congr hfg hok k (hok x h), hfg x h]
theorem Settles.congr {n : Nat} {f g : Tr → Tr} {x : Tr} {t : Nat} (h : Settles f x t) (hx : okS n x) (hfg : ∀ y, okS n y → f y = g y) (hok : ∀ y, okS n y → okS n (f y)) : Settles g x t := by
  have e := fun k => iterS_congr hfg hok k hx
  exact ⟨by rw [← e, ← e]; exact h.1, fun j hj => by rw [← e, ← e]; exact h.2 j hj⟩
theorem Settles.later {f : Tr → Tr} {x : Tr} {t u k : Nat} (h : Settles f x t) (h' : Settles f (iterS f k x) u) : u = t - k := by
  have e : ∀ j, iterS f j (iterS f k x) = iterS f (k + j) x := fun j => (iterS_add f k j x).symm
  refine Nat.le_antisymm (h'.one ?_) ?_
  · rw [e, e]
    exact (h.on (by omega)).trans (h.on (by omega)).symm
  · have h1 := h'.1
    rw [e, e] at h1
    have := h.one (j := k + u) h1
    omega
/-- a row told twice -/
theorem iterS_two {ws : List Int} {row : List (Bool × Int)} : ∀ (k : Nat) (x : Tr), iterS (ledS ws (row ++ row)) k x = iterS (ledS ws row) (2 * k) x
  | 0, _ => rfl
  | k + 1, x => by
    show iterS (ledS ws (row ++ row)) k (ledS ws (row ++ row) x) = _
    rw [iterS_two k, ledS_app, show 2 * (k + 1) = (2 * k + 1) + 1 by omega]
    rfl
theorem settles_two {ws : List Int} {row : List (Bool × Int)} {x : Tr} {t u : Nat} (h : Settles (ledS ws row) x t) (h' : Settles (ledS ws (row ++ row)) x u) : u = (t + 1) / 2 := by
  refine Nat.le_antisymm (h'.one ?_) ?_
  · rw [iterS_two, iterS_two]
    exact (h.on (by omega)).trans (h.on (by omega)).symm
  · have e := h'.1
    have e2 := h'.on (show u ≤ u + t by omega)
    rw [iterS_two, iterS_two, h.on (by omega)] at e2
    have := h.eq_last e2.symm
    omega
/-- a row begun elsewhere -/
theorem iterS_turn {ws : List Int} {fr la : List (Bool × Int)} : ∀ (k : Nat) (x : Tr), iterS (ledS ws (la ++ fr)) k (ledS ws fr x) = ledS ws fr (iterS (ledS ws (fr ++ la)) k x)
  | 0, _ => rfl
  | k + 1, x => by
    show iterS (ledS ws (la ++ fr)) k (ledS ws (la ++ fr) (ledS ws fr x)) = ledS ws fr (iterS (ledS ws (fr ++ la)) k (ledS ws (fr ++ la) x))
    rw [← iterS_turn k, ledS_app ws la fr, ledS_app ws fr la]
theorem settles_turn {ws : List Int} {fr la : List (Bool × Int)} {x : Tr} {t u : Nat} (h : Settles (ledS ws (fr ++ la)) x t) (h' : Settles (ledS ws (la ++ fr)) (ledS ws fr x) u) : u ≤ t ∧ t ≤ u + 1 := by
  constructor
  · refine h'.one ?_
    rw [iterS_turn, iterS_turn, h.1]
  · refine h.one ?_
    have e := h'.1
    rw [iterS_turn, iterS_turn] at e
    rw [iterS_succ _ (u + 1), ledS_app, e, ← ledS_app]
    exact (iterS_succ _ u x).symm
theorem behind_two {ws : List Int} {row : List (Bool × Int)} {x : Tr} (hx : okS ws.length x) {m : Int} (h0 : 0 ≤ m) : iterS (ledS ws (row ++ row)) (min m ((ws.length : Int) + 1)).toNat x = iterS (ledS ws row) (min (2 * m) ((ws.length : Int) + 1)).toNat x := by
  rw [iterS_two]
  by_cases h : 2 * m ≤ (ws.length : Int) + 1
  · congr 1; omega
  · exact (led_far hx (by omega)).trans (led_far hx (by omega)).symm
theorem tray_all {ws : List Int} {b : Bool} {s : Int} {x : Tr} (hx : okS ws.length x) (hs : ∀ w ∈ ws, w < s) : tiltS ws b s x = inT0 b (beadsS x) := by
  have hy := tiltS_ok hx b s
  refine tr_ext (n := ws.length) (b := b) hy (inT0_ok ?_ b) (fun i => ⟨fun hq => ?_, fun hq => ?_⟩) (by rw [tiltS_beads hx, inT0_beads]) ?_
  · obtain ⟨l, lot, r⟩ := x
    have h1 : 0 ≤ l := hx.1
    have h2 : 0 ≤ r := hx.2.1
    show 0 ≤ l + (lot.length : Int) + r
    omega
  · have h1 := tiltS_deep hq
    have h2 := hy.2.2.2 i hq
    have := hs _ (gI_mem h2.1 h2.2)
    omega
  · have : (inT0 b (beadsS x)).2.1 = [] := by cases b <;> rfl
    rw [this] at hq; cases hq
  · rw [tiltS_src]; cases b <;> rfl
/-- the standings of so many rounds -/
def iterL (f : Tr → Tr) (n : Nat) (y : Tr) : List Tr := (List.range n).map fun t => iterS f t y
theorem iterL_len {f : Tr → Tr} {n : Nat} {y : Tr} : (iterL f n y).length = n := by unfold iterL; rw [List.length_map, List.length_range]
theorem iterL_get {f : Tr → Tr} {n : Nat} {y x : Tr} {i : Nat} (h : (iterL f n y)[i]? = some x) : x = iterS f i y ∧ i < n := by
  unfold iterL at h
  rw [List.getElem?_map] at h
  obtain ⟨a, h1, h2⟩ := Option.map_eq_some_iff.mp h
  have h3 := List.getElem?_eq_some_iff.mp h1
  obtain ⟨h4, h5⟩ := h3
  rw [List.getElem_range] at h5
  rw [List.length_range] at h4
  subst h5
  exact ⟨h2.symm, h4⟩
theorem iterL_last {f : Tr → Tr} {n : Nat} {y x : Tr} (h : (iterL f (n + 1) y).getLast? = some x) : x = iterS f n y := by
  rw [List.getLast?_eq_getElem?, iterL_len] at h
  exact (iterL_get h).1
theorem iterL_snoc {f : Tr → Tr} {n : Nat} {y : Tr} : iterL f (n + 1) y = iterL f n y ++ [iterS f n y] := by
  unfold iterL
  rw [List.range_succ, List.map_append]; rfl
theorem ix_iterL {f : Tr → Tr} {n : Nat} {y : Tr} {q : Int} (h0 : 0 ≤ q) (h1 : q < n) : ix ((iterL f n y).map dS) q = some (dS (iterS f q.toNat y)) := by
  unfold ix
  rw [if_pos h0, List.getElem?_map]
  cases h : (iterL f n y)[q.toNat]? with
  | none => rw [List.getElem?_eq_none_iff, iterL_len] at h; omega
  | some x => rw [(iterL_get h).1]; rfl
theorem led_min {ws : List Int} {row : List (Bool × Int)} {x : Tr} (hx : okS ws.length x) {q : Int} (h : 0 ≤ q) : iterS (ledS ws row) (min q (ws.length + 1)).toNat x = iterS (ledS ws row) q.toNat x := by
  rcases Int.le_total q (ws.length + 1) with h' | h'
  · rw [Int.min_eq_left h']
  · rw [Int.min_eq_right h', led_far hx (n := q.toNat) (by omega)]
    congr 1
/-- the deep ones that are full -/
def fullL (ws : List Int) (S : Int) (y : Tr) : List Int := y.2.1.filter fun q => decide (S ≤ gI ws q)
theorem mem_fullL {ws : List Int} {S q : Int} {y : Tr} : q ∈ fullL ws S y ↔ q ∈ y.2.1 ∧ S ≤ gI ws q := by
  unfold fullL
  rw [List.mem_filter, decide_eq_true_eq]
theorem fullL_nd {ws : List Int} {S : Int} {n : Nat} {y : Tr} (h : okS n y) : (fullL ws S y).Nodup := (nodup_lt h.2.2.1).filter _
theorem full_mono {ws : List Int} {row : List (Bool × Int)} {S q : Int} {y : Tr} (hy : okS ws.length y) (hS : ∀ p ∈ row, p.2 ≤ S) (h : q ∈ fullL ws S y) : q ∈ fullL ws S (ledS ws row y) := by
  obtain ⟨h1, h2⟩ := mem_fullL.mp h
  exact mem_fullL.mpr ⟨led_keep h2 row hy hS h1, h2⟩
/-- two rounds that fill no deep one more: settled -/
theorem full_still {ws : List Int} {row : List (Bool × Int)} {S : Int} {y : Tr} (hy : okS ws.length y) (hS : ∀ p ∈ row, p.2 ≤ S) (hm : row ≠ [] → ∃ p ∈ row, p.2 = S)
    (hl : (fullL ws S (ledS ws row (ledS ws row y))).length = (fullL ws S y).length) : ledS ws row (ledS ws row y) = ledS ws row y := by
  by_cases hr : row = []
  · subst hr; rfl
  · obtain ⟨pre, b, S', post, e, hS'⟩ := row_split hr
    obtain ⟨p, hp, hpS⟩ := hm hr
    have e1 : S' = S := by
      have a1 := hS' p hp
      have a2 := hS (b, S') (by rw [e]; exact List.mem_append_right _ List.mem_cons_self)
      have a3 : (b, S').2 = S' := rfl
      rw [a3] at a2
      omega
    subst e1
    have hy1 := ledS_ok row hy
    have hy2 := ledS_ok row hy1
    have l1 : (fullL ws S' y).length ≤ (topA ws pre b S' y).2.1.length := sub_len (fullL_nd hy) fun q hq => top_in e hS' hy (mem_fullL.mp hq).1 (mem_fullL.mp hq).2
    have l2 : (topA ws pre b S' (ledS ws row y)).2.1.length ≤ (fullL ws S' (ledS ws row (ledS ws row y))).length := sub_len (nodup_lt (top_ok hy1).2.2.1) fun q hq => mem_fullL.mpr (top_out e hS' hy1 hq)
    exact top_next e (top_eq e hS' hy (by omega))
theorem mxD_most {row : List (Bool × Int)} : (∀ p ∈ row, p.2 ≤ mxD 1 (row.map (·.2))) ∧ (row ≠ [] → ∃ p ∈ row, p.2 = mxD 1 (row.map (·.2))) := by
  cases row with
  | nil => exact ⟨fun p hp => absurd hp List.not_mem_nil, fun h => absurd rfl h⟩
  | cons p row =>
    have e : mxD 1 ((p :: row).map (·.2)) = mx ((p :: row).map (·.2)) := rfl
    rw [e]
    refine ⟨fun q hq => le_mx (List.mem_map_of_mem hq), fun _ => ?_⟩
    obtain ⟨q, hq, h⟩ := List.mem_map.mp (mx_mem (ws := (p :: row).map (·.2)) (by simp))
    exact ⟨q, hq, h⟩
end Lw

/-! Vk: lots that lean, steps, who is kept to a side. -/
namespace Lw
open PySem PySem.Spec PyProof.Rows L2 Pv
/-- the pits at least so deep -/
def deepI (s : Int) (ws : List Int) : List Int := (enumI 0 ws).filterMap fun p => if s ≤ p.2 then some (p.1 : Int) else none
theorem mem_enum {s : Int} {i : Int} : ∀ (ws : List Int) (k : Nat), i ∈ ((enumI k ws).filterMap fun p => if s ≤ p.2 then some (p.1 : Int) else none) ↔ (k : Int) ≤ i ∧ i < k + ws.length ∧ s ≤ gI ws (i - k)
  | [], k => by
    constructor
    · intro h; cases h
    · rintro ⟨h1, h2, _⟩; simp at h2; omega
  | w :: ws, k => by
    have ih := mem_enum (s := s) (i := i) ws (k + 1)
    have e : ∀ j : Int, 0 ≤ j → gI (w :: ws) (j + 1) = gI ws j := fun j hj => by
      unfold gI
      rw [show (j + 1).toNat = j.toNat + 1 by omega]
      rfl
    have e0 : gI (w :: ws) 0 = w := rfl
    show i ∈ List.filterMap _ ((k, w) :: enumI (k + 1) ws) ↔ _
    have key : i ∈ ((enumI (k + 1) ws).filterMap fun p => if s ≤ p.2 then some (p.1 : Int) else none) ↔ (k : Int) < i ∧ i < k + ((w :: ws).length : Int) ∧ s ≤ gI (w :: ws) (i - k) := by
      rw [ih, List.length_cons]
      constructor
      · rintro ⟨h1, h2, h3⟩
        refine ⟨by omega, by omega, ?_⟩
        rw [show i - (k : Int) = (i - ((k + 1 : Nat) : Int)) + 1 by omega, e _ (by omega)]; exact h3
      · rintro ⟨h1, h2, h3⟩
        refine ⟨by omega, by omega, ?_⟩
        rw [show i - (k : Int) = (i - ((k + 1 : Nat) : Int)) + 1 by omega, e _ (by omega)] at h3; exact h3
    rw [List.filterMap_cons]
    by_cases hs : s ≤ w
    · simp only [hs, if_true]
      rw [List.mem_cons, key]
      constructor
      · rintro (h | h)
        · subst h
          rw [Int.sub_self, e0]
          exact ⟨Int.le_refl _, by rw [List.length_cons]; omega, hs⟩
        · exact ⟨by omega, h.2.1, h.2.2⟩
      · rintro ⟨h1, h2, h3⟩
        by_cases hk : i = k
        · exact .inl hk
        · exact .inr ⟨by omega, h2, h3⟩
    · simp only [hs, if_false]
      rw [key]
      constructor
      · rintro ⟨h1, h2, h3⟩; exact ⟨by omega, h2, h3⟩
      · rintro ⟨h1, h2, h3⟩
        refine ⟨?_, h2, h3⟩
        by_cases hk : i = k
        · subst hk
          rw [Int.sub_self, e0] at h3
          exact absurd h3 hs
        · omega
theorem mem_deepI {s i : Int} {ws : List Int} : i ∈ deepI s ws ↔ 0 ≤ i ∧ i < ws.length ∧ s ≤ gI ws i := by
  have := mem_enum (s := s) (i := i) ws 0
  unfold deepI
  rw [this]
  simp
theorem deepI_lt (s : Int) (ws : List Int) : (deepI s ws).Pairwise (· < ·) := by
  have go : ∀ (ws : List Int) (k : Nat), ((enumI k ws).filterMap fun p => if s ≤ p.2 then some (p.1 : Int) else none).Pairwise (· < ·) := by
    intro ws
    induction ws with
    | nil => intro k; exact .nil
    | cons w ws ih =>
      intro k
      show List.Pairwise _ (List.filterMap _ ((k, w) :: enumI (k + 1) ws))
      rw [List.filterMap_cons]
      by_cases hs : s ≤ w
      · simp only [hs, if_true]
        refine List.pairwise_cons.mpr ⟨fun i hi => ?_, ih _⟩
        have := ((mem_enum ws (k + 1)).mp hi).1
        omega
      · simp only [hs, if_false]
        exact ih _
  exact go ws 0
/-- a lot's pits are pits -/
def okL (n : Nat) (lot : List Int) : Prop := lot.Pairwise (· < ·) ∧ ∀ p ∈ lot, 0 ≤ p ∧ p < n
theorem okL.len {n : Nat} {lot : List Int} (h : okL n lot) : lot.length ≤ n := by have := rise_len lot 0 n h.1 h.2; omega
def beyL (n : Nat) (p : Int) (b : Bool) : List Int := if b then (irange (p + 1) n).reverse else irange 0 p
theorem mem_beyL {n : Nat} {p q : Int} {b : Bool} : q ∈ beyL n p b ↔ if b then p < q ∧ q < n else 0 ≤ q ∧ q < p := by
  unfold beyL
  cases b
  · exact mem_irange
  · rw [if_pos rfl, List.mem_reverse, mem_irange]
    show p + 1 ≤ q ∧ q < n ↔ p < q ∧ q < n
    omega
theorem beyL_len {n : Nat} {p : Int} {b : Bool} (h : -1 ≤ p) (h2 : p ≤ n) : (beyL n p b).length ≤ n := by
  unfold beyL
  cases b
  · show (irange 0 p).length ≤ n; rw [irange_len]; omega
  · show (irange (p + 1) n).reverse.length ≤ n; rw [List.length_reverse, irange_len]; omega
def deepB (ws : List Int) (p : Int) (b : Bool) : List Int := (beyL ws.length p b).filter fun i => decide (gI ws p < gI ws i)
theorem deepB_len {ws : List Int} {p : Int} {b : Bool} (h : 0 ≤ p) (h2 : p < ws.length) : (deepB ws p b).length ≤ ws.length := Nat.le_trans (List.length_filter_le _ _) (beyL_len (by omega) (by omega))
def bareB (ws lot : List Int) (p : Int) (b : Bool) : List Int := (deepB ws p b).filter fun i => !decide (i ∈ lot)
/-- the pits of a lot beyond which a deeper bare one lies -/
def hindL (ws lot : List Int) (b : Bool) : List Int := lot.filter fun p => decide (0 < ((bareB ws lot p b).length : Int))
def hindO (ws lot : List Int) (b : Bool) : List Int := if b then (hindL ws lot b).reverse else hindL ws lot b
def leanB (ws lot : List Int) (b : Bool) : Bool := (hindL ws lot b).isEmpty
theorem hindO_nil {ws lot : List Int} {b : Bool} : (hindO ws lot b).length = (hindL ws lot b).length := by unfold hindO; cases b <;> simp
theorem leanB_len {ws lot : List Int} {b : Bool} : decide (((hindO ws lot b).length : Int) = 0) = leanB ws lot b := by
  unfold leanB
  rw [hindO_nil]
  cases h : hindL ws lot b with
  | nil => rfl
  | cons x xs =>
    have : ¬ (((x :: xs).length : Int) = 0) := by simp only [List.length_cons]; omega
    rw [decide_eq_false this]; rfl
def leastD (ws lot : List Int) : Int := mn (lot.map (gI ws))
/-- bare pits deeper than the least deep one of a lot, from afar -/
def edgeP (ws lot : List Int) (p : Int) : Bool := decide (leastD ws lot < gI ws p) && !decide (p ∈ lot)
theorem edgeP_t {ws lot : List Int} {p : Int} (h : leastD ws lot < gI ws p) (h2 : p ∉ lot) : edgeP ws lot p = true := by unfold edgeP; rw [decide_eq_true h, decide_eq_false h2]; rfl
theorem edgeP_f {ws lot : List Int} {p : Int} (h : gI ws p ≤ leastD ws lot) : edgeP ws lot p = false := by unfold edgeP; rw [decide_eq_false (by omega)]; rfl
theorem edgeP_g {ws lot : List Int} {p : Int} (h : p ∈ lot) : edgeP ws lot p = false := by unfold edgeP; rw [decide_eq_true h]; simp
def edgeL (ws lot : List Int) (b : Bool) : List Int := (beyL ws.length (if b then -1 else ws.length) b).filter (edgeP ws lot)
def edgeO (ws lot : List Int) (b : Bool) : PyData := if 0 < ((edgeL ws lot b).length : Int) then .int (gI (edgeL ws lot b) 0) else .none
theorem edgeO_some {ws lot : List Int} {b : Bool} (h : 0 < ((edgeL ws lot b).length : Int)) : edgeO ws lot b = .int (gI (edgeL ws lot b) 0) := if_pos h
theorem edgeO_none {ws lot : List Int} {b : Bool} (h : ((edgeL ws lot b).length : Int) ≤ 0) : edgeO ws lot b = .none := if_neg (by omega)
theorem edgeL_len {ws lot : List Int} {b : Bool} : (edgeL ws lot b).length ≤ ws.length := by
  refine Nat.le_trans (List.length_filter_le _ _) (beyL_len ?_ ?_)
  all_goals cases b <;> simp <;> omega
def deepP (ws lot : List Int) (s : Int) : List Int := (deepI s ws).filter fun p => decide (p ∈ lot)
def restL (ws lot : List Int) (b : Bool) : List Int := lot.filter fun p => !decide (p ∈ beyL ws.length (gI (edgeL ws lot b) 0) b)
/-- the lot ahead of a lot -/
def aheadL (ws lot : List Int) (b : Bool) : List Int :=
  if 0 < ((edgeL ws lot b).length : Int) then (if 0 < ((restL ws lot b).length : Int) then deepP ws lot (leastD ws (restL ws lot b)) else []) else []
theorem aheadL_1 {ws lot : List Int} {b : Bool} (h : 0 < ((edgeL ws lot b).length : Int)) (h2 : 0 < ((restL ws lot b).length : Int)) : aheadL ws lot b = deepP ws lot (leastD ws (restL ws lot b)) := by unfold aheadL; rw [if_pos h, if_pos h2]
theorem aheadL_2 {ws lot : List Int} {b : Bool} (h : 0 < ((edgeL ws lot b).length : Int)) (h2 : ((restL ws lot b).length : Int) ≤ 0) : aheadL ws lot b = [] := by unfold aheadL; rw [if_pos h, if_neg (by omega)]
theorem aheadL_3 {ws lot : List Int} {b : Bool} (h : ((edgeL ws lot b).length : Int) ≤ 0) : aheadL ws lot b = [] := by unfold aheadL; rw [if_neg (by omega)]
theorem edge_mem {ws lot : List Int} {b : Bool} (h : 0 < ((edgeL ws lot b).length : Int)) : gI (edgeL ws lot b) 0 ∈ edgeL ws lot b := gI_mem (by omega) h
theorem mem_edgeL {ws lot : List Int} {b : Bool} {q : Int} : q ∈ edgeL ws lot b ↔ 0 ≤ q ∧ q < ws.length ∧ leastD ws lot < gI ws q ∧ q ∉ lot := by
  unfold edgeL edgeP
  rw [List.mem_filter, mem_beyL]
  cases b <;> simp [and_assoc] <;> omega
/-- a lot leans: beyond each of its pits no deeper one is bare -/
def leanP (ws lot : List Int) (b : Bool) : Prop := ∀ p ∈ lot, ∀ q ∈ beyL ws.length p b, gI ws p < gI ws q → q ∈ lot
theorem deepP_eq {ws lot : List Int} (h : okL ws.length lot) (s : Int) : deepP ws lot s = lot.filter fun p => decide (s ≤ gI ws p) := by
  refine rise_uniq ((deepI_lt s ws).filter _) (h.1.filter _) fun i => ?_
  rw [deepP, List.mem_filter, List.mem_filter, mem_deepI, decide_eq_true_eq, decide_eq_true_eq]
  exact ⟨fun z => ⟨z.2, z.1.2.2⟩, fun z => ⟨⟨(h.2 i z.1).1, (h.2 i z.1).2, z.2⟩, z.1⟩⟩
theorem leastD_mem {ws lot : List Int} (h : 0 < lot.length) : ∃ p ∈ lot, gI ws p = leastD ws lot := by
  have := mn_mem (ws := lot.map (gI ws)) (by rw [List.length_map]; exact h)
  obtain ⟨p, hp, e⟩ := List.mem_map.mp this
  exact ⟨p, hp, e⟩
theorem leastD_le {ws lot : List Int} {p : Int} (h : p ∈ lot) : leastD ws lot ≤ gI ws p := mn_le (List.mem_map.mpr ⟨p, h, rfl⟩)
theorem mem_restL {ws lot : List Int} {b : Bool} {p : Int} : p ∈ restL ws lot b ↔ p ∈ lot ∧ p ∉ beyL ws.length (gI (edgeL ws lot b) 0) b := by
  unfold restL; rw [List.mem_filter]; simp
/-- what lies ahead of a lot: nothing, or its deep part -/
theorem aheadL_or (ws lot : List Int) (b : Bool) : aheadL ws lot b = [] ∨ (0 < ((edgeL ws lot b).length : Int) ∧ 0 < ((restL ws lot b).length : Int) ∧ aheadL ws lot b = deepP ws lot (leastD ws (restL ws lot b))) := by
  by_cases h : 0 < ((edgeL ws lot b).length : Int)
  · by_cases h2 : 0 < ((restL ws lot b).length : Int)
    · exact .inr ⟨h, h2, aheadL_1 h h2⟩
    · exact .inl (aheadL_2 h (by omega))
  · exact .inl (aheadL_3 (by omega))
theorem okL.nil {n : Nat} : okL n [] := ⟨.nil, fun _ h => nomatch h⟩
theorem okL.filter {n : Nat} {lot : List Int} (h : okL n lot) (f : Int → Bool) : okL n (lot.filter f) := ⟨h.1.filter _, fun p hp => h.2 p (List.mem_filter.mp hp).1⟩
theorem aheadL_ok {ws lot : List Int} {b : Bool} (h : okL ws.length lot) : okL ws.length (aheadL ws lot b) := by
  rcases aheadL_or ws lot b with e | ⟨_, _, e⟩
  · rw [e]; exact .nil
  · rw [e, deepP_eq h]; exact h.filter _
theorem aheadL_lean {ws lot : List Int} {b : Bool} (h : okL ws.length lot) (hl : leanP ws lot b) : leanP ws (aheadL ws lot b) b := by
  rcases aheadL_or ws lot b with e | ⟨_, _, e⟩
  · rw [e]; intro p hp; cases hp
  · rw [e, deepP_eq h]
    intro p hp q hq hd
    have hp := List.mem_filter.mp hp
    have := of_decide_eq_true hp.2
    exact List.mem_filter.mpr ⟨hl p hp.1 q hq hd, decide_eq_true (by omega)⟩
/-- the least deep pits stay behind -/
theorem least_out {ws lot : List Int} {b : Bool} (h : okL ws.length lot) (hl : leanP ws lot b) (hE : 0 < ((edgeL ws lot b).length : Int)) {r : Int} (hr : r ∈ restL ws lot b) : leastD ws lot < gI ws r := by
  have hm := mem_edgeL.mp (edge_mem hE)
  have hr := mem_restL.mp hr
  have h1 := leastD_le (ws := ws) hr.1
  have h2 := h.2 r hr.1
  by_cases hq : gI ws r ≤ leastD ws lot
  · exfalso
    refine hm.2.2.2 (hl r hr.1 _ ?_ (by omega))
    have hne : r ≠ gI (edgeL ws lot b) 0 := fun e => hm.2.2.2 (e ▸ hr.1)
    have hb := mt mem_beyL.mpr hr.2
    rw [mem_beyL]
    cases b
    · simp only [Bool.false_eq_true, if_false] at hb ⊢; omega
    · simp only [if_true] at hb ⊢; omega
  · omega
theorem aheadL_lt {ws lot : List Int} {b : Bool} (h : okL ws.length lot) (hl : leanP ws lot b) (h0 : 0 < lot.length) : (aheadL ws lot b).length < lot.length := by
  rcases aheadL_or ws lot b with e | ⟨hE, hR, e⟩
  · rw [e]; exact h0
  · rw [e, deepP_eq h]
    obtain ⟨r, hr, er⟩ := leastD_mem (ws := ws) (lot := restL ws lot b) (by omega)
    obtain ⟨p, hp, ep⟩ := leastD_mem (ws := ws) h0
    have := least_out h hl hE hr
    refine Nat.lt_of_le_of_ne (List.length_filter_le _ _) fun hc => ?_
    have := List.length_filter_eq_length_iff.mp hc p hp
    have := of_decide_eq_true this
    omega
/-- the lots on the way to a lot -/
def stepsG (ws : List Int) (b : Bool) : Nat → List Int → List (List Int)
  | 0, _ => []
  | n + 1, lot => if lot.length = 0 then [] else lot :: stepsG ws b n (aheadL ws lot b)
theorem stepsG_up {ws : List Int} {b : Bool} : ∀ (n m : Nat) {lot : List Int}, okL ws.length lot → leanP ws lot b → lot.length ≤ n → n ≤ m → stepsG ws b n lot = stepsG ws b m lot
  | 0, 0, _, _, _, _, _ => rfl
  | 0, m + 1, lot, _, _, h, _ => by rw [stepsG, stepsG, if_pos (by omega)]
  | n + 1, m + 1, lot, ho, hl, h, hm => by
    rw [stepsG, stepsG]
    by_cases h0 : lot.length = 0
    · rw [if_pos h0, if_pos h0]
    · rw [if_neg h0, if_neg h0]
      have := aheadL_lt ho hl (by omega)
      rw [stepsG_up n m (aheadL_ok ho) (aheadL_lean ho hl) (by omega) (by omega)]
theorem stepsG_next {ws : List Int} {b : Bool} {lot : List Int} (ho : okL ws.length lot) (hl : leanP ws lot b) (h : 0 < lot.length) : stepsG ws b lot.length lot = lot :: stepsG ws b (aheadL ws lot b).length (aheadL ws lot b) := by
  have := aheadL_lt ho hl h
  obtain ⟨n, e⟩ : ∃ n, lot.length = n + 1 := ⟨lot.length - 1, by omega⟩
  rw [e, stepsG, if_neg (by omega), stepsG_up (aheadL ws lot b).length n (aheadL_ok ho) (aheadL_lean ho hl) (Nat.le_refl _) (by omega)]
theorem stepsG_len {ws : List Int} {b : Bool} : ∀ (n : Nat) (lot : List Int), (stepsG ws b n lot).length ≤ n
  | 0, _ => Nat.le_refl _
  | n + 1, lot => by
    rw [stepsG]
    by_cases h : lot.length = 0
    · rw [if_pos h]; exact Nat.zero_le _
    · rw [if_neg h]; exact Nat.succ_le_succ (stepsG_len n _)
def lotsD (ls : List (List Int)) : List D := ls.map fun l => .tuple (l.map .int)

/-! ### kept to a side -/
theorem okS.lot {n : Nat} {x : Tr} (h : okS n x) : okL n x.2.1 := h.2.2
/-- what lies in the tray of a side -/
def thr (b : Bool) (x : Tr) : Int := src (!b) x
def roomL (ws lot : List Int) (e : Int) (b : Bool) : List Int := (beyL ws.length e b).filter fun q => decide (gI ws q < leastD ws lot)
def edge1 (ws lot : List Int) (b : Bool) : Int := gI (edgeL ws lot b) 0
def keptP (ws : List Int) (b : Bool) (x : Tr) : Prop := src b x = 0 ∧ leanP ws x.2.1 b ∧ (0 < x.2.1.length → 0 < (edgeL ws x.2.1 b).length → thr b x ≤ ((roomL ws x.2.1 (edge1 ws x.2.1 b) b).length : Int))
theorem mem_hindL {ws lot : List Int} {b : Bool} {p : Int} : p ∈ hindL ws lot b ↔ p ∈ lot ∧ ∃ q, q ∈ bareB ws lot p b := by
  unfold hindL
  rw [List.mem_filter, decide_eq_true_eq]
  refine and_congr_right fun _ => ⟨fun h => ?_, fun ⟨q, hq⟩ => ?_⟩
  · exact List.exists_mem_of_length_pos (by omega)
  · have := List.length_pos_of_mem hq
    omega
theorem mem_bareB {ws lot : List Int} {b : Bool} {p q : Int} : q ∈ bareB ws lot p b ↔ q ∈ beyL ws.length p b ∧ gI ws p < gI ws q ∧ q ∉ lot := by
  unfold bareB deepB
  rw [List.mem_filter, List.mem_filter]
  simp [and_assoc]
theorem leanB_iff {ws lot : List Int} {b : Bool} : leanB ws lot b = true ↔ leanP ws lot b := by
  unfold leanB
  rw [List.isEmpty_iff, List.eq_nil_iff_forall_not_mem]
  constructor
  · intro h p hp q hq hd
    refine Classical.byContradiction fun hn => h p (mem_hindL.mpr ⟨hp, q, mem_bareB.mpr ⟨hq, hd, hn⟩⟩)
  · intro h p hp
    obtain ⟨h1, q, hq⟩ := mem_hindL.mp hp
    obtain ⟨h2, h3, h4⟩ := mem_bareB.mp hq
    exact h4 (h p h1 q h2 h3)
theorem hind_nil {ws lot : List Int} {b : Bool} : (hindO ws lot b).length = 0 ↔ leanP ws lot b := by
  rw [hindO_nil, ← leanB_iff]
  unfold leanB
  cases hindL ws lot b <;> simp
/-- the order in which beads roll -/
theorem ord_bey (n : Nat) (b : Bool) : (ordB n b).Pairwise fun p q => q ∈ beyL n p b ∧ p ∈ beyL n q (!b) := by
  unfold ordB
  have key : (irange 0 n).Pairwise fun (p q : Int) => 0 ≤ p ∧ p < q ∧ q < (n : Int) := by
    refine List.Pairwise.imp_of_mem (fun {a b} ha hb h => ?_) (irange_lt 0 n)
    have := mem_irange.mp ha
    have := mem_irange.mp hb
    exact ⟨by omega, h, by omega⟩
  cases b with
  | true =>
    rw [if_pos rfl]
    refine key.imp fun {p q} h => ⟨mem_beyL.mpr (by simp only [if_true]; omega), mem_beyL.mpr (by simp only [Bool.not_true, Bool.false_eq_true, if_false]; omega)⟩
  | false =>
    rw [if_neg (by simp)]
    refine List.pairwise_reverse.mpr (key.imp fun {p q} h => ⟨mem_beyL.mpr (by simp only [Bool.false_eq_true, if_false]; omega), mem_beyL.mpr (by simp only [Bool.not_false, if_true]; omega)⟩)
theorem bey_tri {n : Nat} {b : Bool} {p q : Int} (hp : 0 ≤ p ∧ p < n) (hq : 0 ≤ q ∧ q < n) (h : p ≠ q) : q ∈ beyL n p b ∨ p ∈ beyL n q b := by
  rw [mem_beyL, mem_beyL]
  cases b <;> simp only [Bool.false_eq_true, if_false, if_true] <;> omega
theorem bey_trans {n : Nat} {b : Bool} {p q r : Int} (h : q ∈ beyL n p b) (h' : r ∈ beyL n q b) : r ∈ beyL n p b := by
  rw [mem_beyL] at h h' ⊢
  cases b <;> simp only [Bool.false_eq_true, if_false, if_true] at h h' ⊢ <;> omega
theorem bey_in {n : Nat} {b : Bool} {p q : Int} (hp : 0 ≤ p ∧ p < n) (h : q ∈ beyL n p b) : 0 ≤ q ∧ q < n := by
  rw [mem_beyL] at h
  cases b <;> simp only [Bool.false_eq_true, if_false, if_true] at h <;> omega
theorem bey_nodup {n : Nat} {b : Bool} {p : Int} : (beyL n p b).Nodup := by
  unfold beyL
  cases b with
  | true => exact List.pairwise_reverse.mpr ((nodup_lt (irange_lt _ _)).imp fun {a b} h => Ne.symm h)
  | false => exact nodup_lt (irange_lt _ _)
theorem edge_first {ws lot : List Int} {b : Bool} {q : Int} (h : q ∈ edgeL ws lot b) : q = edge1 ws lot b ∨ edge1 ws lot b ∈ beyL ws.length q b := by
  have hp : (edgeL ws lot b).Pairwise fun p q => p ∈ beyL ws.length q b := by
    unfold edgeL
    refine List.Pairwise.filter _ ?_
    unfold beyL
    cases b with
    | true =>
      show ((irange (-1 + 1) ws.length).reverse).Pairwise fun p q => p ∈ beyL ws.length q true
      refine List.pairwise_reverse.mpr (List.Pairwise.imp_of_mem (fun {a b} ha hb h => ?_) (irange_lt _ _))
      have := mem_irange.mp hb
      exact mem_beyL.mpr (by simp only [if_true]; omega)
    | false =>
      show (irange 0 ws.length).Pairwise fun p q => p ∈ beyL ws.length q false
      refine List.Pairwise.imp_of_mem (fun {a b} ha hb h => ?_) (irange_lt _ _)
      have := mem_irange.mp ha
      exact mem_beyL.mpr (by simp only [Bool.false_eq_true, if_false]; omega)
  unfold edge1
  cases e : edgeL ws lot b with
  | nil => rw [e] at h; cases h
  | cons a l =>
    rw [e] at h hp
    have e0 : gI (a :: l) 0 = a := rfl
    rw [e0]
    rcases List.mem_cons.mp h with rfl | h
    · exact .inl rfl
    · exact .inr ((List.pairwise_cons.mp hp).1 q h)
theorem edge1_mem {ws lot : List Int} {b : Bool} (h : 0 < (edgeL ws lot b).length) : edge1 ws lot b ∈ edgeL ws lot b := edge_mem (by omega)
theorem rollO_lean {dp : Int → Int} {s : Int} {lot : List Int} : ∀ (ord : List Int) (r : Int), 0 ≤ r → (0 < r → ∀ q ∈ ord, s ≤ dp q → q ∈ lot) → ord.Pairwise (fun p q => p ∈ lot → dp p < s → s ≤ dp q → q ∈ lot) →
    (rollO dp s lot ord r).1 = ord.filter fun q => decide (s ≤ dp q) && decide (q ∈ lot)
  | [], _, _, _, _ => rfl
  | q :: ord, r, h0, h1, hp => by
    obtain ⟨hq, hp⟩ := List.pairwise_cons.mp hp
    rw [rollO, List.filter_cons]
    have h1' : ∀ x ∈ ord, 0 < r → s ≤ dp x → x ∈ lot := fun x hx h hd => h1 h x (List.mem_cons_of_mem _ hx) hd
    by_cases h2 : dp q < s
    · rw [if_pos h2, if_neg (show ¬ ((decide (s ≤ dp q) && decide (q ∈ lot)) = true) by rw [decide_eq_false (show ¬ s ≤ dp q by omega)]; simp)]
      refine rollO_lean ord (r + if q ∈ lot then 1 else 0) (by split <;> omega) (fun h x hx hd => ?_) hp
      by_cases hm : q ∈ lot
      · exact hq x hx hm h2 hd
      · rw [if_neg hm] at h; exact h1' x hx (by omega) hd
    · rw [if_neg h2]
      by_cases hm : q ∈ lot
      · rw [if_pos hm, if_pos (show (decide (s ≤ dp q) && decide (q ∈ lot)) = true by rw [decide_eq_true (show s ≤ dp q by omega), decide_eq_true hm]; rfl)]
        show q :: _ = q :: _
        rw [rollO_lean ord r h0 (fun h x hx hd => h1' x hx h hd) hp]
      · have hr : ¬ 0 < r := fun h => hm (h1 h q List.mem_cons_self (by omega))
        rw [if_neg hm, if_neg hr, if_neg (show ¬ ((decide (s ≤ dp q) && decide (q ∈ lot)) = true) by rw [decide_eq_false hm]; simp), rollO_lean ord r h0 (fun h x hx hd => h1' x hx h hd) hp]
theorem rollO_back {dp : Int → Int} {s : Int} {lot : List Int} : ∀ (ord : List Int) (r : Int), 0 ≤ r → ord.Nodup → ord.Pairwise (fun p q => q ∈ lot → dp q < dp p → p ∈ lot) →
    (0 < (rollO dp s lot ord r).2 → ∀ q ∈ ord, s ≤ dp q → q ∈ (rollO dp s lot ord r).1) ∧ ord.Pairwise (fun p q => q ∈ (rollO dp s lot ord r).1 → dp q < dp p → p ∈ (rollO dp s lot ord r).1)
  | [], _, _, _, _ => ⟨fun _ _ h => (by cases h), .nil⟩
  | p :: ord, r, h0, hn, hp => by
    obtain ⟨hpn, hn⟩ := List.nodup_cons.mp hn
    obtain ⟨hq, hp⟩ := List.pairwise_cons.mp hp
    have sub : ∀ r' x, x ∈ (rollO dp s lot ord r').1 → x ∈ ord := fun r' x z => (rollO_sub dp s lot ord r').subset z
    have full : ∀ r' : Int, 0 ≤ r' → (0 < (p :: (rollO dp s lot ord r').1, (rollO dp s lot ord r').2).2 → ∀ q ∈ p :: ord, s ≤ dp q → q ∈ (p :: (rollO dp s lot ord r').1, (rollO dp s lot ord r').2).1) ∧
        (p :: ord).Pairwise (fun a q => q ∈ (p :: (rollO dp s lot ord r').1, (rollO dp s lot ord r').2).1 → dp q < dp a → a ∈ (p :: (rollO dp s lot ord r').1, (rollO dp s lot ord r').2).1) := fun r' hr' => by
      obtain ⟨i1, i2⟩ := rollO_back (dp := dp) (s := s) (lot := lot) ord r' hr' hn hp
      refine ⟨fun hc q hq hd => ?_, List.pairwise_cons.mpr ⟨fun _ _ _ _ => List.mem_cons_self, ?_⟩⟩
      · rcases List.mem_cons.mp hq with rfl | hq
        · exact List.mem_cons_self
        · exact List.mem_cons_of_mem _ (i1 hc q hq hd)
      · refine List.Pairwise.imp_of_mem (fun {a z} ha hz h hm hd => ?_) i2
        rcases List.mem_cons.mp hm with e | hm
        · exact absurd (e ▸ hz) hpn
        · exact List.mem_cons_of_mem _ (h hm hd)
    rw [rollO]
    by_cases h1 : dp p < s
    · rw [if_pos h1]
      obtain ⟨i1, i2⟩ := rollO_back (dp := dp) (s := s) (lot := lot) ord (r + if p ∈ lot then 1 else 0) (by split <;> omega) hn hp
      refine ⟨fun hc q hq hd => ?_, List.pairwise_cons.mpr ⟨fun q hq hm hd => ?_, i2⟩⟩
      · rcases List.mem_cons.mp hq with rfl | hq
        · omega
        · exact i1 hc q hq hd
      · have := rollO_deep _ _ _ _ _ q hm
        omega
    · rw [if_neg h1]
      by_cases hm : p ∈ lot
      · rw [if_pos hm]; exact full r h0
      · rw [if_neg hm]
        by_cases hr : 0 < r
        · rw [if_pos hr]; exact full (r - 1) (by omega)
        · rw [if_neg hr]
          have e : r = 0 := by omega
          subst e
          have hs : ∀ q ∈ ord, q ∈ lot → s ≤ dp q := fun q hx hl => by
            by_cases h : s ≤ dp q
            · exact h
            · exact absurd (hq q hx hl (by omega)) hm
          obtain ⟨i1, i2⟩ := rollO_back (dp := dp) (s := s) (lot := lot) ord 0 (Int.le_refl 0) hn hp
          refine ⟨fun hc => ?_, List.pairwise_cons.mpr ⟨fun q hx hm2 hd => ?_, i2⟩⟩
          · rw [rollO_still ord hs] at hc
            exact absurd hc (by show ¬ (0 : Int) < 0; omega)
          · rw [rollO_still ord hs] at hm2
            have := (List.mem_filter.mp hm2).2
            exact absurd (hq q hx (of_decide_eq_true this) hd) hm
theorem filter_two {α : Type} (f : α → Bool) : ∀ (l : List α), (l.filter fun q => !f q).length + (l.filter f).length = l.length
  | [] => rfl
  | a :: l => by
    have := filter_two f l
    rw [List.filter_cons, List.filter_cons, List.length_cons]
    cases f a <;> simp <;> omega
theorem src_thr {ws : List Int} {b : Bool} {s : Int} {x : Tr} : src (!b) (tiltS ws b s x) = src (!b) x + (OO ws b s x).2 := by
  rw [tiltS_O]; cases b <;> rfl
theorem beadsS_two (b : Bool) (x : Tr) : beadsS x = src b x + (x.2.1.length : Int) + src (!b) x := by
  unfold beadsS src; cases b <;> simp <;> omega
theorem lean_ord {ws lot : List Int} {b : Bool} (h : leanP ws lot b) : (ordB ws.length b).Pairwise (fun p q => p ∈ lot → gI ws p < gI ws q → q ∈ lot) := (ord_bey ws.length b).imp fun {p q} hb hp hd => h p hp q hb.1 hd
theorem kept_lot {ws : List Int} {b : Bool} {s : Int} {x : Tr} (hx : okS ws.length x) (h : leanP ws x.2.1 b) (h0 : src b x = 0) (q : Int) : q ∈ (tiltS ws b s x).2.1 ↔ q ∈ x.2.1 ∧ s ≤ gI ws q := by
  rw [(tiltS_lot ws b s x).2 q]
  unfold OO
  rw [rollO_lean _ _ (by omega) (fun h => by omega) ((lean_ord h).imp fun {p q} hl hp h1 h2 => hl hp (by omega)), List.mem_filter, mem_ordB]
  simp only [Bool.and_eq_true, decide_eq_true_eq]
  exact ⟨fun z => ⟨z.2.2, z.2.1⟩, fun z => ⟨hx.2.2.2 q z.1, z.2, z.1⟩⟩
/-- kept to a side, tilted to it: kept to it -/
theorem kept_same {ws : List Int} {b : Bool} {s : Int} {x : Tr} (hx : okS ws.length x) (h : keptP ws b x) : keptP ws b (tiltS ws b s x) := by
  obtain ⟨h0, hl, hr⟩ := h
  have hm := kept_lot (s := s) hx hl h0
  have hy := tiltS_ok hx b s
  refine ⟨tiltS_src ws b s x, fun p hp q hq hd => ?_, fun hlen hE => ?_⟩
  · have hp := (hm p).mp hp
    exact (hm q).mpr ⟨hl p hp.1 q hq hd, by omega⟩
  · obtain ⟨p0, hp0, e0⟩ := leastD_mem (ws := ws) hlen
    have hp0' := (hm p0).mp hp0
    have hu : leastD ws x.2.1 ≤ leastD ws (tiltS ws b s x).2.1 := by rw [← e0]; exact leastD_le hp0'.1
    have hus : s ≤ leastD ws (tiltS ws b s x).2.1 := by rw [← e0]; exact hp0'.2
    obtain ⟨e1, e2, e3, e4⟩ := mem_edgeL.mp (edge1_mem hE)
    have e5 : edge1 ws (tiltS ws b s x).2.1 b ∉ x.2.1 := fun z => e4 ((hm _).mpr ⟨z, by omega⟩)
    have e6 : edge1 ws (tiltS ws b s x).2.1 b ∈ edgeL ws x.2.1 b := mem_edgeL.mpr ⟨e1, e2, by omega, e5⟩
    generalize edge1 ws (tiltS ws b s x).2.1 b = e' at e1 e2 e3 e4 e5 e6 ⊢
    have hr := hr (List.length_pos_of_mem hp0'.1) (List.length_pos_of_mem e6)
    have hb := tiltS_beads hx b s
    rw [beadsS_two b, beadsS_two b, tiltS_src, h0] at hb
    have key : (roomL ws x.2.1 (edge1 ws x.2.1 b) b).length + (x.2.1.filter fun q => !decide (s ≤ gI ws q)).length ≤ (roomL ws (tiltS ws b s x).2.1 e' b).length := by
      rw [← List.length_append]
      have hA : ∀ i ∈ roomL ws x.2.1 (edge1 ws x.2.1 b) b, i ∈ beyL ws.length (edge1 ws x.2.1 b) b ∧ gI ws i < leastD ws x.2.1 := fun i hi => by
        have := List.mem_filter.mp hi
        exact ⟨this.1, of_decide_eq_true this.2⟩
      have hB : ∀ i ∈ (x.2.1.filter fun q => !decide (s ≤ gI ws q)), i ∈ x.2.1 ∧ gI ws i < s := fun i hi => by
        have := List.mem_filter.mp hi
        refine ⟨this.1, ?_⟩
        have := this.2
        simp at this; omega
      refine sub_len (List.nodup_append.mpr ⟨bey_nodup.filter _, (nodup_lt hx.2.2.1).filter _, fun i hi j hj e => ?_⟩) fun i hi => ?_
      · subst e
        have := (hA i hi).2
        have := leastD_le (ws := ws) (hB i hj).1
        omega
      · refine List.mem_filter.mpr ?_
        rcases List.mem_append.mp hi with hi | hi
        · obtain ⟨z1, z2⟩ := hA i hi
          refine ⟨?_, decide_eq_true (by omega)⟩
          rcases edge_first e6 with z | z
          · rw [z]; exact z1
          · exact bey_trans z z1
        · obtain ⟨z1, z2⟩ := hB i hi
          refine ⟨?_, decide_eq_true (by omega)⟩
          rcases bey_tri (b := b) (hx.2.2.2 i z1) ⟨e1, e2⟩ (fun e => e5 (e ▸ z1)) with z | z
          · exact absurd (hl i z1 _ z (by omega)) e5
          · exact z
    have hsp : (x.2.1.filter fun q => !decide (s ≤ gI ws q)).length + (tiltS ws b s x).2.1.length = x.2.1.length := by
      have e : (tiltS ws b s x).2.1 = x.2.1.filter fun q => decide (s ≤ gI ws q) := rise_uniq hy.2.2.1 (hx.2.2.1.filter _) fun i => by rw [hm i, List.mem_filter, decide_eq_true_eq]
      rw [e]
      exact filter_two (fun q => decide (s ≤ gI ws q)) x.2.1
    unfold thr at hr ⊢
    omega
/-- kept to a side, tilted to the other one: kept to one of them -/
theorem kept_other {ws : List Int} {b : Bool} {s : Int} {x : Tr} (hx : okS ws.length x) (h : keptP ws b x) : keptP ws b (tiltS ws (!b) s x) ∨ keptP ws (!b) (tiltS ws (!b) s x) := by
  obtain ⟨h0, hl, hr⟩ := h
  have hy := tiltS_ok hx (!b) s
  have ho : (ordB ws.length (!b)).Pairwise (fun p q => q ∈ x.2.1 → gI ws q < gI ws p → p ∈ x.2.1) := (ord_bey ws.length (!b)).imp fun {p q} hb hq hd => by
    have := hb.2
    rw [Bool.not_not] at this
    exact hl q hq p this hd
  obtain ⟨i1, i2⟩ := rollO_back (dp := gI ws) (s := s) (lot := x.2.1) (ordB ws.length (!b)) (src (!b) x) (src_nn hx _) (ordB_nodup _ _) ho
  have hm := (tiltS_lot ws (!b) s x).2
  have hs0 := tiltS_src ws (!b) s x
  have ht := src_thr (ws := ws) (b := !b) (s := s) (x := x)
  rw [Bool.not_not, h0] at ht
  by_cases hc : 0 < (OO ws (!b) s x).2
  · right
    have hd : ∀ q : Int, 0 ≤ q → q < ws.length → s ≤ gI ws q → q ∈ (tiltS ws (!b) s x).2.1 := fun q q0 q1 hq => (hm q).mpr (i1 hc q (mem_ordB.mpr ⟨q0, q1⟩) hq)
    refine ⟨hs0, fun p hp q hq hdd => ?_, fun hlen hE => ?_⟩
    · have := tiltS_deep hp
      have := bey_in (hy.2.2.2 p hp) hq
      exact hd q this.1 this.2 (by omega)
    · obtain ⟨e1, e2, e3, e4⟩ := mem_edgeL.mp (edge1_mem hE)
      obtain ⟨p0, hp0, e0⟩ := leastD_mem (ws := ws) hlen
      have := tiltS_deep hp0
      exact absurd (hd _ e1 e2 (by omega)) e4
  · left
    have hc0 : 0 ≤ (OO ws (!b) s x).2 := rollO_nn _ _ _ _ _ (src_nn hx _)
    refine ⟨by omega, fun p hp q hq hd => ?_, fun _ _ => ?_⟩
    · have hp' := (hm p).mp hp
      have hpb := hy.2.2.2 p hp
      have hqb := bey_in hpb hq
      refine (hm q).mpr ?_
      have : ∀ {ord : List Int} {L : List Int}, ord.Pairwise (fun p q => q ∈ L → gI ws q < gI ws p → p ∈ L) → ord.Pairwise (fun p q => p ∈ beyL ws.length q b) → q ∈ ord → p ∈ ord → p ∈ L → q ∈ L := fun {ord L} j1 j2 hqo hpo hpL => by
        induction ord with
        | nil => cases hqo
        | cons a ord ih =>
          obtain ⟨a1, a2⟩ := List.pairwise_cons.mp j1
          obtain ⟨b1, b2⟩ := List.pairwise_cons.mp j2
          rcases List.mem_cons.mp hqo with e | hqo2
          · rcases List.mem_cons.mp hpo with e2 | hpo2
            · rw [e, ← e2]; exact hpL
            · rw [e]; rw [e] at hd; exact a1 p hpo2 hpL hd
          · rcases List.mem_cons.mp hpo with e2 | hpo2
            · have := b1 q hqo2
              rw [← e2, mem_beyL] at this
              rw [mem_beyL] at hq
              cases b <;> simp only [Bool.false_eq_true, if_false, if_true] at this hq <;> omega
            · exact ih a2 b2 hqo2 hpo2
      refine this i2 ((ord_bey ws.length (!b)).imp fun {p q} hb => ?_) (mem_ordB.mpr hqb) (mem_ordB.mpr hpb) hp'
      have := hb.2
      rw [Bool.not_not] at this
      exact this
    · unfold thr
      rw [hs0]; exact Int.natCast_nonneg _
theorem kept_tray {ws : List Int} {b : Bool} {m : Int} : keptP ws b (inT0 b m) := by
  refine ⟨by cases b <;> rfl, fun p hp => ?_, fun h => ?_⟩
  · have : (inT0 b m).2.1 = [] := by cases b <;> rfl
    rw [this] at hp; cases hp
  · rw [inT0_len] at h; omega
theorem kept_tilt {ws : List Int} {b c : Bool} {s : Int} {x : Tr} (hx : okS ws.length x) (h : keptP ws b x) : ∃ d, keptP ws d (tiltS ws c s x) := by
  by_cases e : c = b
  · subst e; exact ⟨_, kept_same hx h⟩
  · have : c = !b := by cases c <;> cases b <;> simp_all
    subst this
    rcases kept_other (s := s) hx h with h | h
    · exact ⟨_, h⟩
    · exact ⟨_, h⟩
theorem kept_row {ws : List Int} : ∀ (row : List (Bool × Int)) {x : Tr} {b : Bool}, okS ws.length x → keptP ws b x → ∃ d, keptP ws d (ledS ws row x)
  | [], _, b, _, h => ⟨b, h⟩
  | (c, s) :: row, x, b, hx, h => by
    obtain ⟨d, hd⟩ := kept_tilt (c := c) (s := s) hx h
    rw [ledS_cons]
    exact kept_row row (tiltS_ok hx c s) hd
/-- behind any tilts from a tray -/
theorem kept_led {ws : List Int} {row : List (Bool × Int)} {b : Bool} {m : Int} (h : 0 ≤ m) : ∃ d, keptP ws d (ledS ws row (inT0 b m)) := kept_row row (inT0_ok h b) kept_tray
/-- .. as the program tells it -/
def keptB (ws : List Int) (x : Tr) (b : Bool) : Bool := !decide (0 < src b x) && (leanB ws x.2.1 b && (decide (x.2.1.length = 0) || (decide ((edgeL ws x.2.1 b).length = 0) || decide (thr b x ≤ ((roomL ws x.2.1 (edge1 ws x.2.1 b) b).length : Int)))))
theorem keptB_iff {ws : List Int} {x : Tr} {b : Bool} (hx : okS ws.length x) : keptB ws x b = true ↔ keptP ws b x := by
  unfold keptB keptP
  have h0 := src_nn hx b
  rw [Bool.and_eq_true, Bool.and_eq_true, leanB_iff, Bool.or_eq_true, Bool.or_eq_true]
  simp only [Bool.not_eq_true', decide_eq_false_iff_not, decide_eq_true_eq]
  constructor
  · rintro ⟨a, b, c⟩
    exact ⟨by omega, b, fun h1 h2 => by rcases c with c | c | c <;> omega⟩
  · rintro ⟨a, b, c⟩
    refine ⟨by omega, b, ?_⟩
    by_cases h1 : x.2.1.length = 0
    · exact .inl h1
    · by_cases h2 : (edgeL ws x.2.1 ‹Bool›).length = 0
      · exact .inr (.inl h2)
      · exact .inr (.inr (c (by omega) (by omega)))
def keptL (ws : List Int) (x : Tr) : List Bool := [false, true].filter (keptB ws x)
def ledB (ws : List Int) (x : Tr) : Bool := keptB ws x false || keptB ws x true
theorem ledB_iff {ws : List Int} {x : Tr} (hx : okS ws.length x) : ledB ws x = true ↔ ∃ b, keptP ws b x := by
  unfold ledB
  rw [Bool.or_eq_true, keptB_iff hx, keptB_iff hx]
  exact ⟨fun h => by rcases h with h | h; exact ⟨_, h⟩; exact ⟨_, h⟩, fun ⟨b, h⟩ => by cases b; exact .inl h; exact .inr h⟩
theorem keptL_len {ws : List Int} {x : Tr} : decide (0 < ((keptL ws x).length : Int)) = ledB ws x := by
  unfold keptL ledB
  rw [List.filter_cons, List.filter_cons, List.filter_nil]
  cases keptB ws x false <;> cases keptB ws x true <;> simp
/-! ### reasons -/
def hind1 (ws lot : List Int) (b : Bool) : Int := gI (hindO ws lot b) 0
def bare1 (ws lot : List Int) (b : Bool) : Int := gI (bareB ws lot (hind1 ws lot b) b) 0
def barO (ws lot : List Int) (b : Bool) : PyData := if 0 < ((hindO ws lot b).length : Int) then .tuple [.int (hind1 ws lot b), .int (bare1 ws lot b)] else .none
theorem barO_some {ws lot : List Int} {b : Bool} (h : 0 < ((hindO ws lot b).length : Int)) : barO ws lot b = .tuple [.int (hind1 ws lot b), .int (bare1 ws lot b)] := if_pos h
theorem barO_none {ws lot : List Int} {b : Bool} (h : ((hindO ws lot b).length : Int) ≤ 0) : barO ws lot b = .none := if_neg (by omega)
theorem mem_hindO {ws lot : List Int} {b : Bool} {p : Int} : p ∈ hindO ws lot b ↔ p ∈ hindL ws lot b := by unfold hindO; cases b <;> simp
theorem hind1_mem {ws lot : List Int} {b : Bool} (h : 0 < ((hindO ws lot b).length : Int)) : hind1 ws lot b ∈ lot ∧ bare1 ws lot b ∈ bareB ws lot (hind1 ws lot b) b := by
  have h1 : hind1 ws lot b ∈ hindO ws lot b := gI_mem (by omega) h
  obtain ⟨h2, q, hq⟩ := mem_hindL.mp (mem_hindO.mp h1)
  refine ⟨h2, gI_mem (by omega) ?_⟩
  have := List.length_pos_of_mem hq
  omega
theorem hindO_le {ws lot : List Int} {b : Bool} : (hindO ws lot b).length ≤ lot.length := by rw [hindO_nil]; exact List.length_filter_le _ _
theorem bareB_le {ws lot : List Int} {p : Int} {b : Bool} (h : 0 ≤ p ∧ p < ws.length) : (bareB ws lot p b).length ≤ ws.length := Nat.le_trans (List.length_filter_le _ _) (deepB_len h.1 h.2)
def reasonD (ws : List Int) (x : Tr) (b : Bool) : PyData :=
  if 0 < src b x then .tuple [.str "tray"]
  else if 0 < ((hindO ws x.2.1 b).length : Int) then .tuple [.str "pits", .int (hind1 ws x.2.1 b), .int (bare1 ws x.2.1 b)]
  else if 0 < (x.2.1.length : Int) ∧ 0 < ((edgeL ws x.2.1 b).length : Int) ∧ ((roomL ws x.2.1 (edge1 ws x.2.1 b) b).length : Int) < thr b x then .tuple [.str "room", .int (edge1 ws x.2.1 b)]
  else .none
theorem reasonD_none {ws : List Int} {x : Tr} {b : Bool} : isNone (reasonD ws x b) = keptB ws x b := by
  unfold reasonD keptB
  have hl := leanB_len (ws := ws) (lot := x.2.1) (b := b)
  by_cases h1 : 0 < src b x
  · rw [if_pos h1, decide_eq_true h1]; rfl
  · rw [if_neg h1, decide_eq_false h1]
    by_cases h2 : 0 < ((hindO ws x.2.1 b).length : Int)
    · rw [if_pos h2, ← hl, decide_eq_false (by omega)]; rfl
    · rw [if_neg h2, ← hl, decide_eq_true (show ((hindO ws x.2.1 b).length : Int) = 0 by omega)]
      by_cases h3 : 0 < (x.2.1.length : Int) ∧ 0 < ((edgeL ws x.2.1 b).length : Int) ∧ ((roomL ws x.2.1 (edge1 ws x.2.1 b) b).length : Int) < thr b x
      · rw [if_pos h3, decide_eq_false (show ¬ x.2.1.length = 0 by omega), decide_eq_false (show ¬ (edgeL ws x.2.1 b).length = 0 by omega), decide_eq_false (show ¬ thr b x ≤ ((roomL ws x.2.1 (edge1 ws x.2.1 b) b).length : Int) by omega)]; rfl
      · rw [if_neg h3]
        by_cases h4 : x.2.1.length = 0
        · rw [decide_eq_true h4]; rfl
        · by_cases h5 : (edgeL ws x.2.1 b).length = 0
          · rw [decide_eq_true h5]; simp [isNone]
          · rw [decide_eq_true (show thr b x ≤ ((roomL ws x.2.1 (edge1 ws x.2.1 b) b).length : Int) by omega)]; simp [isNone]
theorem barO_tup {ws lot : List Int} {b : Bool} (h : isNone (barO ws lot b) = false) : 0 < ((hindO ws lot b).length : Int) := by
  refine Classical.byContradiction fun hn => ?_
  rw [barO_none (by omega)] at h; cases h
theorem barO_non {ws lot : List Int} {b : Bool} (h : isNone (barO ws lot b) = true) : ((hindO ws lot b).length : Int) ≤ 0 := by
  refine Classical.byContradiction fun hn => ?_
  rw [barO_some (by omega)] at h; cases h
theorem edgeO_pos {ws lot : List Int} {b : Bool} (h : isNone (edgeO ws lot b) = false) : 0 < ((edgeL ws lot b).length : Int) := by
  refine Classical.byContradiction fun hn => ?_
  rw [edgeO_none (by omega)] at h; cases h
theorem edgeO_non {ws lot : List Int} {b : Bool} (h : isNone (edgeO ws lot b) = true) : ((edgeL ws lot b).length : Int) ≤ 0 := by
  refine Classical.byContradiction fun hn => ?_
  rw [edgeO_some (by omega)] at h; cases h
theorem reasonD_1 {ws : List Int} {x : Tr} {b : Bool} (h : 0 < src b x) : reasonD ws x b = .tuple [.str "tray"] := if_pos h
theorem reasonD_2 {ws : List Int} {x : Tr} {b : Bool} (h : src b x ≤ 0) (h2 : 0 < ((hindO ws x.2.1 b).length : Int)) : reasonD ws x b = .tuple [.str "pits", .int (hind1 ws x.2.1 b), .int (bare1 ws x.2.1 b)] := by
  unfold reasonD; rw [if_neg (by omega), if_pos h2]
theorem reasonD_3 {ws : List Int} {x : Tr} {b : Bool} (h : src b x ≤ 0) (h2 : ((hindO ws x.2.1 b).length : Int) ≤ 0) (h3 : 0 < (x.2.1.length : Int)) (h4 : 0 < ((edgeL ws x.2.1 b).length : Int)) (h5 : ((roomL ws x.2.1 (edge1 ws x.2.1 b) b).length : Int) < thr b x) : reasonD ws x b = .tuple [.str "room", .int (edge1 ws x.2.1 b)] := by
  unfold reasonD; rw [if_neg (by omega), if_neg (by omega), if_pos ⟨h3, h4, h5⟩]
theorem reasonD_4 {ws : List Int} {x : Tr} {b : Bool} (h : src b x ≤ 0) (h2 : ((hindO ws x.2.1 b).length : Int) ≤ 0) (h3 : ¬ (0 < (x.2.1.length : Int) ∧ 0 < ((edgeL ws x.2.1 b).length : Int) ∧ ((roomL ws x.2.1 (edge1 ws x.2.1 b) b).length : Int) < thr b x)) : reasonD ws x b = .none := by
  unfold reasonD; rw [if_neg (by omega), if_neg (by omega), if_neg h3]
def barsD (ws : List Int) (x : Tr) : PyData := if ledB ws x then .none else .tuple [reasonD ws x false, reasonD ws x true]
theorem barsD_none {ws : List Int} {x : Tr} : isNone (barsD ws x) = ledB ws x := by
  unfold barsD; cases ledB ws x <;> rfl
theorem reasonD_dep {ws : List Int} {x : Tr} {b : Bool} : dep 1 (reasonD ws x b) = true := by
  unfold reasonD
  split
  · decide +kernel
  · split
    · show ([PyData.str "pits", .int _, .int _] : List D).all (dep 0) = true
      rw [List.all_cons, show dep 0 (.str "pits") = true by decide +kernel]; rfl
    · split
      · show ([PyData.str "room", .int _] : List D).all (dep 0) = true
        rw [List.all_cons, show dep 0 (.str "room") = true by decide +kernel]; rfl
      · rfl
theorem inD_none (ds : List D) : inD .none ds = ds.any isNone := by
  unfold inD
  congr 1
  funext z
  cases z <;> simp [isNone, PyData.eqv]
/-- pits drawn one by one, so far -/
theorem okL.snoc {n j : Nat} {vs : List Int} (h : okL j vs) (hj : j < n) : okL (j + 1) (vs ++ [(j : Int)]) ∧ okL (j + 1) vs := by
  refine ⟨⟨?_, fun p hp => ?_⟩, h.1, fun p hp => by have := h.2 p hp; omega⟩
  · rw [List.pairwise_append]
    exact ⟨h.1, List.pairwise_singleton _ _, fun a ha b hb => by have := h.2 a ha; rw [List.mem_singleton.mp hb]; omega⟩
  · rcases List.mem_append.mp hp with hp | hp
    · have := h.2 p hp; omega
    · rw [List.mem_singleton.mp hp]; omega
theorem okL.irange (n : Nat) : okL n (irange 0 n) := ⟨irange_lt _ _, fun p hp => mem_irange.mp hp⟩
def optI : Option Int → D
  | some k => .int k
  | none => .none
theorem v_eqO {k k' : Nat} {o : Option Int} {j : Int} {R : KC} (q : R 0 (.bool (decide (o = some j)))) : ap2 oEq (.v k (optI o)) (.v k' (.int j)) R := ap2_op (by
  cases o with
  | none =>
    show shp .none ∧ shp (.int j) ∧ R 0 (.bool (PyData.eqv .none (.int j)))
    refine ⟨dep_shp (n := 0) rfl (by decide), dep_shp (n := 0) rfl (by decide), ?_⟩
    have : PyData.eqv .none (.int j) = false := by simp [PyData.eqv]
    rw [this]; simpa using q
  | some i =>
    show R 0 (.bool (decide (i = j)))
    have : decide (some i = some j) = decide (i = j) := by simp
    rw [this] at q; exact q)
theorem okD_opt {n : Nat} {o : Option Int} : okD n (optI o) := by cases o; exact okD_non; exact okD_int
theorem fullL_deep {ws : List Int} {S : Int} {y : Tr} (hy : okS ws.length y) : y.2.1.filter (fun q => decide (q ∈ deepI S ws)) = fullL ws S y := by
  unfold fullL
  refine List.filter_congr fun q hq => ?_
  rw [decide_eq_decide, mem_deepI]
  have := hy.2.2.2 q hq
  exact ⟨fun h => h.2.2, fun h => ⟨this.1, this.2, h⟩⟩
end Lw

/-! Vj: channels that deepen to one side. -/
namespace Lw
open PySem PySem.Spec PyProof.Rows L2 Pv
/-- a spot, seen as if the channel deepened to the right -/
def fl (r : Bool) (n : Nat) (i : Int) : Int := if r then i else n - 1 - i
theorem fl_fl {r : Bool} {n : Nat} {i : Int} : fl r n (fl r n i) = i := by unfold fl; cases r <;> simp <;> omega
theorem fl_in {r : Bool} {n : Nat} {i : Int} (h : 0 ≤ i ∧ i < n) : 0 ≤ fl r n i ∧ fl r n i < n := by unfold fl; cases r <;> simp <;> omega
theorem fl_inj {r : Bool} {n : Nat} {i j : Int} (h : fl r n i = fl r n j) : i = j := by rw [← fl_fl (r := r) (n := n) (i := i), h, fl_fl]
def flL (r : Bool) (n : Nat) (lot : List Int) : List Int := if r then lot else (lot.map fun (p : Int) => (n : Int) - 1 - p).reverse
theorem mem_flL {r : Bool} {n : Nat} {lot : List Int} {i : Int} : i ∈ flL r n lot ↔ fl r n i ∈ lot := by
  unfold flL fl
  cases r
  · simp only [Bool.false_eq_true, if_false, List.mem_reverse, List.mem_map]
    exact ⟨fun ⟨a, h, e⟩ => by rw [← e, show (n : Int) - 1 - (n - 1 - a) = a by omega]; exact h, fun h => ⟨_, h, by omega⟩⟩
  · exact Iff.rfl
theorem flL_len {r : Bool} {n : Nat} {lot : List Int} : (flL r n lot).length = lot.length := by unfold flL; cases r <;> simp
theorem flL_ok {r : Bool} {n : Nat} {lot : List Int} (h : okL n lot) : okL n (flL r n lot) := by
  refine ⟨?_, fun p hp => ?_⟩
  · unfold flL
    cases r
    · show List.Pairwise _ (List.reverse _)
      rw [List.pairwise_reverse, List.pairwise_map]
      exact h.1.imp fun {a b} h => by omega
    · exact h.1
  · have := fl_in (r := r) (h.2 _ (mem_flL.mp hp))
    rw [fl_fl] at this; exact this
/-- depths fall towards the shallow side -/
def Mono (r : Bool) (ws : List Int) : Prop := ∀ p q : Int, 0 ≤ p → p < ws.length → 0 ≤ q → q < ws.length → (gI ws p < gI ws q ↔ fl r ws.length p < fl r ws.length q)
theorem bey_sh {r : Bool} {n : Nat} {p q : Int} : q ∈ beyL n p (!r) ↔ fl r n q < fl r n p ∧ (0 ≤ fl r n q ∨ ¬ (0 ≤ p ∧ p < n)) ∧ (0 ≤ q ∧ q < n ∨ ¬ (0 ≤ p ∧ p < n) ∧ (if r then 0 ≤ q else q < n)) := by
  rw [mem_beyL]; unfold fl
  cases r <;> simp <;> omega
theorem bey_sh1 {r : Bool} {n : Nat} {p q : Int} (h : 0 ≤ p ∧ p < n) : q ∈ beyL n p (!r) ↔ (0 ≤ q ∧ q < n) ∧ fl r n q < fl r n p := by
  rw [mem_beyL]; unfold fl
  cases r <;> simp <;> omega
theorem bey_dp1 {r : Bool} {n : Nat} {p q : Int} (h : 0 ≤ p ∧ p < n) : q ∈ beyL n p r ↔ (0 ≤ q ∧ q < n) ∧ fl r n p < fl r n q := by
  rw [mem_beyL]; unfold fl
  cases r <;> simp <;> omega
theorem mono_shallow {r : Bool} {ws lot : List Int} (hm : Mono r ws) (h : okL ws.length lot) : leanP ws lot (!r) := by
  intro p hp q hq hd
  have h1 := h.2 p hp
  obtain ⟨h2, h3⟩ := (bey_sh1 h1).mp hq
  have := (hm p q h1.1 h1.2 h2.1 h2.2).mp hd
  omega
/-- the first one of a lot -/
theorem first_le {lot : List Int} (h : lot.Pairwise (· < ·)) {i : Int} (hi : i ∈ lot) : gI lot 0 ≤ i := by
  cases lot with
  | nil => cases hi
  | cons a l =>
    show a ≤ i
    rcases List.mem_cons.mp hi with rfl | hi
    · omega
    · have := (List.pairwise_cons.mp h).1 i hi; omega
theorem first_mem {lot : List Int} (h : 0 < lot.length) : gI lot 0 ∈ lot := gI_mem (by omega) (by omega)
theorem fl_first {r : Bool} {n : Nat} {lot : List Int} (h : 0 < lot.length) : fl r n (gI (flL r n lot) 0) ∈ lot := mem_flL.mp (first_mem (by rw [flL_len]; exact h))
theorem fl_least {r : Bool} {ws lot : List Int} (hm : Mono r ws) (h : okL ws.length lot) (h0 : 0 < lot.length) : leastD ws lot = gI ws (fl r ws.length (gI (flL r ws.length lot) 0)) := by
  have h1 := fl_first (r := r) (n := ws.length) h0
  have h2 := leastD_le (ws := ws) h1
  obtain ⟨p, hp, e⟩ := leastD_mem (ws := ws) h0
  have h3 := h.2 p hp
  have h4 := h.2 _ h1
  have h5 := (hm p _ h3.1 h3.2 h4.1 h4.2)
  rw [fl_fl] at h5
  have h6 := first_le (flL_ok (r := r) h).1 (mem_flL.mpr (show fl r ws.length (fl r ws.length p) ∈ lot by rw [fl_fl]; exact hp))
  have : ¬ gI ws p < gI ws (fl r ws.length (gI (flL r ws.length lot) 0)) := fun hc => by have := h5.mp hc; omega
  omega
/-- all from a spot on -/
theorem last_all {n : Nat} {l : List Int} (h : okL n l) : (∀ p ∈ l, ∀ q : Int, p < q → q < n → q ∈ l) ↔ l = irange (n - l.length) n := by
  constructor
  · intro hc
    cases l with
    | nil => rw [irange_nil (by simp)]
    | cons a l =>
      have e : a :: l = irange a n := by
        refine rise_uniq h.1 (irange_lt _ _) fun i => ?_
        rw [mem_irange]
        constructor
        · intro hi
          have := first_le h.1 hi
          have e0 : gI (a :: l) 0 = a := rfl
          have := h.2 i hi
          omega
        · rintro ⟨h1, h2⟩
          by_cases hi : i = a
          · rw [hi]; exact List.mem_cons_self
          · exact hc a List.mem_cons_self i (by omega) h2
      have hl : (a :: l).length = (n - a).toNat := by rw [e, irange_len]
      have ha := h.2 a List.mem_cons_self
      rw [show (n : Int) - ((a :: l).length : Int) = a by omega]
      exact e
  · intro e p hp q h1 h2
    rw [e, mem_irange] at hp
    rw [e, mem_irange]; omega
theorem mono_deep {r : Bool} {ws lot : List Int} (hm : Mono r ws) (h : okL ws.length lot) : leanP ws lot r ↔ flL r ws.length lot = irange (ws.length - lot.length) ws.length := by
  rw [show ((lot.length : Nat) : Int) = ((flL r ws.length lot).length : Int) by rw [flL_len], ← last_all (flL_ok (r := r) h)]
  constructor
  · intro hl p hp q h1 h2
    rw [mem_flL] at hp ⊢
    have hp2 := h.2 _ hp
    have hp3 := fl_in (r := r) hp2
    rw [fl_fl] at hp3
    have hq := fl_in (r := r) (n := ws.length) (i := q) ⟨by omega, h2⟩
    refine hl _ hp _ ((bey_dp1 hp2).mpr ⟨hq, by rw [fl_fl, fl_fl]; exact h1⟩) ((hm _ _ hp2.1 hp2.2 hq.1 hq.2).mpr (by rw [fl_fl, fl_fl]; exact h1))
  · intro hl p hp q hq hd
    have hp2 := h.2 _ hp
    obtain ⟨h1, h2⟩ := (bey_dp1 hp2).mp hq
    have := hl (fl r ws.length p) (mem_flL.mpr (by rw [fl_fl]; exact hp)) (fl r ws.length q) h2 (fl_in h1).2
    rw [mem_flL, fl_fl] at this
    exact this
theorem mono_edge {r : Bool} {ws lot : List Int} {b : Bool} (hm : Mono r ws) (h : okL ws.length lot) (h0 : 0 < lot.length) : (edgeL ws lot b).length = 0 ↔ flL r ws.length lot = irange (gI (flL r ws.length lot) 0) ws.length := by
  have hle := fl_least hm h h0
  have hf := h.2 _ (fl_first (r := r) (n := ws.length) h0)
  have hff := fl_in (r := r) hf
  rw [fl_fl] at hff
  have hok := flL_ok (r := r) h
  rw [List.length_eq_zero_iff, List.eq_nil_iff_forall_not_mem]
  constructor
  · intro hn
    refine rise_uniq hok.1 (irange_lt _ _) fun i => ?_
    rw [mem_irange]
    constructor
    · exact fun hi => ⟨first_le hok.1 hi, (hok.2 i hi).2⟩
    · rintro ⟨h1, h2⟩
      refine Classical.byContradiction fun hc => hn (fl r ws.length i) (mem_edgeL.mpr ?_)
      have hi := fl_in (r := r) (n := ws.length) (i := i) ⟨by omega, h2⟩
      rw [mem_flL] at hc
      refine ⟨hi.1, hi.2, ?_, hc⟩
      rw [hle, hm _ _ hf.1 hf.2 hi.1 hi.2, fl_fl, fl_fl]
      have : i ≠ gI (flL r ws.length lot) 0 := fun e => hc (by rw [e]; exact fl_first h0)
      omega
  · intro e q hq
    obtain ⟨h1, h2, h3, h4⟩ := mem_edgeL.mp hq
    rw [hle, hm _ _ hf.1 hf.2 h1 h2, fl_fl] at h3
    have hq2 := fl_in (r := r) (n := ws.length) (i := q) ⟨h1, h2⟩
    have : fl r ws.length q ∈ flL r ws.length lot := by rw [e, mem_irange]; omega
    rw [mem_flL, fl_fl] at this
    exact h4 this
theorem mono_room {r : Bool} {ws lot : List Int} (hm : Mono r ws) (h : okL ws.length lot) (h0 : 0 < lot.length) (hE : 0 < (edgeL ws lot (!r)).length) : ((roomL ws lot (edge1 ws lot (!r)) (!r)).length : Int) = gI (flL r ws.length lot) 0 := by
  have hle := fl_least hm h h0
  have hf := h.2 _ (fl_first (r := r) (n := ws.length) h0)
  have hff := fl_in (r := r) hf
  rw [fl_fl] at hff
  obtain ⟨e1, e2, e3, e4⟩ := mem_edgeL.mp (edge1_mem hE)
  rw [hle, hm _ _ hf.1 hf.2 e1 e2, fl_fl] at e3
  have key : ∀ q, q ∈ roomL ws lot (edge1 ws lot (!r)) (!r) ↔ (0 ≤ q ∧ q < ws.length) ∧ fl r ws.length q < gI (flL r ws.length lot) 0 := fun q => by
    unfold roomL
    rw [List.mem_filter, decide_eq_true_eq, bey_sh1 ⟨e1, e2⟩]
    constructor
    · rintro ⟨⟨h1, h2⟩, h3⟩
      rw [hle, hm _ _ h1.1 h1.2 hf.1 hf.2, fl_fl] at h3
      exact ⟨h1, h3⟩
    · rintro ⟨h1, h2⟩
      refine ⟨⟨h1, by omega⟩, ?_⟩
      rw [hle, hm _ _ h1.1 h1.2 hf.1 hf.2, fl_fl]
      exact h2
  have hnd : (roomL ws lot (edge1 ws lot (!r)) (!r)).Nodup := bey_nodup.filter _
  have l1 : ((roomL ws lot (edge1 ws lot (!r)) (!r)).map (fl r ws.length)).length ≤ (irange 0 (gI (flL r ws.length lot) 0)).length := by
    refine sub_len ?_ fun i hi => ?_
    · exact List.pairwise_map.mpr (hnd.imp fun {a b} hab e => hab (fl_inj e))
    · obtain ⟨q, hq, e⟩ := List.mem_map.mp hi
      have := (key q).mp hq
      have h2 := fl_in (r := r) this.1
      rw [mem_irange]; omega
  have l2 : ((irange 0 (gI (flL r ws.length lot) 0)).map (fl r ws.length)).length ≤ (roomL ws lot (edge1 ws lot (!r)) (!r)).length := by
    refine sub_len ?_ fun i hi => ?_
    · exact List.pairwise_map.mpr ((nodup_lt (irange_lt _ _)).imp fun {a b} hab e => hab (fl_inj e))
    · obtain ⟨q, hq, e⟩ := List.mem_map.mp hi
      rw [mem_irange] at hq
      rw [key, ← e, fl_fl]
      exact ⟨fl_in ⟨hq.1, by omega⟩, hq.2⟩
  rw [List.length_map, irange_len] at l1
  rw [List.length_map, irange_len] at l2
  omega
/-- who is led, as the law looks -/
def flS (r : Bool) (n : Nat) (x : Tr) : Tr := if r then x else (x.2.2, flL false n x.2.1, x.1)
def wholeB (n : Nat) (l : List Int) : Bool := decide (l.length = 0) || decide (l = irange (gI l 0) n)
def lastB (n : Nat) (l : List Int) : Bool := decide (l = irange (n - l.length) n)
def dueB (r : Bool) (n : Nat) (x : Tr) : Bool :=
  (decide ((flS r n x).2.2 = 0) && (wholeB n (flS r n x).2.1 || decide ((flS r n x).1 ≤ gI (flS r n x).2.1 0))) || (decide ((flS r n x).1 = 0) && lastB n (flS r n x).2.1)
theorem flS_1 {r : Bool} {n : Nat} {x : Tr} : (flS r n x).1 = thr (!r) x ∧ (flS r n x).1 = src r x ∧ (flS r n x).2.2 = src (!r) x ∧ (flS r n x).2.1 = flL r n x.2.1 := by
  cases r <;> exact ⟨rfl, rfl, rfl, rfl⟩
theorem mono_led {r : Bool} {ws : List Int} {x : Tr} (hm : Mono r ws) (hx : okS ws.length x) : ledB ws x = dueB r ws.length x := by
  obtain ⟨f1, f2, f3, f4⟩ := flS_1 (r := r) (n := ws.length) (x := x)
  have hok := okS.lot hx
  have hle := flL_ok (r := r) hok
  rw [Bool.eq_iff_iff, ledB_iff hx]
  unfold dueB wholeB lastB
  simp only [Bool.or_eq_true, Bool.and_eq_true, decide_eq_true_eq]
  rw [f3, f4]
  have e0 : ∀ {p q : Prop}, (0 < x.2.1.length → (p ↔ q)) → (x.2.1.length = 0 ∨ p ↔ x.2.1.length = 0 ∨ q) := fun {p q} h => by
    by_cases z : x.2.1.length = 0
    · exact ⟨fun _ => .inl z, fun _ => .inl z⟩
    · have := h (by omega)
      rw [this]
  have hsplit : (∃ b, keptP ws b x) ↔ keptP ws (!r) x ∨ keptP ws r x := ⟨fun ⟨b, h⟩ => by
    by_cases e : b = r
    · exact .inr (e ▸ h)
    · have : b = !r := by cases b <;> cases r <;> simp_all
      exact .inl (this ▸ h), fun h => by rcases h with h | h; exact ⟨_, h⟩; exact ⟨_, h⟩⟩
  rw [hsplit]
  refine or_congr ?_ ?_
  · unfold keptP
    refine and_congr_right fun _ => ?_
    rw [f1, flL_len, or_assoc]
    constructor
    · rintro ⟨_, h2⟩
      by_cases z : x.2.1.length = 0
      · exact .inl z
      · right
        by_cases z2 : (edgeL ws x.2.1 (!r)).length = 0
        · exact .inl ((mono_edge hm hok (by omega)).mp z2)
        · have := h2 (by omega) (by omega)
          rw [mono_room hm hok (by omega) (by omega)] at this
          exact .inr this
    · rintro h
      refine ⟨mono_shallow hm hok, fun z z2 => ?_⟩
      rw [mono_room hm hok z z2]
      rcases h with h | h | h
      · omega
      · have := (mono_edge (b := !r) hm hok z).mpr h
        omega
      · exact h
  · unfold keptP
    rw [f2]
    refine and_congr_right fun _ => ?_
    rw [mono_deep hm hok, flL_len]
    constructor
    · exact fun h => h.1
    · intro h
      refine ⟨h, fun z z2 => ?_⟩
      exfalso
      have h3 : flL r ws.length x.2.1 = irange (gI (flL r ws.length x.2.1) 0) ws.length := by
        have hn := hok.len
        have : gI (flL r ws.length x.2.1) 0 = ws.length - x.2.1.length := by rw [h, irange_cons (by omega)]; rfl
        rw [this]; exact h
      have := (mono_edge (b := r) hm hok z).mpr h3
      omega

/-! ### the steps -/
def runsN (lot : List Int) : Nat := (lot.filter fun p => !decide (p + 1 ∈ lot)).length
/-- the pits of a lot, one next to the other -/
theorem mono_ahead {r : Bool} {ws lot : List Int} (hm : Mono r ws) (h : okL ws.length lot) (hE : 0 < (edgeL ws lot (!r)).length) : aheadL ws lot (!r) = restL ws lot (!r) := by
  by_cases hR : 0 < (restL ws lot (!r)).length
  · rw [aheadL_1 (by omega) (by omega), deepP_eq h]
    have hro : okL ws.length (restL ws lot (!r)) := h.filter _
    have hle := fl_least hm hro hR
    refine rise_uniq (h.1.filter _) hro.1 fun i => ?_
    rw [List.mem_filter, decide_eq_true_eq]
    constructor
    · rintro ⟨h1, h2⟩
      refine mem_restL.mpr ⟨h1, fun hc => ?_⟩
      obtain ⟨p, hp, e⟩ := leastD_mem (ws := ws) hR
      have hp1 := mem_restL.mp hp
      obtain ⟨e1, e2, e3, e4⟩ := mem_edgeL.mp (edge_mem (show 0 < ((edgeL ws lot (!r)).length : Int) by omega))
      have hi := h.2 i h1
      have hpp := h.2 p hp1.1
      obtain ⟨_, c1⟩ := (bey_sh1 ⟨e1, e2⟩).mp hc
      have c2 : ¬ fl r ws.length p < fl r ws.length (gI (edgeL ws lot (!r)) 0) := fun hc2 => hp1.2 ((bey_sh1 ⟨e1, e2⟩).mpr ⟨hpp, hc2⟩)
      have c3 : ¬ gI ws i < gI ws p := by omega
      rw [hm _ _ hi.1 hi.2 hpp.1 hpp.2] at c3
      omega
    · intro hi
      exact ⟨(mem_restL.mp hi).1, leastD_le hi⟩
  · rw [aheadL_2 (by omega) (by omega)]
    exact (List.eq_nil_of_length_eq_zero (by omega)).symm
theorem runs_split {lot rest : List Int} {z : Int} (h : lot.Pairwise (· < ·)) (hr : rest.Pairwise (· < ·)) (h1 : ∀ i, i ∈ rest → i ∈ lot ∧ (i + 1 ∈ lot ↔ i + 1 ∈ rest)) (hz : ∀ i, i ∈ lot ∧ i ∉ rest ∧ i + 1 ∉ lot ↔ i = z) : runsN lot = runsN rest + 1 := by
  have h2 := filter_two (fun i => decide (i ∈ rest)) (lot.filter fun p => !decide (p + 1 ∈ lot))
  have e1 : ((lot.filter fun p => !decide (p + 1 ∈ lot)).filter fun i => decide (i ∈ rest)) = rest.filter fun p => !decide (p + 1 ∈ rest) := by
    refine rise_uniq ((h.filter _).filter _) (hr.filter _) fun i => ?_
    simp only [List.mem_filter, decide_eq_true_eq, Bool.not_eq_true', decide_eq_false_iff_not]
    constructor
    · rintro ⟨⟨a, b⟩, c⟩; exact ⟨c, fun hc => b ((h1 i c).2.mpr hc)⟩
    · rintro ⟨a, b⟩; exact ⟨⟨(h1 i a).1, fun hc => b ((h1 i a).2.mp hc)⟩, a⟩
  have e2 : ((lot.filter fun p => !decide (p + 1 ∈ lot)).filter fun i => !decide (i ∈ rest)) = [z] := by
    refine rise_uniq ((h.filter _).filter _) (List.pairwise_singleton _ _) fun i => ?_
    simp only [List.mem_filter, decide_eq_true_eq, Bool.not_eq_true', decide_eq_false_iff_not, List.mem_singleton]
    rw [← hz i]
    constructor
    · rintro ⟨⟨a, b⟩, c⟩; exact ⟨a, c, b⟩
    · rintro ⟨a, b, c⟩; exact ⟨⟨a, c⟩, b⟩
  unfold runsN
  rw [e1, e2] at h2
  simp at h2
  omega
theorem mono_runs {r : Bool} {ws lot : List Int} (hm : Mono r ws) (h : okL ws.length lot) (h0 : 0 < lot.length) : runsN lot = runsN (aheadL ws lot (!r)) + 1 := by
  have hle := fl_least hm h h0
  have hff := fl_first (r := r) (n := ws.length) h0
  have hf := h.2 _ hff
  have hf2 := fl_in (r := r) hf
  rw [fl_fl] at hf2
  have hfm : ∀ i ∈ lot, gI (flL r ws.length lot) 0 ≤ fl r ws.length i := fun i hi => first_le (flL_ok (r := r) h).1 (mem_flL.mpr (by rw [fl_fl]; exact hi))
  by_cases hE : 0 < (edgeL ws lot (!r)).length
  · have hem : edge1 ws lot (!r) ∈ edgeL ws lot (!r) := edge1_mem hE
    obtain ⟨e1, e2, e3, e4⟩ := mem_edgeL.mp hem
    rw [hle, hm _ _ hf.1 hf.2 e1 e2, fl_fl] at e3
    rw [mono_ahead hm h hE]
    -- between the first one and the edge all are full
    have hin : ∀ q : Int, 0 ≤ q → q < ws.length → gI (flL r ws.length lot) 0 ≤ fl r ws.length q → fl r ws.length q < fl r ws.length (edge1 ws lot (!r)) → q ∈ lot := fun q q0 q1 q2 q3 => by
      refine Classical.byContradiction fun hc => ?_
      have hq : q ∈ edgeL ws lot (!r) := mem_edgeL.mpr ⟨q0, q1, by
        rw [hle, hm _ _ hf.1 hf.2 q0 q1, fl_fl]
        have : fl r ws.length q ≠ gI (flL r ws.length lot) 0 := fun e => hc (by rw [← fl_fl (r := r) (n := ws.length) (i := q), e]; exact hff)
        omega, hc⟩
      rcases edge_first hq with z | z
      · rw [z] at q3; omega
      · have := ((bey_sh1 ⟨q0, q1⟩).mp z).2
        omega
    have hrm : ∀ i, i ∈ restL ws lot (!r) ↔ i ∈ lot ∧ fl r ws.length (edge1 ws lot (!r)) < fl r ws.length i := fun i => by
      rw [mem_restL]
      refine and_congr_right fun hi => ?_
      have hii := h.2 i hi
      show i ∉ beyL ws.length (edge1 ws lot (!r)) (!r) ↔ _
      rw [bey_sh1 ⟨e1, e2⟩]
      have : fl r ws.length i ≠ fl r ws.length (edge1 ws lot (!r)) := fun e => e4 (fl_inj e ▸ hi)
      constructor
      · intro hc
        have : ¬ fl r ws.length i < fl r ws.length (edge1 ws lot (!r)) := fun z => hc ⟨hii, z⟩
        omega
      · rintro hc ⟨_, z⟩; omega
    cases r with
    | true =>
      simp only [fl, if_true] at hin hrm hfm e3 hff hf
      refine runs_split (z := edge1 ws lot (!true) - 1) h.1 (h.1.filter _) (fun i hi => ?_) fun i => ?_
      · have hi := (hrm i).mp hi
        refine ⟨hi.1, ?_⟩
        rw [hrm]
        exact ⟨fun z => ⟨z, by omega⟩, fun z => z.1⟩
      · rw [hrm]
        constructor
        · rintro ⟨a, b, c⟩
          have a1 := h.2 i a
          have b1 : ¬ edge1 ws lot (!true) < i := fun z => b ⟨a, z⟩
          have : i ≠ edge1 ws lot (!true) := fun e => e4 (e ▸ a)
          refine Classical.byContradiction fun hc => c (hin _ (by omega) (by omega) ?_ (by omega))
          have := hfm i a; omega
        · rintro rfl
          refine ⟨hin _ (by omega) (by omega) (by omega) (by omega), fun hc => by omega, ?_⟩
          rw [Int.sub_add_cancel]; exact e4
    | false =>
      simp only [fl, Bool.false_eq_true, if_false] at hin hrm hfm e3 hff hf
      refine runs_split (z := ws.length - 1 - gI (flL false ws.length lot) 0) h.1 (h.1.filter _) (fun i hi => ?_) fun i => ?_
      · have hi := (hrm i).mp hi
        refine ⟨hi.1, ?_⟩
        rw [hrm]
        refine ⟨fun z => ⟨z, ?_⟩, fun z => z.1⟩
        have : i + 1 ≠ edge1 ws lot (!false) := fun e => e4 (e ▸ z)
        omega
      · rw [hrm]
        constructor
        · rintro ⟨a, b, c⟩
          have a1 := h.2 i a
          have b1 : ¬ i < edge1 ws lot (!false) := fun z => b ⟨a, by omega⟩
          have h3 := hfm i a
          refine Classical.byContradiction fun hc => c (hin _ (by omega) (by omega) (by omega) (by omega))
        · rintro rfl
          refine ⟨hff, fun hc => by omega, fun hc => ?_⟩
          have := hfm _ hc
          omega
  · rw [aheadL_3 (by omega)]
    have hall := (mono_edge (b := !r) hm h h0).mp (by omega)
    have hmem : ∀ i : Int, i ∈ lot ↔ (0 ≤ i ∧ i < ws.length) ∧ gI (flL r ws.length lot) 0 ≤ fl r ws.length i := fun i => by
      constructor
      · exact fun hi => ⟨h.2 i hi, hfm i hi⟩
      · rintro ⟨a, b⟩
        have := fl_in (r := r) a
        have : fl r ws.length i ∈ flL r ws.length lot := by rw [hall, mem_irange]; omega
        rw [mem_flL, fl_fl] at this
        exact this
    refine runs_split (z := if r then ws.length - 1 else ws.length - 1 - gI (flL r ws.length lot) 0) h.1 .nil (fun i hi => by cases hi) fun i => ?_
    rw [hmem, hmem]
    cases r <;> simp only [fl, Bool.false_eq_true, if_false, if_true] at hff hf hf2 ⊢ <;> simp <;> omega
theorem mono_steps {r : Bool} {ws : List Int} (hm : Mono r ws) : ∀ (m : Nat) (lot : List Int), lot.length ≤ m → okL ws.length lot → (stepsG ws (!r) m lot).length = runsN lot
  | 0, lot, h, _ => by
    have e : lot = [] := List.eq_nil_of_length_eq_zero (by omega)
    subst e; rfl
  | m + 1, lot, h, ho => by
    rw [stepsG]
    by_cases h0 : lot.length = 0
    · rw [if_pos h0, List.eq_nil_of_length_eq_zero h0]; rfl
    · rw [if_neg h0, List.length_cons, mono_runs hm ho (by omega)]
      have := aheadL_lt ho (mono_shallow hm ho) (by omega)
      rw [mono_steps hm m _ (by omega) (aheadL_ok ho)]
theorem mono_one {r : Bool} {ws lot : List Int} (hm : Mono r ws) (ho : okL ws.length lot) (h : flL r ws.length lot = irange (ws.length - lot.length) ws.length) : stepsG ws r lot.length lot = List.replicate (if lot.length = 0 then 0 else 1) lot := by
  by_cases h0 : lot.length = 0
  · rw [if_pos h0, List.eq_nil_of_length_eq_zero h0]; rfl
  · rw [if_neg h0, stepsG_next ho ((mono_deep hm ho).mpr h) (by omega)]
    have h3 : flL r ws.length lot = irange (gI (flL r ws.length lot) 0) ws.length := by
      have hn := ho.len
      have : gI (flL r ws.length lot) 0 = ws.length - lot.length := by rw [h, irange_cons (by omega)]; rfl
      rw [this]; exact h
    have := (mono_edge (b := r) hm ho (by omega)).mpr h3
    rw [aheadL_3 (by omega)]; rfl
/-- the last pits lean to the deep side -/
def lastL (r : Bool) (n : Nat) (m : Int) : List Int := if r then irange (n - m) n else irange 0 m
theorem lastL_ok {r : Bool} {n : Nat} {m : Int} (h : 0 ≤ m ∧ m ≤ n) : okL n (lastL r n m) ∧ (lastL r n m).length = m.toNat ∧ flL r n (lastL r n m) = irange (n - (lastL r n m).length) n := by
  have e : (lastL r n m).length = m.toNat := by unfold lastL; cases r <;> simp [irange_len] <;> omega
  refine ⟨⟨?_, fun p hp => ?_⟩, e, ?_⟩
  · unfold lastL; cases r <;> exact irange_lt _ _
  · unfold lastL at hp
    cases r
    · have := mem_irange.mp hp; omega
    · have := mem_irange.mp hp; omega
  · rw [e]
    unfold lastL flL
    cases r
    · show ((irange 0 m).map _).reverse = _
      rw [irange_rev_map]
      congr 1 <;> omega
    · show irange _ _ = _
      congr 1; omega
theorem last_iff {r : Bool} {n : Nat} {lot : List Int} (h : okL n lot) : flL r n lot = irange (n - lot.length) n ↔ lot = lastL r n lot.length := by
  have hn := h.len
  obtain ⟨h1, h2, h3⟩ := lastL_ok (r := r) (n := n) (m := lot.length) ⟨by omega, by omega⟩
  constructor
  · intro e
    refine rise_uniq h.1 h1.1 fun i => ?_
    rw [h2, Int.toNat_natCast, ← e] at h3
    have a1 := mem_flL (r := r) (n := n) (lot := lot) (i := fl r n i)
    have a2 := mem_flL (r := r) (n := n) (lot := lastL r n lot.length) (i := fl r n i)
    rw [fl_fl] at a1 a2
    rw [← a1, ← a2, h3]
  · intro e
    rw [← e] at h3; exact h3
/-- sorted depths, or these the other way about -/
theorem mono_rise {ws : List Int} (h : ws.Pairwise (· < ·)) : Mono true ws := by
  have key : ∀ p q : Int, 0 ≤ p → p < ws.length → 0 ≤ q → q < ws.length → p < q → gI ws p < gI ws q := fun p q p0 p1 q0 q1 hpq => by
    obtain ⟨i, rfl⟩ := Int.eq_ofNat_of_zero_le p0
    obtain ⟨j, rfl⟩ := Int.eq_ofNat_of_zero_le q0
    rw [gI_nat (by omega), gI_nat (by omega)]
    exact List.pairwise_iff_getElem.mp h i j (by omega) (by omega) (by omega)
  intro p q p0 p1 q0 q1
  simp only [fl, if_true]
  constructor
  · intro hg
    rcases Int.lt_trichotomy p q with z | z | z
    · exact z
    · subst z; omega
    · have := key q p q0 q1 p0 p1 z; omega
  · exact key p q p0 p1 q0 q1
theorem mono_fall {ws : List Int} (h : ws.Pairwise (· > ·)) : Mono false ws := by
  have key : ∀ p q : Int, 0 ≤ p → p < ws.length → 0 ≤ q → q < ws.length → p < q → gI ws q < gI ws p := fun p q p0 p1 q0 q1 hpq => by
    obtain ⟨i, rfl⟩ := Int.eq_ofNat_of_zero_le p0
    obtain ⟨j, rfl⟩ := Int.eq_ofNat_of_zero_le q0
    rw [gI_nat (by omega), gI_nat (by omega)]
    exact List.pairwise_iff_getElem.mp h i j (by omega) (by omega) (by omega)
  intro p q p0 p1 q0 q1
  simp only [fl, Bool.false_eq_true, if_false]
  constructor
  · intro hg
    rcases Int.lt_trichotomy p q with z | z | z
    · have := key p q p0 p1 q0 q1 z; omega
    · subst z; omega
    · omega
  · intro z
    exact key q p q0 q1 p0 p1 (by omega)
end Lw

/-! Vt: what channels look like from their ends, and what is heard of two. -/
namespace Lw
open PySem PySem.Spec PyProof.Rows L2 Pv
/-- depths from a side -/
def dl (b : Bool) (ws : List Int) : List Int := if b then ws.reverse else ws
def endsL (ws : List Int) (b : Bool) (s : Int) (m : Nat) : List Int := ((dl b ws).filter fun w => decide (s ≤ w)).take m
theorem irange_gI : ∀ (ws : List Int), (irange 0 ws.length).map (gI ws) = ws := by
  intro ws
  apply List.ext_getElem
  · rw [List.length_map, irange_len]; omega
  · intro i h1 h2
    rw [List.getElem_map]
    have : (irange 0 ws.length)[i]'(by rw [List.length_map] at h1; exact h1) = (i : Int) := by
      have := irange_get (lo := 0) (hi := ws.length) (i := i) (by omega)
      rw [List.getElem?_eq_getElem (by rw [irange_len]; omega)] at this
      have := Option.some.inj this
      omega
    rw [this, gI_nat h2]
theorem ordB_gI (ws : List Int) (b : Bool) : (ordB ws.length b).map (gI ws) = dl (!b) ws := by
  unfold ordB dl
  cases b
  · rw [if_neg (by simp), List.map_reverse, irange_gI]; rfl
  · rw [if_pos rfl, irange_gI]; rfl
theorem gI_inj {ws : List Int} (hn : ws.Nodup) {p q : Int} (hp : 0 ≤ p ∧ p < ws.length) (hq : 0 ≤ q ∧ q < ws.length) (h : gI ws p = gI ws q) : p = q := by
  obtain ⟨i, rfl⟩ := Int.eq_ofNat_of_zero_le hp.1
  obtain ⟨j, rfl⟩ := Int.eq_ofNat_of_zero_le hq.1
  have hi : i < ws.length := by omega
  have hj : j < ws.length := by omega
  rw [gI_nat hi, gI_nat hj] at h
  have := (List.getElem_inj (h₀ := hi) (h₁ := hj) hn).mp h
  omega
theorem dl_nodup {ws : List Int} (hn : ws.Nodup) (b : Bool) : (dl b ws).Nodup := by
  unfold dl; cases b
  · exact hn
  · exact List.pairwise_reverse.mpr (hn.imp fun {a b} h => Ne.symm h)
/-- the depths of a lot -/
def FD (ws lot : List Int) : List Int := lot.map (gI ws)
theorem FD_nodup {ws lot : List Int} (hn : ws.Nodup) (h : okL ws.length lot) : (FD ws lot).Nodup := by
  unfold FD
  rw [List.nodup_iff_pairwise_ne, List.pairwise_map]
  exact List.Pairwise.imp_of_mem (fun {a b} ha hb hab e => by
    have := gI_inj hn (h.2 a ha) (h.2 b hb) e
    omega) h.1
theorem mem_FD {ws lot : List Int} (hn : ws.Nodup) (h : okL ws.length lot) {q : Int} (hq : 0 ≤ q ∧ q < ws.length) : q ∈ lot ↔ gI ws q ∈ FD ws lot := by
  unfold FD
  rw [List.mem_map]
  exact ⟨fun z => ⟨q, z, rfl⟩, fun ⟨p, hp, e⟩ => gI_inj hn (h.2 p hp) hq e ▸ hp⟩
theorem FD_len {ws vs a b : List Int} (hn : ws.Nodup) (hm : vs.Nodup) (ha : okL ws.length a) (hb : okL vs.length b) (h : ∀ w, w ∈ FD ws a ↔ w ∈ FD vs b) : a.length = b.length := by
  have h1 := sub_len (FD_nodup hn ha) fun i hi => (h i).mp hi
  have h2 := sub_len (FD_nodup hm hb) fun i hi => (h i).mpr hi
  unfold FD at h1 h2
  simp only [List.length_map] at h1 h2
  omega
/-- beads that roll over a lot that leans back: the first bare ones are filled -/
theorem rollO_fill {dp : Int → Int} {s : Int} {lot : List Int} : ∀ (ord : List Int) (r : Nat), ord.Nodup → ord.Pairwise (fun p q => q ∈ lot → dp q < dp p → p ∈ lot) → ∀ q, q ∈ (rollO dp s lot ord r).1 ↔
    (q ∈ ord ∧ s ≤ dp q ∧ q ∈ lot) ∨ q ∈ (ord.filter fun q => decide (s ≤ dp q) && !decide (q ∈ lot)).take (r + (ord.filter fun q => decide (q ∈ lot) && decide (dp q < s)).length)
  | [], _, _, _, q => by simp [rollO]
  | p :: ord, r, hn, hp, q => by
    obtain ⟨hpn, hn⟩ := List.nodup_cons.mp hn
    obtain ⟨hq, hp⟩ := List.pairwise_cons.mp hp
    have ih := fun r' => rollO_fill (dp := dp) (s := s) (lot := lot) ord r' hn hp q
    rw [rollO, List.filter_cons, List.filter_cons]
    by_cases h1 : dp p < s
    · rw [if_pos h1]
      have e1 : (decide (s ≤ dp p) && !decide (p ∈ lot)) = false := by rw [decide_eq_false (show ¬ s ≤ dp p by omega)]; rfl
      rw [e1, if_neg (show ¬ (false = true) by simp)]
      have c1 : (q ∈ p :: ord ∧ s ≤ dp q ∧ q ∈ lot) ↔ (q ∈ ord ∧ s ≤ dp q ∧ q ∈ lot) := ⟨fun ⟨a, b, c⟩ => by
        rcases List.mem_cons.mp a with rfl | a
        · omega
        · exact ⟨a, b, c⟩, fun ⟨a, b, c⟩ => ⟨List.mem_cons_of_mem _ a, b, c⟩⟩
      rw [c1]
      by_cases h2 : p ∈ lot
      · rw [if_pos h2, if_pos (show (decide (p ∈ lot) && decide (dp p < s)) = true by rw [decide_eq_true h2, decide_eq_true h1]; rfl), List.length_cons, show r + ((ord.filter fun q => decide (q ∈ lot) && decide (dp q < s)).length + 1) = (r + 1) + (ord.filter fun q => decide (q ∈ lot) && decide (dp q < s)).length by omega]
        exact ih (r + 1)
      · rw [if_neg h2, if_neg (show ¬ ((decide (p ∈ lot) && decide (dp p < s)) = true) by rw [decide_eq_false h2]; simp), Int.add_zero]
        exact ih r
    · rw [if_neg h1, if_neg (show ¬ ((decide (p ∈ lot) && decide (dp p < s)) = true) by rw [decide_eq_false h1]; simp)]
      have e1 : decide (s ≤ dp p) = true := decide_eq_true (by omega)
      by_cases h2 : p ∈ lot
      · rw [if_pos h2, e1, decide_eq_true h2, if_neg (show ¬ ((true && !true) = true) by simp), List.mem_cons, ih r, List.mem_cons]
        constructor
        · rintro (rfl | ⟨a, b⟩ | a)
          · exact .inl ⟨.inl rfl, by omega, h2⟩
          · exact .inl ⟨.inr a, b⟩
          · exact .inr a
        · rintro (⟨a | a, b⟩ | a)
          · exact .inl a
          · exact .inr (.inl ⟨a, b⟩)
          · exact .inr (.inr a)
      · rw [if_neg h2, e1, decide_eq_false h2, if_pos (show (true && !false) = true by simp)]
        have c1 : (q ∈ p :: ord ∧ s ≤ dp q ∧ q ∈ lot) ↔ (q ∈ ord ∧ s ≤ dp q ∧ q ∈ lot) := ⟨fun ⟨a, b, c⟩ => by
          rcases List.mem_cons.mp a with rfl | a
          · exact absurd c h2
          · exact ⟨a, b, c⟩, fun ⟨a, b, c⟩ => ⟨List.mem_cons_of_mem _ a, b, c⟩⟩
        rw [c1]
        cases r with
        | succ r =>
          rw [if_pos (show (0 : Int) < ((r + 1 : Nat) : Int) by omega), show r + 1 + (ord.filter fun q => decide (q ∈ lot) && decide (dp q < s)).length = (r + (ord.filter fun q => decide (q ∈ lot) && decide (dp q < s)).length) + 1 by omega, List.take_succ_cons, List.mem_cons, List.mem_cons, show ((r + 1 : Nat) : Int) - 1 = (r : Int) by omega, ih r]
          exact ⟨fun h => by rcases h with h | h | h; exact .inr (.inl h); exact .inl h; exact .inr (.inr h), fun h => by rcases h with h | h | h; exact .inr (.inl h); exact .inl h; exact .inr (.inr h)⟩
        | zero =>
          rw [if_neg (show ¬ (0 : Int) < ((0 : Nat) : Int) by omega)]
          have e0 : (ord.filter fun q => decide (q ∈ lot) && decide (dp q < s)) = [] := by
            rw [List.filter_eq_nil_iff]
            intro z hz hc
            simp only [Bool.and_eq_true, decide_eq_true_eq] at hc
            exact h2 (hq z hz hc.1 (by omega))
          have := ih 0
          rw [e0] at this ⊢
          simpa using this
theorem take_filter {f : Int → Bool} : ∀ (l : List Int) (t m : Nat), t + (l.filter fun w => !f w).length ≤ m → (l.filter f).take t = ((l.take m).filter f).take t
  | [], t, m, _ => by simp
  | w :: l, t, m, h => by
    rw [List.filter_cons] at h
    cases m with
    | zero =>
      have : t = 0 := by omega
      subst this; simp
    | succ m =>
      rw [List.take_succ_cons, List.filter_cons, List.filter_cons]
      by_cases hf : f w = true
      · rw [if_pos hf, if_pos hf]
        rw [if_neg (by rw [hf]; simp)] at h
        cases t with
        | zero => simp
        | succ t => rw [List.take_succ_cons, List.take_succ_cons, take_filter l t m (by omega)]
      · rw [if_neg hf, if_neg hf]
        have : f w = false := by simpa using hf
        rw [if_pos (by rw [this]; rfl), List.length_cons] at h
        exact take_filter l t m (by omega)
/-- leans to a side, the other tray bare -/
def LK (ws : List Int) (b : Bool) (x : Tr) : Prop := src b x = 0 ∧ leanP ws x.2.1 b
theorem lk_ord {ws : List Int} {b : Bool} {x : Tr} (h : LK ws b x) : (ordB ws.length (!b)).Pairwise (fun p q => q ∈ x.2.1 → gI ws q < gI ws p → p ∈ x.2.1) := (ord_bey ws.length (!b)).imp fun {p q} hb hq hd => by
  have := hb.2
  rw [Bool.not_not] at this
  exact h.2 q hq p this hd
theorem lk_same {ws : List Int} {b : Bool} {s : Int} {x : Tr} (hx : okS ws.length x) (h : LK ws b x) : LK ws b (tiltS ws b s x) := by
  have hm := kept_lot (s := s) hx h.2 h.1
  refine ⟨tiltS_src ws b s x, fun p hp q hq hd => ?_⟩
  have hp := (hm p).mp hp
  exact (hm q).mpr ⟨h.2 p hp.1 q hq hd, by omega⟩
theorem lk_all {ws : List Int} {b : Bool} {s : Int} {x : Tr} (hx : okS ws.length x) (h : LK ws b x) (hc : 0 < rolS ws (!b) s x) : (∀ q : Int, 0 ≤ q → q < ws.length → s ≤ gI ws q → q ∈ (tiltS ws (!b) s x).2.1) ∧ LK ws (!b) (tiltS ws (!b) s x) := by
  rw [rolS_O] at hc
  obtain ⟨i1, i2⟩ := rollO_back (dp := gI ws) (s := s) (lot := x.2.1) (ordB ws.length (!b)) (src (!b) x) (src_nn hx _) (ordB_nodup _ _) (lk_ord h)
  have hm := (tiltS_lot ws (!b) s x).2
  have hy := tiltS_ok hx (!b) s
  have hd : ∀ q : Int, 0 ≤ q → q < ws.length → s ≤ gI ws q → q ∈ (tiltS ws (!b) s x).2.1 := fun q q0 q1 hq => (hm q).mpr (i1 hc q (mem_ordB.mpr ⟨q0, q1⟩) hq)
  refine ⟨hd, tiltS_src ws (!b) s x, fun p hp q hq hdd => ?_⟩
  have := tiltS_deep hp
  have := bey_in (hy.2.2.2 p hp) hq
  exact hd q this.1 this.2 (by omega)
/-- tilted to the other side: the lot still leans back -/
theorem lk_back {ws : List Int} {b : Bool} {s : Int} {x : Tr} (hx : okS ws.length x) (h : LK ws b x) : leanP ws (tiltS ws (!b) s x).2.1 b := by
  obtain ⟨i1, i2⟩ := rollO_back (dp := gI ws) (s := s) (lot := x.2.1) (ordB ws.length (!b)) (src (!b) x) (src_nn hx _) (ordB_nodup _ _) (lk_ord h)
  have hm := (tiltS_lot ws (!b) s x).2
  have hy := tiltS_ok hx (!b) s
  intro p hp q hq hd
  have hp' := (hm p).mp hp
  have hpb := hy.2.2.2 p hp
  have hqb := bey_in hpb hq
  refine (hm q).mpr ?_
  have : ∀ {ord : List Int} {L : List Int}, ord.Pairwise (fun p q => q ∈ L → gI ws q < gI ws p → p ∈ L) → ord.Pairwise (fun p q => p ∈ beyL ws.length q b) → q ∈ ord → p ∈ ord → p ∈ L → q ∈ L := fun {ord L} j1 j2 hqo hpo hpL => by
    induction ord with
    | nil => cases hqo
    | cons a ord ih =>
      obtain ⟨a1, a2⟩ := List.pairwise_cons.mp j1
      obtain ⟨b1, b2⟩ := List.pairwise_cons.mp j2
      rcases List.mem_cons.mp hqo with e | hqo2
      · rcases List.mem_cons.mp hpo with e2 | hpo2
        · rw [e, ← e2]; exact hpL
        · rw [e]; rw [e] at hd; exact a1 p hpo2 hpL hd
      · rcases List.mem_cons.mp hpo with e2 | hpo2
        · have := b1 q hqo2
          rw [← e2, mem_beyL] at this
          rw [mem_beyL] at hq
          cases b <;> simp only [Bool.false_eq_true, if_false, if_true] at this hq <;> omega
        · exact ih a2 b2 hqo2 hpo2
  refine this i2 ((ord_bey ws.length (!b)).imp fun {p q} hb => ?_) (mem_ordB.mpr hqb) (mem_ordB.mpr hpb) hp'
  have := hb.2
  rw [Bool.not_not] at this
  exact this
theorem rol_cons {ws : List Int} {x : Tr} (hx : okS ws.length x) (b : Bool) (s : Int) : rolS ws b s x = src b x + x.2.1.length - (tiltS ws b s x).2.1.length := by
  have hb := tiltS_beads hx b s
  have ht := src_thr (ws := ws) (b := b) (s := s) (x := x)
  rw [beadsS_two b, beadsS_two b, tiltS_src, ht] at hb
  rw [rolS_O]; omega
/-- what is full behind a tilt to the other side, by depths -/
theorem fill_FD {ws : List Int} (hn : ws.Nodup) {b : Bool} {s : Int} {x : Tr} (hx : okS ws.length x) (h : LK ws b x) (w : Int) :
    w ∈ FD ws (tiltS ws (!b) s x).2.1 ↔ (s ≤ w ∧ w ∈ FD ws x.2.1) ∨ w ∈ ((((dl b ws).filter fun w => decide (s ≤ w)).filter fun w => !decide (w ∈ FD ws x.2.1))).take ((src (!b) x).toNat + ((FD ws x.2.1).filter fun w => decide (w < s)).length) := by
  have hok := okS.lot hx
  have hm := (tiltS_lot ws (!b) s x).2
  have hs := src_nn hx (!b)
  obtain ⟨r, hr⟩ := Int.eq_ofNat_of_zero_le hs
  have hf := rollO_fill (dp := gI ws) (s := s) (lot := x.2.1) (ordB ws.length (!b)) r (ordB_nodup _ _) (lk_ord h)
  have hO : ∀ q, q ∈ (tiltS ws (!b) s x).2.1 ↔ q ∈ (rollO (gI ws) s x.2.1 (ordB ws.length (!b)) r).1 := fun q => by
    rw [hm q]; unfold OO; rw [hr]
  have hin : ∀ q ∈ ordB ws.length (!b), (q ∈ x.2.1 ↔ gI ws q ∈ FD ws x.2.1) := fun q hq => mem_FD hn hok (mem_ordB.mp hq)
  have e1 : ((ordB ws.length (!b)).filter fun q => decide (s ≤ gI ws q) && !decide (q ∈ x.2.1)).map (gI ws) = ((dl b ws).filter fun w => decide (s ≤ w)).filter fun w => !decide (w ∈ FD ws x.2.1) := by
    have := ordB_gI ws (!b)
    rw [Bool.not_not] at this
    rw [← this, List.filter_filter, List.filter_map]
    congr 1
    refine List.filter_congr fun q hq => ?_
    show _ = ((!decide (gI ws q ∈ FD ws x.2.1)) && decide (s ≤ gI ws q))
    rw [Bool.and_comm]
    congr 2
    exact decide_eq_decide.mpr (hin q hq)
  have e2 : ((ordB ws.length (!b)).filter fun q => decide (q ∈ x.2.1) && decide (gI ws q < s)).length = ((FD ws x.2.1).filter fun w => decide (w < s)).length := by
    have e : (ordB ws.length (!b)).filter (fun q => decide (q ∈ x.2.1) && decide (gI ws q < s)) = ((ordB ws.length (!b)).filter (· ∈ x.2.1)).filter fun q => decide (gI ws q < s) := by
      rw [List.filter_filter]
      refine List.filter_congr fun q _ => ?_
      exact Bool.and_comm _ _
    rw [e]
    unfold FD
    rw [List.filter_map, List.length_map]
    refine List.Perm.length_eq (List.Perm.filter _ ?_)
    refine (List.perm_ext_iff_of_nodup ((ordB_nodup _ _).filter _) (nodup_lt hok.1)).mpr fun i => ?_
    rw [List.mem_filter, mem_ordB, decide_eq_true_eq]
    exact ⟨fun z => z.2, fun z => ⟨hok.2 i z, z⟩⟩
  rw [hr, Int.toNat_natCast, ← e2, ← e1, ← List.map_take]
  unfold FD
  rw [List.mem_map, List.mem_map, List.mem_map]
  constructor
  · rintro ⟨q, hq, rfl⟩
    rcases (hf q).mp ((hO q).mp hq) with ⟨_, h2, h3⟩ | h2
    · exact .inl ⟨h2, q, h3, rfl⟩
    · exact .inr ⟨q, h2, rfl⟩
  · rintro (⟨h1, q, hq, rfl⟩ | ⟨q, hq, rfl⟩)
    · exact ⟨q, (hO q).mpr ((hf q).mpr (.inl ⟨mem_ordB.mpr (hok.2 q hq), h1, hq⟩)), rfl⟩
    · exact ⟨q, (hO q).mpr ((hf q).mpr (.inr hq)), rfl⟩
theorem same_FD {ws : List Int} {b : Bool} {s : Int} {x : Tr} (hx : okS ws.length x) (h : LK ws b x) (w : Int) : w ∈ FD ws (tiltS ws b s x).2.1 ↔ s ≤ w ∧ w ∈ FD ws x.2.1 := by
  have hm := kept_lot (s := s) hx h.2 h.1
  unfold FD
  rw [List.mem_map, List.mem_map]
  constructor
  · rintro ⟨q, hq, rfl⟩; have := (hm q).mp hq; exact ⟨this.2, q, this.1, rfl⟩
  · rintro ⟨h1, q, hq, rfl⟩; exact ⟨q, (hm q).mpr ⟨hq, h1⟩, rfl⟩
/-- alike from both ends, as far as so many beads hear -/
def Alike (ws vs : List Int) (m : Nat) : Prop := ∀ b s, endsL ws b s m = endsL vs b s m
theorem Alike.le {ws vs : List Int} {m k : Nat} (h : Alike ws vs m) (hk : k ≤ m) : Alike ws vs k := fun b s => by
  have := congrArg (List.take k) (h b s)
  unfold endsL at this ⊢
  rwa [List.take_take, List.take_take, Nat.min_eq_left hk] at this
structure Corr (ws vs : List Int) (m : Nat) (b : Bool) (x y : Tr) : Prop where
  hx : okS ws.length x
  hy : okS vs.length y
  lx : LK ws b x
  ly : LK vs b y
  tr : src (!b) x = src (!b) y
  fd : ∀ w, w ∈ FD ws x.2.1 ↔ w ∈ FD vs y.2.1
  le : beadsS x ≤ m
theorem FD_filter_len {ws vs a b : List Int} {f : Int → Bool} (hn : ws.Nodup) (hm : vs.Nodup) (ha : okL ws.length a) (hb : okL vs.length b) (h : ∀ w, w ∈ FD ws a ↔ w ∈ FD vs b) : ((FD ws a).filter f).length = ((FD vs b).filter f).length := by
  have h1 := sub_len ((FD_nodup hn ha).filter f) (ys := (FD vs b).filter f) fun i hi => by
    rw [List.mem_filter] at hi ⊢; exact ⟨(h i).mp hi.1, hi.2⟩
  have h2 := sub_len ((FD_nodup hm hb).filter f) (ys := (FD ws a).filter f) fun i hi => by
    rw [List.mem_filter] at hi ⊢; exact ⟨(h i).mpr hi.1, hi.2⟩
  omega
theorem corr_step {ws vs : List Int} {m : Nat} (hn : ws.Nodup) (hv : vs.Nodup) (ha : Alike ws vs m) {b : Bool} {x y : Tr} (h : Corr ws vs m b x y) (c : Bool) (s : Int) :
    rolS ws c s x = rolS vs c s y ∧ ∃ b', Corr ws vs m b' (tiltS ws c s x) (tiltS vs c s y) := by
  obtain ⟨hx, hy, lx, ly, tr, fd, le⟩ := h
  have ox := okS.lot hx
  have oy := okS.lot hy
  have tx := tiltS_ok hx c s
  have ty := tiltS_ok hy c s
  have hlen := FD_len hn hv ox oy fd
  have hbd : beadsS (tiltS ws c s x) ≤ m := by rw [tiltS_beads hx]; exact le
  by_cases e : c = b
  · subst e
    have fd' : ∀ w, w ∈ FD ws (tiltS ws c s x).2.1 ↔ w ∈ FD vs (tiltS vs c s y).2.1 := fun w => by
      rw [same_FD hx lx, same_FD hy ly, fd]
    have hl' := FD_len hn hv (okS.lot tx) (okS.lot ty) fd'
    have hr : rolS ws c s x = rolS vs c s y := by rw [rol_cons hx, rol_cons hy, lx.1, ly.1]; omega
    refine ⟨hr, c, tx, ty, lk_same hx lx, lk_same hy ly, ?_, fd', hbd⟩
    rw [src_thr, src_thr, tr, ← rolS_O, ← rolS_O, hr]
  · have : c = !b := by cases c <;> cases b <;> simp_all
    subst this
    have fd' : ∀ w, w ∈ FD ws (tiltS ws (!b) s x).2.1 ↔ w ∈ FD vs (tiltS vs (!b) s y).2.1 := fun w => by
      rw [fill_FD hn hx lx, fill_FD hv hy ly, fd, tr]
      have el := FD_filter_len (f := fun w => decide (w < s)) hn hv ox oy fd
      rw [el]
      have ef : ∀ l : List Int, (l.filter fun w => !decide (w ∈ FD ws x.2.1)) = l.filter fun w => !decide (w ∈ FD vs y.2.1) := fun l => by
        refine List.filter_congr fun w _ => ?_
        rw [decide_eq_decide.mpr (fd w)]
      rw [ef]
      have key : ∀ (us : List Int), us.Nodup → ((((dl b us).filter fun w => decide (s ≤ w)).filter fun w => !decide (w ∈ FD vs y.2.1))).take ((src (!b) y).toNat + ((FD vs y.2.1).filter fun w => decide (w < s)).length) = (((endsL us b s m).filter fun w => !decide (w ∈ FD vs y.2.1))).take ((src (!b) y).toNat + ((FD vs y.2.1).filter fun w => decide (w < s)).length) := fun us hu => by
        unfold endsL
        refine take_filter _ _ _ ?_
        have l1 : ((((dl b us).filter fun w => decide (s ≤ w)).filter fun w => !(!decide (w ∈ FD vs y.2.1)))).length ≤ ((FD vs y.2.1).filter fun w => !decide (w < s)).length := by
          refine sub_len (((dl_nodup hu b).filter _).filter _) fun i hi => ?_
          simp only [List.mem_filter, Bool.not_not, decide_eq_true_eq] at hi
          rw [List.mem_filter]
          exact ⟨hi.2, by rw [decide_eq_false (by omega)]; rfl⟩
        have l2 := filter_two (fun w => decide (w < s)) (FD vs y.2.1)
        have l3 : (FD vs y.2.1).length = y.2.1.length := by unfold FD; rw [List.length_map]
        have hb2 := beadsS_two b x
        have := src_nn hx (!b)
        rw [lx.1, tr] at hb2
        rw [tr] at this
        omega
      rw [key ws hn, key vs hv, ha b s]
    have hl' := FD_len hn hv (okS.lot tx) (okS.lot ty) fd'
    have hr : rolS ws (!b) s x = rolS vs (!b) s y := by rw [rol_cons hx, rol_cons hy, tr]; omega
    refine ⟨hr, ?_⟩
    by_cases hc : 0 < rolS ws (!b) s x
    · refine ⟨!b, tx, ty, (lk_all hx lx hc).2, (lk_all hy ly (hr ▸ hc)).2, ?_, fd', hbd⟩
      rw [src_thr, src_thr, ← rolS_O, ← rolS_O, hr, Bool.not_not, lx.1, ly.1]
    · have h0 : 0 ≤ rolS ws (!b) s x := by rw [rolS_O]; exact rollO_nn _ _ _ _ _ (src_nn hx _)
      have z1 := src_thr (ws := ws) (b := !b) (s := s) (x := x)
      have z2 := src_thr (ws := vs) (b := !b) (s := s) (x := y)
      rw [Bool.not_not, ← rolS_O, lx.1] at z1
      rw [Bool.not_not, ← rolS_O, ly.1] at z2
      refine ⟨b, tx, ty, ⟨by omega, lk_back hx lx⟩, ⟨by omega, lk_back hy ly⟩, ?_, fd', hbd⟩
      rw [tiltS_src, tiltS_src]
theorem corr_row {ws vs : List Int} {m : Nat} (hn : ws.Nodup) (hv : vs.Nodup) (ha : Alike ws vs m) : ∀ (row : List (Bool × Int)) {b : Bool} {x y : Tr}, Corr ws vs m b x y → heardS ws row x = heardS vs row y
  | [], _, _, _, _ => rfl
  | (c, s) :: row, b, x, y, h => by
    obtain ⟨hr, b', h'⟩ := corr_step hn hv ha h c s
    rw [heardS, heardS, hr, corr_row hn hv ha row h']
theorem lk_tray {ws : List Int} {b : Bool} {m : Int} : LK ws b (inT0 b m) := ⟨by cases b <;> rfl, fun p hp => by
  have : (inT0 b m).2.1 = [] := by cases b <;> rfl
  rw [this] at hp; cases hp⟩
theorem inT0_lot {b : Bool} {m : Int} : (inT0 b m).2.1 = [] := by cases b <;> rfl
theorem src_tray {b : Bool} {m : Int} : src (!b) (inT0 b m) = m := by cases b <;> rfl
/-- alike at the ends: heard alike -/
theorem alike_heard {ws vs : List Int} {m : Nat} (hn : ws.Nodup) (hv : vs.Nodup) (ha : Alike ws vs m) {b : Bool} {k : Int} (h0 : 0 ≤ k) (hk : k ≤ m) (row : List (Bool × Int)) : heardS ws row (inT0 b k) = heardS vs row (inT0 b k) := by
  refine corr_row hn hv ha row (b := b) ⟨inT0_ok h0 b, inT0_ok h0 b, lk_tray, lk_tray, rfl, fun w => ?_, ?_⟩
  · rw [inT0_lot]; exact Iff.rfl
  · rw [beadsS_two b, inT0_lot, (lk_tray (ws := ws) (b := b) (m := k)).1, src_tray]; simpa using hk
/-! ### told apart -/
/-- the first place at which two lists are unlike -/
def unl : List Int → List Int → Option Nat
  | [], [] => none
  | a :: l, c :: k => if a = c then (unl l k).map (· + 1) else some 0
  | [], _ :: _ => some 0
  | _ :: _, [] => some 0
theorem unl_none : ∀ {a c : List Int}, unl a c = none ↔ a = c
  | [], [] => by simp [unl]
  | a :: l, c :: k => by
    rw [unl]
    by_cases h : a = c
    · rw [if_pos h, Option.map_eq_none_iff, unl_none, h]; simp
    · rw [if_neg h]; simp [h]
  | [], _ :: _ => by simp [unl]
  | _ :: _, [] => by simp [unl]
theorem unl_of : ∀ {a c : List Int} {i : Nat}, a.take i = c.take i → a[i]? ≠ c[i]? → unl a c = some i
  | [], [], i, _, h => by simp at h
  | a :: l, c :: k, 0, _, h => by
    rw [unl, if_neg (by simpa using h)]
  | a :: l, c :: k, i + 1, h, h2 => by
    rw [List.take_succ_cons, List.take_succ_cons] at h
    injection h with h3 h4
    rw [unl, if_pos h3, unl_of h4 (by simpa using h2)]; rfl
  | [], _ :: _, 0, _, _ => rfl
  | _ :: _, [], 0, _, _ => rfl
  | [], _ :: _, i + 1, h, _ => by simp at h
  | _ :: _, [], i + 1, h, _ => by simp at h
theorem unl_some : ∀ {a c : List Int} {i : Nat}, unl a c = some i → a.take i = c.take i ∧ a[i]? ≠ c[i]?
  | [], [], i, h => by simp [unl] at h
  | a :: l, c :: k, i, h => by
    rw [unl] at h
    by_cases e : a = c
    · rw [if_pos e] at h
      obtain ⟨j, hj, rfl⟩ := Option.map_eq_some_iff.mp h
      obtain ⟨h1, h2⟩ := unl_some hj
      exact ⟨by rw [List.take_succ_cons, List.take_succ_cons, h1, e], by simpa using h2⟩
    · rw [if_neg e] at h
      injection h with h; subst h
      exact ⟨rfl, by simpa using e⟩
  | [], c :: k, i, h => by
    rw [unl] at h; injection h with h; subst h
    exact ⟨rfl, by simp⟩
  | a :: l, [], i, h => by
    rw [unl] at h; injection h with h; subst h
    exact ⟨rfl, by simp⟩
def rowT (b : Bool) (s : Int) (mine its : List Int) : List (Bool × Int) := (!b, s) :: if mine.length = its.length then [(b, max (gL mine) (gL its))] else []
/-- what is told of two channels -/
def toldT (ws vs : List Int) (m : Nat) : List (Bool × Int) → Option (Nat × Bool × List (Bool × Int))
  | [] => none
  | (b, s) :: l => match unl (endsL ws b s m) (endsL vs b s m) with
    | none => toldT ws vs m l
    | some i => some (i + 1, b, rowT b s ((endsL ws b s m).take (i + 1)) ((endsL vs b s m).take (i + 1)))
theorem toldT_none {ws vs : List Int} {m : Nat} : ∀ {l : List (Bool × Int)}, toldT ws vs m l = none ↔ ∀ p ∈ l, endsL ws p.1 p.2 m = endsL vs p.1 p.2 m
  | [] => by simp [toldT]
  | (b, s) :: l => by
    rw [toldT]
    cases h : unl (endsL ws b s m) (endsL vs b s m) with
    | none =>
      rw [toldT_none]
      constructor
      · intro hl p hp
        rcases List.mem_cons.mp hp with rfl | hp
        · exact unl_none.mp h
        · exact hl p hp
      · exact fun hl p hp => hl p (List.mem_cons_of_mem _ hp)
    | some i =>
      refine ⟨fun h => by simp at h, fun hl => ?_⟩
      have := unl_none.mpr (hl (b, s) List.mem_cons_self)
      rw [h] at this; cases this
theorem toldT_some {ws vs : List Int} {m : Nat} {r : Nat × Bool × List (Bool × Int)} : ∀ {l : List (Bool × Int)}, toldT ws vs m l = some r → ∃ s, (r.2.1, s) ∈ l ∧ ∃ i, unl (endsL ws r.2.1 s m) (endsL vs r.2.1 s m) = some i ∧ r.1 = i + 1 ∧ r.2.2 = rowT r.2.1 s ((endsL ws r.2.1 s m).take (i + 1)) ((endsL vs r.2.1 s m).take (i + 1))
  | [], h => by simp [toldT] at h
  | (b, s) :: l, h => by
    rw [toldT] at h
    cases e : unl (endsL ws b s m) (endsL vs b s m) with
    | none =>
      rw [e] at h
      obtain ⟨s', h1, h2⟩ := toldT_some h
      exact ⟨s', List.mem_cons_of_mem _ h1, h2⟩
    | some i =>
      rw [e] at h
      injection h with h; subst h
      exact ⟨s, List.mem_cons_self, i, e, rfl, rfl⟩
/-- heard of so many from a tray, sent away, brought back by a strength -/
theorem heard_one {ws : List Int} (hn : ws.Nodup) {b : Bool} {s : Int} {k : Nat} : rolS ws (!b) s (inT0 b k) = k - ((endsL ws b s k).length : Int) ∧ (∀ w, w ∈ FD ws (tiltS ws (!b) s (inT0 b k)).2.1 ↔ w ∈ endsL ws b s k) := by
  have h0 : okS ws.length (inT0 b (k : Int)) := inT0_ok (by omega) b
  have hf : ∀ w, w ∈ FD ws (tiltS ws (!b) s (inT0 b k)).2.1 ↔ w ∈ endsL ws b s k := fun w => by
    rw [fill_FD hn h0 lk_tray, inT0_lot, src_tray]
    have e : (FD ws []) = [] := rfl
    rw [e]
    have e2 : ∀ l : List Int, (l.filter fun w => !decide (w ∈ ([] : List Int))) = l := fun l => List.filter_eq_self.mpr fun a _ => by simp
    rw [e2, Int.toNat_natCast]
    unfold endsL
    simp
  refine ⟨?_, hf⟩
  have hl : (tiltS ws (!b) s (inT0 b k)).2.1.length = (endsL ws b s k).length := by
    have o1 := okS.lot (tiltS_ok h0 (!b) s)
    have h1 := sub_len (FD_nodup hn o1) fun i hi => (hf i).mp hi
    have h2 := sub_len (xs := endsL ws b s k) (((dl_nodup hn b).filter _).sublist (List.take_sublist _ _)) fun i hi => (hf i).mpr hi
    unfold FD at h1 h2
    rw [List.length_map] at h1 h2
    omega
  rw [rol_cons h0, src_tray, inT0_lot, hl]
  simp
theorem heard_two {ws : List Int} (hn : ws.Nodup) {b : Bool} {s M : Int} {k : Nat} (h : (endsL ws b s k).length = k) : rolS ws b M (tiltS ws (!b) s (inT0 b k)) = (((endsL ws b s k).filter fun w => decide (w < M)).length : Int) := by
  have h0 : okS ws.length (inT0 b (k : Int)) := inT0_ok (by omega) b
  obtain ⟨r1, f1⟩ := heard_one hn (b := b) (s := s) (k := k)
  have hy := tiltS_ok h0 (!b) s
  have z1 := src_thr (ws := ws) (b := !b) (s := s) (x := inT0 b k)
  rw [Bool.not_not, ← rolS_O, r1, h, (lk_tray (ws := ws) (b := b) (m := (k : Int))).1] at z1
  have l1 : LK ws b (tiltS ws (!b) s (inT0 b k)) := ⟨by omega, lk_back h0 lk_tray⟩
  have f2 := fun w => same_FD (s := M) hy l1 w
  have o1 := okS.lot hy
  have o2 := okS.lot (tiltS_ok hy b M)
  have ne : (endsL ws b s k).Nodup := ((dl_nodup hn b).filter _).sublist (List.take_sublist _ _)
  have a1 := sub_len (FD_nodup hn o1) fun i hi => (f1 i).mp hi
  have a2 := sub_len ne fun i hi => (f1 i).mpr hi
  have a3 := sub_len (FD_nodup hn o2) (ys := (endsL ws b s k).filter fun w => !decide (w < M)) fun i hi => by
    have := (f2 i).mp hi
    rw [List.mem_filter, ← f1]
    exact ⟨this.2, by rw [decide_eq_false (by omega)]; rfl⟩
  have a4 := sub_len (xs := (endsL ws b s k).filter fun w => !decide (w < M)) (ne.filter _) (ys := FD ws (tiltS ws b M (tiltS ws (!b) s (inT0 b k))).2.1) fun i hi => by
    rw [List.mem_filter, ← f1] at hi
    rw [f2]
    have := hi.2
    simp at this
    exact ⟨this, hi.1⟩
  have a5 := filter_two (fun w => decide (w < M)) (endsL ws b s k)
  unfold FD at a1 a2 a3 a4
  rw [List.length_map] at a1 a2 a3 a4
  rw [rol_cons hy, l1.1]
  omega
theorem take_one {l : List Int} {i : Nat} (h : (l.take (i + 1)).length = i + 1) : ∃ a, l[i]? = some a ∧ l.take (i + 1) = l.take i ++ [a] ∧ gL (l.take (i + 1)) = a := by
  rw [List.length_take] at h
  have hi : i < l.length := by omega
  refine ⟨l[i], List.getElem?_eq_getElem hi, ?_, ?_⟩
  · rw [List.take_succ_eq_append_getElem hi]
  · unfold gL
    rw [List.take_succ_eq_append_getElem hi]
    first | (simp; done) | (rw [List.getLastD_concat]) | (simp [List.getLast?_append])
theorem endsL_take {ws : List Int} {b : Bool} {s : Int} {m k : Nat} (h : k ≤ m) : (endsL ws b s m).take k = endsL ws b s k := by
  unfold endsL; rw [List.take_take, Nat.min_eq_left h]
/-- the row told tells them apart -/
theorem row_apart {ws vs : List Int} (hn : ws.Nodup) (hv : vs.Nodup) {b : Bool} {s : Int} {m i : Nat} (h : unl (endsL ws b s m) (endsL vs b s m) = some i) :
    i < m ∧ (endsL ws b s m).length ≤ m ∧ (¬ ((endsL ws b s (i + 1)).length = (endsL vs b s (i + 1)).length) → rolS ws (!b) s (inT0 b ((i + 1 : Nat) : Int)) ≠ rolS vs (!b) s (inT0 b ((i + 1 : Nat) : Int))) ∧
      ((endsL ws b s (i + 1)).length = (endsL vs b s (i + 1)).length → rolS ws b (max (gL (endsL ws b s (i + 1))) (gL (endsL vs b s (i + 1)))) (tiltS ws (!b) s (inT0 b ((i + 1 : Nat) : Int))) ≠ rolS vs b (max (gL (endsL ws b s (i + 1))) (gL (endsL vs b s (i + 1)))) (tiltS vs (!b) s (inT0 b ((i + 1 : Nat) : Int)))) := by
  obtain ⟨h1, h2⟩ := unl_some h
  have lw : (endsL ws b s m).length ≤ m := by unfold endsL; rw [List.length_take]; omega
  have lv : (endsL vs b s m).length ≤ m := by unfold endsL; rw [List.length_take]; omega
  have him : i < m := by
    refine Classical.byContradiction fun hc => h2 ?_
    rw [List.getElem?_eq_none (by omega), List.getElem?_eq_none (by omega)]
  refine ⟨him, lw, fun hne hc => ?_, fun he hc => ?_⟩
  · rw [(heard_one hn).1, (heard_one hv).1] at hc
    omega
  · have e1 := endsL_take (ws := ws) (b := b) (s := s) (show i + 1 ≤ m by omega)
    have e2 := endsL_take (ws := vs) (b := b) (s := s) (show i + 1 ≤ m by omega)
    have hw : (endsL ws b s (i + 1)).length = i + 1 := by
      refine Classical.byContradiction fun hz => h2 ?_
      have z : (endsL ws b s (i + 1)).length ≤ i + 1 := by unfold endsL; rw [List.length_take]; omega
      rw [← e1, List.length_take] at hz he
      rw [← e2, List.length_take] at he
      rw [List.getElem?_eq_none (by omega), List.getElem?_eq_none (by omega)]
    obtain ⟨a, a1, a2, a3⟩ := take_one (l := endsL ws b s m) (i := i) (by rw [e1]; exact hw)
    obtain ⟨c, c1, c2, c3⟩ := take_one (l := endsL vs b s m) (i := i) (by rw [e2]; omega)
    rw [e1] at a2 a3
    rw [e2] at c2 c3
    rw [heard_two hn (by omega), heard_two hv (by omega), a3, c3, a2, c2, h1, List.filter_append, List.filter_append, List.length_append, List.length_append] at hc
    have hac : a ≠ c := fun e => h2 (by rw [a1, c1, e])
    have : (([a].filter fun w => decide (w < max a c)).length) = (([c].filter fun w => decide (w < max a c)).length) := by omega
    by_cases hlt : a < c
    · have m1 : max a c = c := by omega
      rw [m1, List.filter_cons, List.filter_cons, if_pos (decide_eq_true hlt), if_neg (by simp)] at this
      simp at this
    · have m1 : max a c = a := by omega
      rw [m1, List.filter_cons, List.filter_cons, if_neg (by simp), if_pos (decide_eq_true (by omega))] at this
      simp at this
/-- what is told is heard -/
theorem told_heard {ws vs : List Int} (hn : ws.Nodup) (hv : vs.Nodup) {m : Nat} {l : List (Bool × Int)} {r : Nat × Bool × List (Bool × Int)} (h : toldT ws vs m l = some r) : 1 ≤ r.1 ∧ r.1 ≤ m ∧ heardS ws r.2.2 (inT0 r.2.1 r.1) ≠ heardS vs r.2.2 (inT0 r.2.1 r.1) := by
  obtain ⟨s, _, i, h1, h2, h3⟩ := toldT_some h
  obtain ⟨k1, k2, k3, k4⟩ := row_apart hn hv h1
  rw [h2, h3, endsL_take (by omega), endsL_take (by omega)]
  refine ⟨by omega, by omega, fun hc => ?_⟩
  unfold rowT at hc
  rw [heardS, heardS] at hc
  injection hc with c1 c2
  by_cases he : (endsL ws r.2.1 s (i + 1)).length = (endsL vs r.2.1 s (i + 1)).length
  · rw [if_pos he, heardS, heardS] at c2
    injection c2 with c2 _
    exact k4 he c2
  · exact k3 he c1
def keysT (ws vs : List Int) : List (Bool × Int) := (srt (ws ++ vs)).map (false, ·) ++ (srt (ws ++ vs)).map (true, ·)
theorem mem_keysT {ws vs : List Int} {b : Bool} {s : Int} : (b, s) ∈ keysT ws vs ↔ s ∈ ws ∨ s ∈ vs := by
  unfold keysT
  have : ∀ s, s ∈ srt (ws ++ vs) ↔ s ∈ ws ∨ s ∈ vs := fun s => by rw [(srt_perm _).mem_iff, List.mem_append]
  cases b <;> simp [this]
/-- a strength does what the next depth does -/
theorem alike_of {ws vs : List Int} {m : Nat} (h : ∀ b s, s ∈ ws ∨ s ∈ vs → endsL ws b s m = endsL vs b s m) : Alike ws vs m := by
  intro b s
  have hd : ∀ us : List Int, ∀ w, w ∈ dl b us ↔ w ∈ us := fun us w => by unfold dl; cases b <;> simp
  by_cases hz : ((ws ++ vs).filter fun w => decide (s ≤ w)).length = 0
  · have hn := List.eq_nil_of_length_eq_zero hz
    rw [List.filter_eq_nil_iff] at hn
    have e : ∀ us : List Int, (∀ w ∈ us, w ∈ ws ++ vs) → endsL us b s m = [] := fun us hu => by
      unfold endsL
      rw [List.filter_eq_nil_iff.mpr fun w hw => hn w (hu w ((hd us w).mp hw))]; simp
    rw [e ws fun w hw => List.mem_append_left _ hw, e vs fun w hw => List.mem_append_right _ hw]
  · have hm := mn_mem (ws := (ws ++ vs).filter fun w => decide (s ≤ w)) (by omega)
    have hle : ∀ w ∈ ws ++ vs, s ≤ w → mn ((ws ++ vs).filter fun w => decide (s ≤ w)) ≤ w := fun w hw hs => mn_le (List.mem_filter.mpr ⟨hw, decide_eq_true hs⟩)
    generalize mn ((ws ++ vs).filter fun w => decide (s ≤ w)) = t at hm hle
    rw [List.mem_filter, decide_eq_true_eq, List.mem_append] at hm
    have e : ∀ us : List Int, (∀ w ∈ us, w ∈ ws ++ vs) → endsL us b s m = endsL us b t m := fun us hu => by
      unfold endsL
      congr 1
      refine List.filter_congr fun w hw => ?_
      have hw := hu w ((hd us w).mp hw)
      rw [decide_eq_decide]
      exact ⟨fun hs => hle w hw hs, fun ht => by omega⟩
    rw [e ws fun w hw => List.mem_append_left _ hw, e vs fun w hw => List.mem_append_right _ hw]
    exact h b t hm.1
theorem told_none {ws vs : List Int} {m : Nat} : toldT ws vs m (keysT ws vs) = none ↔ Alike ws vs m := by
  rw [toldT_none]
  exact ⟨fun h => alike_of fun b s hs => h (b, s) (mem_keysT.mpr hs), fun h p _ => h p.1 p.2⟩
/-- .. as data -/
def toldD (o : Option (Nat × Bool × List (Bool × Int))) : D := match o with
  | none => .none
  | some r => .tuple [.int r.1, .str (sideS r.2.1), .list (r.2.2.map (prW false))]
theorem rowT_ok {ws vs : List Int} {m : Nat} {r : Nat × Bool × List (Bool × Int)} (h : toldT ws vs m (keysT ws vs) = some r) : r.2.2.length ≤ 2 ∧ ∀ p ∈ r.2.2, p.2 ∈ ws ∨ p.2 ∈ vs := by
  obtain ⟨s, h0, i, h1, h2, h3⟩ := toldT_some h
  rw [h3]
  obtain ⟨u1, u2⟩ := unl_some h1
  unfold rowT
  refine ⟨by split <;> simp, fun p hp => ?_⟩
  rcases List.mem_cons.mp hp with rfl | hp
  · exact mem_keysT.mp h0
  · split at hp
    · rename_i he
      rw [List.mem_singleton.mp hp]
      have hd : ∀ us : List Int, ∀ w, w ∈ endsL us r.2.1 s m → w ∈ us := fun us w hw => by
        unfold endsL at hw
        have := List.mem_of_mem_take hw
        have := (List.mem_filter.mp this).1
        unfold dl at this
        cases hb : r.2.1 <;> rw [hb] at this <;> simpa using this
      have hgl : ∀ {l : List Int}, 0 < l.length → gL l ∈ l := fun {l} hl => by
        obtain ⟨n, hn⟩ : ∃ n, l.length = n + 1 := ⟨l.length - 1, by omega⟩
        obtain ⟨a, a1, a2, a3⟩ := take_one (l := l) (i := n) (by rw [List.length_take]; omega)
        rw [List.take_of_length_le (by omega)] at a3
        rw [a3]; exact List.mem_of_getElem? a1
      have hne : 0 < ((endsL ws r.2.1 s m).take (i + 1)).length ∧ 0 < ((endsL vs r.2.1 s m).take (i + 1)).length := by
        rw [← he]
        refine ⟨?_, ?_⟩ <;>
        · refine Classical.byContradiction fun hz => u2 ?_
          have z1 : ((endsL ws r.2.1 s m).take (i + 1)).length = 0 := by omega
          have z2 : ((endsL vs r.2.1 s m).take (i + 1)).length = 0 := by omega
          rw [List.length_take] at z1 z2
          rw [List.getElem?_eq_none (by omega), List.getElem?_eq_none (by omega)]
      show max _ _ ∈ ws ∨ max _ _ ∈ vs
      have g1 := hd ws _ (List.mem_of_mem_take (hgl hne.1))
      have g2 := hd vs _ (List.mem_of_mem_take (hgl hne.2))
      rcases Int.le_total (gL ((endsL ws r.2.1 s m).take (i + 1))) (gL ((endsL vs r.2.1 s m).take (i + 1))) with z | z
      · rw [Int.max_eq_right z]; exact .inr g2
      · rw [Int.max_eq_left z]; exact .inl g1
    · cases hp
end Lw

/-! Vu: all turned about. -/
namespace Lw
open PySem PySem.Spec PyProof.Rows L2 Pv
theorem v_lkS {b : Bool} {k : Nat} {R : KC} (q : R 0 (.str (sideS (!b)))) : ap1 (oLk [("left", "right"), ("right", "left")]) (.v k (.str (sideS b))) R := ap1_op (by
  cases b
  · show pickT R (lkS [("left", "right"), ("right", "left")] "left")
    rw [show lkS [("left", "right"), ("right", "left")] "left" = some "right" by decide +kernel]; exact q
  · show pickT R (lkS [("left", "right"), ("right", "left")] "right")
    rw [show lkS [("left", "right"), ("right", "left")] "right" = some "left" by decide +kernel]; exact q)
theorem nb_optI (o : Option Int) : Nb (optI o) := by cases o with | none => exact nb_non | some i => exact nb_int i
theorem v_neOO {k k' : Nat} {o o' : Option Int} {R : KC} (q : R 0 (.bool (!decide (o = o')))) : ap2 oNe (.v k (optI o)) (.v k' (optI o')) R := v_ne (.mk (nb_optI o)) (.mk (nb_optI o')) fun c hc => by
  have : c = decide (o = o') := by
    have h : optI o = optI o' ↔ o = o' := ⟨fun h => by cases o <;> cases o' <;> first | rfl | (cases h; done) | (cases h; rfl), fun h => by rw [h]⟩
    rw [Bool.eq_iff_iff, hc, decide_eq_true_iff]; exact h
  rw [this]; exact q
def flipS (n : Nat) (x : Tr) : Tr := (x.2.2, turnI n x.2.1, x.1)
def flipR (row : List (Bool × Int)) : List (Bool × Int) := row.map fun p => (!p.1, p.2)
theorem flipS_flipS (n : Nat) (x : Tr) : flipS n (flipS n x) = x := by
  unfold flipS; rw [turnI_turnI]
theorem flipS_inj {n : Nat} {x y : Tr} (h : flipS n x = flipS n y) : x = y := by
  rw [← flipS_flipS n x, h, flipS_flipS]
theorem flipS_ok {n : Nat} {x : Tr} (h : okS n x) : okS n (flipS n x) := by
  refine ⟨h.2.1, h.1, ?_, fun p hp => ?_⟩
  · show (turnI n x.2.1).Pairwise (· < ·)
    unfold turnI
    rw [List.pairwise_reverse, List.pairwise_map]
    exact h.2.2.1.imp fun {a b} hab => by omega
  · have := h.2.2.2 _ (mem_turnI.mp hp)
    omega
theorem src_flip (n : Nat) (x : Tr) (b : Bool) : src (!b) (flipS n x) = src b x := by cases b <;> rfl
theorem tilt_flip (ws : List Int) (b : Bool) (s : Int) (x : Tr) : tiltS ws.reverse (!b) s (flipS ws.length x) = flipS ws.length (tiltS ws b s x) := by
  obtain ⟨l, lot, r⟩ := x
  cases b
  · show tiltS ws.reverse true s (r, turnI ws.length lot, l) = flipS ws.length (tiltS ws false s (l, lot, r))
    rw [tiltS_r, tiltS_l]
    unfold flipS
    rw [turnI_turnI]
  · show tiltS ws.reverse false s (r, turnI ws.length lot, l) = flipS ws.length (tiltS ws true s (l, lot, r))
    rw [tiltS_r, tiltS_l, List.length_reverse, turnI_turnI, List.reverse_reverse]
    rfl
theorem rol_flip (ws : List Int) (b : Bool) (s : Int) (x : Tr) : rolS ws.reverse (!b) s (flipS ws.length x) = rolS ws b s x := by
  obtain ⟨l, lot, r⟩ := x
  cases b
  · rfl
  · show (tiltF ws.reverse r (turnI ws.length lot) l false s).2 = (tiltF ws l lot r true s).2
    unfold tiltF
    rw [List.length_reverse, turnI_turnI, List.reverse_reverse]
    rfl
theorem led_flip (ws : List Int) : ∀ (row : List (Bool × Int)) (x : Tr), ledS ws.reverse (flipR row) (flipS ws.length x) = flipS ws.length (ledS ws row x)
  | [], _ => rfl
  | (b, s) :: row, x => by
    show ledS ws.reverse (flipR row) (tiltS ws.reverse (!b) s (flipS ws.length x)) = _
    rw [tilt_flip, led_flip ws row]; rfl
theorem heard_flip (ws : List Int) : ∀ (row : List (Bool × Int)) (x : Tr), heardS ws.reverse (flipR row) (flipS ws.length x) = heardS ws row x
  | [], _ => rfl
  | (b, s) :: row, x => by
    show rolS ws.reverse (!b) s (flipS ws.length x) :: heardS ws.reverse (flipR row) (tiltS ws.reverse (!b) s (flipS ws.length x)) = _
    rw [tilt_flip, rol_flip, heard_flip ws row]; rfl
theorem iter_flip (ws : List Int) (row : List (Bool × Int)) : ∀ (n : Nat) (x : Tr), iterS (ledS ws.reverse (flipR row)) n (flipS ws.length x) = flipS ws.length (iterS (ledS ws row) n x)
  | 0, _ => rfl
  | n + 1, x => by
    show iterS (ledS ws.reverse (flipR row)) n (ledS ws.reverse (flipR row) (flipS ws.length x)) = _
    rw [led_flip, iter_flip ws row n]; rfl
theorem settles_flip {ws : List Int} {row : List (Bool × Int)} {x : Tr} {t : Nat} (h : Settles (ledS ws row) x t) : Settles (ledS ws.reverse (flipR row)) (flipS ws.length x) t := by
  refine ⟨by rw [iter_flip, iter_flip, h.1], fun j hj e => h.2 j hj ?_⟩
  rw [iter_flip, iter_flip] at e
  exact flipS_inj e
theorem ends_flip (ws : List Int) (b : Bool) (s : Int) (m : Nat) : endsL ws.reverse b s m = endsL ws (!b) s m := by
  unfold endsL dl
  cases b
  · rfl
  · simp
theorem alike_flip {ws vs : List Int} {m : Nat} : Alike ws.reverse vs.reverse m ↔ Alike ws vs m := by
  refine ⟨fun h b s => ?_, fun h b s => ?_⟩
  · have := h (!b) s
    rwa [ends_flip, ends_flip, Bool.not_not] at this
  · rw [ends_flip, ends_flip]; exact h _ _
theorem inT0_flip (n : Nat) (b : Bool) (m : Int) : inT0 (!b) m = flipS n (inT0 b m) := by cases b <;> rfl
theorem mem_beyL_flip {n : Nat} {p q : Int} {b : Bool} (hp : 0 ≤ p ∧ p < n) (hq : 0 ≤ q ∧ q < n) : (n : Int) - 1 - q ∈ beyL n ((n : Int) - 1 - p) (!b) ↔ q ∈ beyL n p b := by
  rw [mem_beyL, mem_beyL]
  cases b
  · simp only [Bool.not_false, if_true, Bool.false_eq_true, if_false]; omega
  · simp only [Bool.not_true, if_true, Bool.false_eq_true, if_false]; omega
theorem gI_rev {ws : List Int} {p : Int} (h : 0 ≤ p ∧ p < ws.length) : gI ws.reverse ((ws.length : Int) - 1 - p) = gI ws p := by
  obtain ⟨j, rfl⟩ := Int.eq_ofNat_of_zero_le h.1
  rw [gI_nat (by omega), show (ws.length : Int) - 1 - (j : Int) = ((ws.length - 1 - j : Nat) : Int) by omega, gI_nat (by rw [List.length_reverse]; omega), List.getElem_reverse]
  congr 1
  omega
theorem turn_ok {n : Nat} {lot : List Int} (h : okL n lot) : okL n (turnI n lot) := by
  refine ⟨?_, fun p hp => ?_⟩
  · unfold turnI
    rw [List.pairwise_reverse, List.pairwise_map]
    exact h.1.imp fun {a b} hab => by omega
  · have := h.2 _ (mem_turnI.mp hp)
    omega
theorem lean_flip {ws lot : List Int} {b : Bool} (h : okL ws.length lot) : leanP ws.reverse (turnI ws.length lot) (!b) ↔ leanP ws lot b := by
  have main : ∀ {ws lot : List Int} {b : Bool}, okL ws.length lot → leanP ws lot b → leanP ws.reverse (turnI ws.length lot) (!b) := by
    intro ws lot b h hl p hp q hq hd
    have hp := mem_turnI.mp hp
    have hpb := h.2 _ hp
    rw [List.length_reverse] at hq
    have hqb := bey_in (n := ws.length) (p := p) ⟨by omega, by omega⟩ hq
    have e1 := gI_rev (ws := ws) (p := (ws.length : Int) - 1 - p) hpb
    have e2 := gI_rev (ws := ws) (p := (ws.length : Int) - 1 - q) ⟨by omega, by omega⟩
    rw [show (ws.length : Int) - 1 - ((ws.length : Int) - 1 - p) = p by omega] at e1
    rw [show (ws.length : Int) - 1 - ((ws.length : Int) - 1 - q) = q by omega] at e2
    rw [e1, e2] at hd
    refine mem_turnI.mpr (hl _ hp _ ?_ hd)
    have := (mem_beyL_flip (b := b) hpb (q := (ws.length : Int) - 1 - q) ⟨by omega, by omega⟩).mp
    rw [show (ws.length : Int) - 1 - ((ws.length : Int) - 1 - p) = p by omega, show (ws.length : Int) - 1 - ((ws.length : Int) - 1 - q) = q by omega] at this
    exact this hq
  refine ⟨fun hl => ?_, main h⟩
  have := main (ws := ws.reverse) (lot := turnI ws.length lot) (b := !b) (by rw [List.length_reverse]; exact turn_ok h) hl
  rwa [List.reverse_reverse, List.length_reverse, turnI_turnI, Bool.not_not] at this
end Lw

/-! Vd: dicts of ints; lots grown till they lean. -/
namespace Lw
open PySem PySem.Spec PyProof.Rows L2 Pv
def lbeyL (n : Nat) (p : Int) (b : Bool) : List Int := if b then irange (p + 1) n else (irange 0 p).reverse
theorem mem_lbeyL {n : Nat} {p q : Int} {b : Bool} : q ∈ lbeyL n p b ↔ if b then p < q ∧ q < n else 0 ≤ q ∧ q < p := by
  unfold lbeyL
  cases b
  · rw [if_neg (by decide), if_neg (by decide), List.mem_reverse, mem_irange]
  · rw [if_pos rfl, if_pos rfl, mem_irange]
    omega
theorem lbeyL_len {n : Nat} {p : Int} {b : Bool} (h : -1 ≤ p) (h2 : p ≤ n) : (lbeyL n p b).length ≤ n := by
  unfold lbeyL
  cases b
  · show (irange 0 p).reverse.length ≤ n; rw [List.length_reverse, irange_len]; omega
  · show (irange (p + 1) n).length ≤ n; rw [irange_len]; omega
section
variable {r r' : Res} {R : KC} {k : Nat} {es : List (Int × D)}
theorem v_listD (h : r.d = dctD es) (q : R 1 (.list ((es.map (·.1)).map .int))) : apN (at1 oListD) [r] R := apN_op ⟨es, h, q⟩
theorem v_eqD0 (h : r.d = dctD es) (h' : r'.d = dctD []) (q : R 0 (.bool es.isEmpty)) : ap2 (oEqD0 fun b => b) r r' R := ap2_op ⟨es, [], h, h', .inr rfl, by
  have : (es.length == ([] : List (Int × D)).length) = es.isEmpty := by cases es <;> rfl
  rw [this]; exact q⟩
theorem v_neD0 (h : r.d = dctD es) (h' : r'.d = dctD []) (q : R 0 (.bool (!es.isEmpty))) : ap2 (oEqD0 fun b => !b) r r' R := ap2_op ⟨es, [], h, h', .inr rfl, by
  have : (es.length == ([] : List (Int × D)).length) = es.isEmpty := by cases es <;> rfl
  show R 0 (.bool (!(es.length == ([] : List (Int × D)).length)))
  rw [this]; exact q⟩
theorem v_ixK {i : Int} {d : D} (h : r.d = dctD es) (he : valE es i = some d) (q : R 0 d) : ap2 oIxD r (.v k (.int i)) R := ap2_op ⟨es, i, d, h, rfl, he, q⟩
end
theorem dep_side {n : Nat} {b : Bool} : dep n (.str (sideS b)) = true := okD_side.1
theorem inD_sides {b : Bool} {bs : List Bool} : inD (.str (sideS b)) (bs.map fun b => .str (sideS b)) = decide (b ∈ bs) := by
  unfold inD
  rw [List.any_map, Bool.eq_iff_iff, List.any_eq_true, decide_eq_true_iff]
  have key : ∀ c : Bool, PyData.eqv (.str (sideS c)) (.str (sideS b)) = decide (c = b) := fun c => by cases b <;> cases c <;> simp [PyData.eqv] <;> decide +kernel
  constructor
  · rintro ⟨c, h1, h2⟩
    have h2 : PyData.eqv (.str (sideS c)) (.str (sideS b)) = true := h2
    rw [key, decide_eq_true_iff] at h2
    rw [← h2]; exact h1
  · intro h
    exact ⟨b, h, by show PyData.eqv (.str (sideS b)) (.str (sideS b)) = true; rw [key]; exact decide_eq_true rfl⟩
theorem v_inB {r : Res} {R : KC} {k : Nat} {b : Bool} {bs : List Bool} (h : r.d = .list (bs.map fun b => .str (sideS b))) (q : R 0 (.bool (decide (b ∈ bs)))) : ap2 oIn (.v k (.str (sideS b))) r R := ap2_op (by
  show dIn (fun b => b) (.str (sideS b)) R r.d
  rw [h]
  refine ⟨dep_shp (n := 0) dep_side (by decide), dep_shp (n := 1) (List.all_eq_true.mpr fun d hd => ?_) (by decide), ?_⟩
  · obtain ⟨c, _, rfl⟩ := List.mem_map.mp hd
    exact dep_side
  · rw [inD_sides]; exact q)
theorem nb_sides (bs : List Bool) : Nb (.list (bs.map fun b => .str (sideS b))) := List.all_eq_true.mpr fun d hd => by
  obtain ⟨c, _, rfl⟩ := List.mem_map.mp hd
  cases c <;> decide +kernel
theorem okD_sides {n : Nat} {bs : List Bool} (h : bs.length ≤ 2 ^ 20) : okD (n + 1) (.list (bs.map fun b => .str (sideS b))) := okD_list (by rw [List.length_map]; exact h) fun d hd => by
  obtain ⟨c, _, rfl⟩ := List.mem_map.mp hd
  exact okD_side
theorem sd_l : PyData.str (Str.ofString "left") = PyData.str (sideS false) := rfl
theorem sd_r : PyData.str (Str.ofString "right") = PyData.str (sideS true) := rfl
theorem keepC_0 {d : D} : keepC (some ⟨0, d⟩) = some ⟨0, d⟩ := rfl
theorem lend_no {P : Nat → Prop} : ∀ j, j ∈ ([] : List Nat) → P j := fun _ h => nomatch h
/-! ### keys -/
def keysE (es : List (Int × D)) : List Int := es.map (·.1)
theorem keys_over (i : Int) (d : D) : ∀ es : List (Int × D), keysE (es.map fun p => if p.1 = i then (p.1, d) else p) = keysE es
  | [] => rfl
  | p :: es => by
    have ih := keys_over i d es
    unfold keysE at ih ⊢
    rw [List.map_cons, List.map_cons, List.map_cons, ih]
    by_cases h : p.1 = i
    · rw [if_pos h]
    · rw [if_neg h]
theorem any_keys (i : Int) (es : List (Int × D)) : (es.any fun p => decide (p.1 = i)) = true ↔ i ∈ keysE es := by
  unfold keysE
  rw [List.any_eq_true, List.mem_map]
  exact ⟨fun ⟨p, h1, h2⟩ => ⟨p, h1, of_decide_eq_true h2⟩, fun ⟨p, h1, h2⟩ => ⟨p, h1, decide_eq_true h2⟩⟩
theorem keys_put (es : List (Int × D)) (i : Int) (d : D) : keysE (putE es i d) = if i ∈ keysE es then keysE es else keysE es ++ [i] := by
  unfold putE
  by_cases h : (es.any fun p => decide (p.1 = i)) = true
  · rw [if_pos h, if_pos ((any_keys i es).mp h), keys_over]
  · rw [if_neg h, if_neg (fun z => h ((any_keys i es).mpr z))]
    unfold keysE; rw [List.map_append]; rfl
theorem mem_put {es : List (Int × D)} {i j : Int} {d : D} : j ∈ keysE (putE es i d) ↔ j ∈ keysE es ∨ j = i := by
  rw [keys_put]
  split
  · rename_i h
    exact ⟨.inl, fun z => z.elim id fun e => e ▸ h⟩
  · rw [List.mem_append, List.mem_singleton]
theorem nodup_put {es : List (Int × D)} {i : Int} {d : D} (h : (keysE es).Nodup) : (keysE (putE es i d)).Nodup := by
  rw [keys_put]
  split
  · exact h
  · rename_i hn
    exact List.nodup_append.mpr ⟨h, by simp, fun a ha b hb => by rw [List.mem_singleton.mp hb]; exact fun z => hn (z ▸ ha)⟩
theorem mem_merge : ∀ {fs es : List (Int × D)} {j : Int}, j ∈ keysE (mergeE es fs) ↔ j ∈ keysE es ∨ j ∈ keysE fs
  | [], es, j => ⟨.inl, fun z => z.elim id fun h => by cases h⟩
  | p :: fs, es, j => by
    show j ∈ keysE (mergeE (putE es p.1 p.2) fs) ↔ _
    rw [mem_merge, mem_put]
    show _ ↔ j ∈ keysE es ∨ j ∈ p.1 :: keysE fs
    rw [List.mem_cons, or_assoc]
theorem nodup_merge : ∀ {fs es : List (Int × D)}, (keysE es).Nodup → (keysE (mergeE es fs)).Nodup
  | [], _, h => h
  | p :: fs, es, h => nodup_merge (fs := fs) (es := putE es p.1 p.2) (nodup_put h)
theorem true_go : ∀ (ns : List Int) (es : List (Int × D)), (keysE es).Nodup → (keysE (ns.foldl (fun es i => putE es i (.bool true)) es)).Nodup ∧ ∀ j, j ∈ keysE (ns.foldl (fun es i => putE es i (.bool true)) es) ↔ j ∈ keysE es ∨ j ∈ ns
  | [], es, h => ⟨h, fun j => ⟨.inl, fun z => z.elim id fun h => by cases h⟩⟩
  | n :: ns, es, h => by
    obtain ⟨h1, h2⟩ := true_go ns (putE es n (.bool true)) (nodup_put h)
    refine ⟨h1, fun j => ?_⟩
    show j ∈ keysE (ns.foldl _ (putE es n (.bool true))) ↔ _
    rw [h2, mem_put, List.mem_cons, or_assoc]
theorem nodup_true (ns : List Int) : (keysE (trueE ns)).Nodup := (true_go ns [] List.nodup_nil).1
theorem mem_true {ns : List Int} {j : Int} : j ∈ keysE (trueE ns) ↔ j ∈ ns := by
  rw [show trueE ns = ns.foldl (fun es i => putE es i (.bool true)) [] from rfl, (true_go ns [] List.nodup_nil).2 j]
  exact ⟨fun z => z.elim (fun h => by cases h) id, .inr⟩
theorem keys_len {es : List (Int × D)} {n : Nat} (h : (keysE es).Nodup) (hb : ∀ p ∈ keysE es, 0 ≤ p ∧ p < n) : es.length ≤ n := by
  have := sub_len (ys := irange 0 n) h fun i hi => mem_irange.mpr (hb i hi)
  unfold keysE at this
  rw [List.length_map, irange_len] at this
  omega
/-! ### grown till it leans -/
def grewB (ws lot : List Int) (b : Bool) (p : Int) : Bool := lot.any fun q => decide (p ∈ deepB ws q b)
theorem grewB_iff {ws lot : List Int} {b : Bool} {p : Int} : grewB ws lot b p = true ↔ ∃ q ∈ lot, p ∈ beyL ws.length q b ∧ gI ws q < gI ws p := by
  unfold grewB
  rw [List.any_eq_true]
  constructor
  · rintro ⟨q, h1, h2⟩
    have := List.mem_filter.mp (of_decide_eq_true h2)
    exact ⟨q, h1, this.1, of_decide_eq_true this.2⟩
  · rintro ⟨q, h1, h2, h3⟩
    exact ⟨q, h1, decide_eq_true (List.mem_filter.mpr ⟨h2, decide_eq_true h3⟩)⟩
def growL (ws lot : List Int) (b : Bool) : List Int := (irange 0 ws.length).filter fun p => decide (p ∈ lot) || grewB ws lot b p
theorem mem_growL {ws lot : List Int} {b : Bool} {p : Int} (h : okL ws.length lot) : p ∈ growL ws lot b ↔ p ∈ lot ∨ grewB ws lot b p = true := by
  unfold growL
  rw [List.mem_filter, mem_irange, Bool.or_eq_true, decide_eq_true_iff]
  refine ⟨fun z => z.2, fun z => ⟨?_, z⟩⟩
  rcases z with z | z
  · exact h.2 p z
  · obtain ⟨q, h1, h2, _⟩ := grewB_iff.mp z
    exact bey_in (h.2 q h1) h2
theorem growL_ok (ws lot : List Int) (b : Bool) : okL ws.length (growL ws lot b) := ⟨(irange_lt _ _).filter _, fun p hp => mem_irange.mp (List.mem_filter.mp hp).1⟩
theorem growL_lean {ws lot : List Int} {b : Bool} (h : okL ws.length lot) : leanP ws (growL ws lot b) b := by
  intro p hp q hq hd
  rw [mem_growL h] at hp ⊢
  refine .inr (grewB_iff.mpr ?_)
  rcases hp with hp | hp
  · exact ⟨p, hp, hq, hd⟩
  · obtain ⟨u, h1, h2, h3⟩ := grewB_iff.mp hp
    exact ⟨u, h1, bey_trans h2 hq, by omega⟩
theorem growL_same {ws lot : List Int} {b : Bool} (h : okL ws.length lot) (hl : leanP ws lot b) : growL ws lot b = lot :=
  rise_uniq (growL_ok ws lot b).1 h.1 fun p => by
    rw [mem_growL h]
    refine ⟨fun z => z.elim id fun z => ?_, .inl⟩
    obtain ⟨q, h1, h2, h3⟩ := grewB_iff.mp z
    exact hl q h1 p h2 h3
def lowL (ws lot : List Int) (b : Bool) : List Int := lot.filter fun p => !grewB ws lot b p
theorem lowL_ok {ws lot : List Int} {b : Bool} (h : okL ws.length lot) : okL ws.length (lowL ws lot b) := h.filter _
theorem growL_low {ws lot : List Int} {b : Bool} (h : okL ws.length lot) (hl : leanP ws lot b) : growL ws (lowL ws lot b) b = lot := by
  refine rise_uniq (growL_ok ws _ b).1 h.1 fun p => ?_
  rw [mem_growL (lowL_ok h)]
  constructor
  · rintro (z | z)
    · exact (List.mem_filter.mp z).1
    · obtain ⟨q, h1, h2, h3⟩ := grewB_iff.mp z
      exact hl q (List.mem_filter.mp h1).1 p h2 h3
  · intro hp
    -- from the nearest of the lesser ones down
    have go : ∀ (n : Nat) (p : Int), p ∈ lot → (if b then p else (ws.length : Int) - p) < n → p ∈ lowL ws lot b ∨ grewB ws (lowL ws lot b) b p = true := by
      intro n
      induction n with
      | zero =>
        intro p hp hn
        have := h.2 p hp
        cases b <;> simp only [Bool.false_eq_true, if_false, if_true] at hn <;> omega
      | succ n ih =>
        intro p hp hn
        by_cases hg : grewB ws lot b p = true
        · obtain ⟨q, h1, h2, h3⟩ := grewB_iff.mp hg
          have hq := h.2 q h1
          have hpb := h.2 p hp
          have hlt : (if b then q else (ws.length : Int) - q) < n := by
            rw [mem_beyL] at h2
            cases b <;> simp only [Bool.false_eq_true, if_false, if_true] at h2 hn ⊢ <;> omega
          rcases ih q h1 hlt with z | z
          · exact .inr (grewB_iff.mpr ⟨q, z, h2, h3⟩)
          · obtain ⟨u, g1, g2, g3⟩ := grewB_iff.mp z
            exact .inr (grewB_iff.mpr ⟨u, g1, bey_trans g2 h2, by omega⟩)
        · exact .inl (List.mem_filter.mpr ⟨hp, by simpa using hg⟩)
    have hb := h.2 p hp
    exact go (ws.length + 1) p hp (by cases b <;> simp only [Bool.false_eq_true, if_false, if_true] <;> omega)
/-! ### what hinders, as a law tells it -/
def bareW (ws lot : List Int) (b : Bool) (q : Int) : List Int := (lbeyL ws.length q b).filter fun r => decide (gI ws q < gI ws r) && !decide (r ∈ lot)
theorem mem_bareW {ws lot : List Int} {b : Bool} {q r : Int} : r ∈ bareW ws lot b q ↔ r ∈ bareB ws lot q b := by
  unfold bareW
  rw [List.mem_filter, mem_bareB, mem_lbeyL, mem_beyL, Bool.and_eq_true, decide_eq_true_iff, Bool.not_eq_true', decide_eq_false_iff_not]
def hindE (ws lot : List Int) (b : Bool) (xs : List Int) : List (Int × D) := (xs.filter fun q => !(bareW ws lot b q).isEmpty).map fun q => (q, .list ((bareW ws lot b q).map .int))
theorem keys_hindE (ws lot : List Int) (b : Bool) (xs : List Int) : keysE (hindE ws lot b xs) = xs.filter fun q => !(bareW ws lot b q).isEmpty := by
  unfold keysE hindE; rw [List.map_map]; exact List.map_id' _
theorem hindE_put {ws lot : List Int} {b : Bool} {xs : List Int} {q : Int} (hq : q ∉ xs) (h : (bareW ws lot b q).isEmpty = false) : putE (hindE ws lot b xs) q (.list ((bareW ws lot b q).map .int)) = hindE ws lot b (xs ++ [q]) := by
  unfold putE
  rw [if_neg (fun z => by
    have := (any_keys q _).mp z
    rw [keys_hindE] at this
    exact hq (List.mem_filter.mp this).1)]
  unfold hindE
  rw [List.filter_append, List.map_append]
  congr 1
  rw [List.filter_cons, h]; rfl
theorem hindE_skip {ws lot : List Int} {b : Bool} {xs : List Int} {q : Int} (h : (bareW ws lot b q).isEmpty = true) : hindE ws lot b xs = hindE ws lot b (xs ++ [q]) := by
  unfold hindE
  rw [List.filter_append, List.map_append, List.filter_cons, h]
  simp
theorem hindE_len (ws lot : List Int) (b : Bool) (xs : List Int) : (hindE ws lot b xs).length ≤ xs.length := by
  unfold hindE; rw [List.length_map]; exact List.length_filter_le _ _
theorem valE_hind {ws lot : List Int} {b : Bool} : ∀ {xs : List Int} {q : Int}, q ∈ keysE (hindE ws lot b xs) → valE (hindE ws lot b xs) q = some (.list ((bareW ws lot b q).map .int))
  | [], q, h => by cases h
  | x :: xs, q, h => by
    by_cases hx : (bareW ws lot b x).isEmpty = true
    · have e : hindE ws lot b (x :: xs) = hindE ws lot b xs := by unfold hindE; rw [List.filter_cons, hx]; rfl
      rw [e] at h ⊢
      exact valE_hind h
    · have hx : (bareW ws lot b x).isEmpty = false := by simpa using hx
      have e : hindE ws lot b (x :: xs) = (x, .list ((bareW ws lot b x).map .int)) :: hindE ws lot b xs := by unfold hindE; rw [List.filter_cons, hx]; rfl
      rw [e] at h ⊢
      unfold valE
      rw [List.find?_cons]
      by_cases z : x = q
      · subst z; rw [decide_eq_true rfl]; rfl
      · rw [decide_eq_false z]
        rcases List.mem_cons.mp h with h | h
        · exact absurd h.symm z
        · exact valE_hind h
theorem hindE_none {ws lot : List Int} {b : Bool} : (hindE ws lot b lot).isEmpty = true ↔ leanP ws lot b := by
  rw [← leanB_iff]
  unfold leanB
  rw [List.isEmpty_iff, List.isEmpty_iff]
  unfold hindE hindL
  rw [List.map_eq_nil_iff, List.filter_eq_nil_iff, List.filter_eq_nil_iff]
  refine forall_congr' fun q => forall_congr' fun _ => ?_
  have : (bareW ws lot b q).isEmpty = true ↔ bareB ws lot q b = [] := by
    rw [List.isEmpty_iff]
    constructor
    · intro e; exact List.eq_nil_iff_forall_not_mem.mpr fun r hr => by rw [← mem_bareW, e] at hr; cases hr
    · intro e; exact List.eq_nil_iff_forall_not_mem.mpr fun r hr => by rw [mem_bareW, e] at hr; cases hr
  rw [Bool.not_eq_true', Bool.not_eq_false, this, decide_eq_true_iff]
  constructor
  · intro e; rw [e]; decide
  · intro e; exact List.length_eq_zero_iff.mp (by omega)
end Lw

/-! Vb: data of any kind, bounded. -/
namespace Lw
open PySem PySem.Spec PyProof.Rows L2 Pv
theorem ne_pos {α : Type} : ∀ {l : List α}, l.isEmpty = false → (0 : Int) < l.length
  | [], h => by cases h
  | _ :: l, _ => Int.natCast_pos.mpr (Nat.zero_lt_succ l.length)
/-- what a law's part that is asked more than once is to show -/
def ph__law_rightB : Phi := fun args R => ∃ (m : Nat) (xd : D), args = [ow xd] ∧ Bk (m + 2 ^ 40) (ow xd) ∧ ∀ x', Bk m (ow x') → R (sh (.bool true)) [ow x']
/-- at most n levels, of at most L things each, ints to M, short texts -/
def anyP (L M : Nat) : Nat → D → Prop
  | _, .none => True
  | _, .bool _ => True
  | _, .int i => i.natAbs ≤ M
  | _, .str x => PyData.strOk x = true ∧ x.length ≤ 20
  | n + 1, .list ds => ds.length ≤ L ∧ ∀ d ∈ ds, anyP L M n d
  | n + 1, .tuple ds => ds.length ≤ L ∧ ∀ d ∈ ds, anyP L M n d
  | 0, .list _ => False
  | 0, .tuple _ => False
  | _, .dict _ => False
section
variable {L M : Nat}
theorem anyP_non {n : Nat} : anyP L M n .none := by cases n <;> trivial
theorem anyP_bl {n : Nat} {b : Bool} : anyP L M n (.bool b) := by cases n <;> trivial
theorem anyP_int {n : Nat} {i : Int} : anyP L M n (.int i) ↔ i.natAbs ≤ M := by cases n <;> exact Iff.rfl
theorem anyP_str {n : Nat} {x : Str} : anyP L M n (.str x) ↔ PyData.strOk x = true ∧ x.length ≤ 20 := by cases n <;> exact Iff.rfl
theorem anyP_dict {n : Nat} {kvs : List (D × D)} : ¬ anyP L M n (.dict kvs) := by cases n <;> exact fun h => h
theorem anyP_list {n : Nat} {ds : List D} : anyP L M n (.list ds) ↔ ∃ k, n = k + 1 ∧ ds.length ≤ L ∧ ∀ d ∈ ds, anyP L M k d := by
  cases n with
  | zero => exact ⟨fun h => h.elim, fun ⟨k, h, _⟩ => by cases h⟩
  | succ n => exact ⟨fun h => ⟨n, rfl, h⟩, fun ⟨k, h, h2⟩ => by cases h; exact h2⟩
theorem anyP_tup {n : Nat} {ds : List D} : anyP L M n (.tuple ds) ↔ ∃ k, n = k + 1 ∧ ds.length ≤ L ∧ ∀ d ∈ ds, anyP L M k d := by
  cases n with
  | zero => exact ⟨fun h => h.elim, fun ⟨k, h, _⟩ => by cases h⟩
  | succ n => exact ⟨fun h => ⟨n, rfl, h⟩, fun ⟨k, h, h2⟩ => by cases h; exact h2⟩
theorem anyP_mono {L' M' : Nat} (hL : L ≤ L') (hM : M ≤ M') : ∀ (n m : Nat) (d : D), n ≤ m → anyP L M n d → anyP L' M' m d
  | n, m, .none, _, _ => anyP_non
  | n, m, .bool _, _, _ => anyP_bl
  | n, m, .int i, _, h => anyP_int.mpr (Nat.le_trans (anyP_int.mp h) hM)
  | n, m, .str x, _, h => anyP_str.mpr (anyP_str.mp h)
  | n + 1, m + 1, .list ds, hn, h => ⟨Nat.le_trans h.1 hL, fun d hd => anyP_mono hL hM n m d (by omega) (h.2 d hd)⟩
  | n + 1, m + 1, .tuple ds, hn, h => ⟨Nat.le_trans h.1 hL, fun d hd => anyP_mono hL hM n m d (by omega) (h.2 d hd)⟩
  | 0, _, .list _, _, h => h.elim
  | 0, _, .tuple _, _, h => h.elim
  | _ + 1, 0, _, hn, _ => by omega
  | n, _, .dict _, _, h => (anyP_dict h).elim
theorem strG_flat {n : Nat} {x : Str} (h : PyData.strOk x = true) : dep n (.str x) = true := dep_mono 0 n _ (Nat.zero_le _) (by
  show (flatD (.str x) && (PyData.str x).canLay0) = true
  rw [show (PyData.str x).canLay0 = true from h]; rfl)
theorem anyP_dep : ∀ (n : Nat) (d : D), anyP L M n d → dep n d = true
  | n, .none, _ => by cases n <;> rfl
  | n, .bool _, _ => by cases n <;> rfl
  | n, .int _, _ => by cases n <;> rfl
  | n, .str x, h => strG_flat (anyP_str.mp h).1
  | n + 1, .list ds, h => List.all_eq_true.mpr fun d hd => anyP_dep n d (h.2 d hd)
  | n + 1, .tuple ds, h => List.all_eq_true.mpr fun d hd => anyP_dep n d (h.2 d hd)
  | 0, .list _, h => h.elim
  | 0, .tuple _, h => h.elim
  | n, .dict _, h => (anyP_dict h).elim
/-- how long its text may be -/
def rbL (L : Nat) : Nat → Nat
  | 0 => 210
  | n + 1 => (rbL L n + 2) * L + 213
theorem rbL_ge (L : Nat) : ∀ n, 210 ≤ rbL L n
  | 0 => Nat.le_refl _
  | n + 1 => by show 210 ≤ (rbL L n + 2) * L + 213; omega
theorem anyP_rep (hM : M < 10 ^ 19) : ∀ (n : Nat) (d : D), anyP L M n d → Rep n (rbL L n) d
  | n, .none, _ => ⟨rfl, rfl, Nat.zero_le _, Nat.le_trans (show (4 : Nat) ≤ 210 by decide) (rbL_ge L n)⟩
  | n, .bool b, _ => ⟨rfl, rfl, Nat.zero_le _, Nat.le_trans (by cases b <;> decide +kernel : (PyData.bool b).shown.length ≤ 210) (rbL_ge L n)⟩
  | n, .int i, h => (Rep.int (Nat.lt_of_le_of_lt (anyP_int.mp h) hM)).mono (Nat.zero_le _) (Nat.le_trans (by decide) (rbL_ge L n))
  | n, .str x, h => ⟨(anyP_str.mp h).1, rfl, Nat.zero_le _, Nat.le_trans (by
      have hs := anyP_str.mp h
      have h1 := StrLaws.reprText_len x (fun c hc => by
        have h2 := hs.1
        unfold PyData.strOk at h2
        rw [← Array.all_toList] at h2
        have := of_decide_eq_true (List.all_eq_true.mp h2 c hc)
        exact Nat.lt_trans this (by decide))
      show (reprText x).length ≤ 210
      have := hs.2
      omega) (rbL_ge L n)⟩
  | n + 1, .list ds, h => (Rep.list (m := n) (n := rbL L n) fun d hd => anyP_rep hM n d (h.2 d hd)).mono (Nat.le_refl _) (by
      show (rbL L n + 2) * ds.length + 3 ≤ (rbL L n + 2) * L + 213
      have := Nat.mul_le_mul_left (rbL L n + 2) h.1
      omega)
  | n + 1, .tuple ds, h => (Rep.tuple (m := n) (n := rbL L n) fun d hd => anyP_rep hM n d (h.2 d hd)).mono (Nat.le_refl _) (by
      show (rbL L n + 2) * ds.length + 3 ≤ (rbL L n + 2) * L + 213
      have := Nat.mul_le_mul_left (rbL L n + 2) h.1
      omega)
  | 0, .list _, h => h.elim
  | 0, .tuple _, h => h.elim
  | n, .dict _, h => (anyP_dict h).elim
theorem strG_int {i : Int} (h : i.natAbs < 10 ^ 19) : PyData.strOk (Str.ofString (toString i)) = true ∧ (Str.ofString (toString i)).length ≤ 20 := by
  refine ⟨?_, ?_⟩
  · unfold PyData.strOk
    rw [← Array.all_toList]
    refine List.all_eq_true.mpr fun c hc => decide_eq_true ?_
    refine Classical.byContradiction fun hz => ?_
    exact int_text_free' c ⟨by omega, by omega⟩ i hc
  · rw [PySem.ofString_length]
    exact int_text_length_le10 (k := 19) (by decide) h
end
theorem log_lt {i : Int} {M : Nat} (h : i.natAbs ≤ M) (hM : M ≤ 10 ^ 18) : i.natAbs.log2 < 1920 := by
  by_cases h0 : i.natAbs = 0
  · rw [h0]; decide
  · refine (Nat.log2_lt h0).mpr (Nat.lt_of_le_of_lt (Nat.le_trans h hM) ?_)
    exact Nat.lt_of_lt_of_le (show 10 ^ 18 < 2 ^ 60 by decide) (Nat.pow_le_pow_right (by decide) (by decide))
theorem ixN_pos {n : Nat} {t : Int} (h0 : 0 ≤ t) (h1 : t < n) : ixN n t = some t.toNat := by
  unfold ixN
  rw [if_pos h0, if_pos (by omega)]
section
variable {L M k : Nat} {ds : List D}
theorem any_items (hi : ∀ d ∈ ds, anyP L M k d) : ∀ d ∈ ds, anyP (L + 1) (M + 1) (k + 1) d := fun d hd => anyP_mono (by omega) (by omega) _ _ _ (by omega) (hi d hd)
theorem any_er (hl : ds.length ≤ L) (hi : ∀ d ∈ ds, anyP L M k d) (n : Nat) : anyP (L + 1) (M + 1) (k + 1 + 1) (.list (ds.eraseIdx n)) ∧ anyP (L + 1) (M + 1) (k + 1 + 1) (.tuple (ds.eraseIdx n)) := by
  have hs := List.eraseIdx_sublist ds n
  have h1 : (ds.eraseIdx n).length ≤ L + 1 := by have := hs.length_le; omega
  have h2 : ∀ d ∈ ds.eraseIdx n, anyP (L + 1) (M + 1) (k + 1) d := fun d hd => any_items hi d (hs.subset hd)
  exact ⟨⟨h1, h2⟩, ⟨h1, h2⟩⟩
theorem any_ins (hl : ds.length ≤ L) (hi : ∀ d ∈ ds, anyP L M k d) (n : Nat) {e : D} (he : e ∈ ds) : anyP (L + 1) (M + 1) (k + 1 + 1) (.list (ds.take n ++ [e] ++ ds.drop n)) ∧ anyP (L + 1) (M + 1) (k + 1 + 1) (.tuple (ds.take n ++ [e] ++ ds.drop n)) := by
  have h1 : (ds.take n ++ [e] ++ ds.drop n).length ≤ L + 1 := by rw [List.length_append, List.length_append, List.length_take, List.length_drop, List.length_singleton]; omega
  have h2 : ∀ d ∈ ds.take n ++ [e] ++ ds.drop n, anyP (L + 1) (M + 1) (k + 1) d := fun d hd => by
    refine any_items hi d ?_
    rcases List.mem_append.mp hd with hd | hd
    · rcases List.mem_append.mp hd with hd | hd
      · exact List.mem_of_mem_take hd
      · rw [List.mem_singleton.mp hd]; exact he
    · exact List.mem_of_mem_drop hd
  exact ⟨⟨h1, h2⟩, ⟨h1, h2⟩⟩
theorem any_set (hl : ds.length ≤ L) (hi : ∀ d ∈ ds, anyP L M k d) (n : Nat) {e : D} (he : anyP (L + 1) (M + 1) (k + 1) e) : anyP (L + 1) (M + 1) (k + 1 + 1) (.list (ds.set n e)) ∧ anyP (L + 1) (M + 1) (k + 1 + 1) (.tuple (ds.set n e)) := by
  have h1 : (ds.set n e).length ≤ L + 1 := by rw [List.length_set]; omega
  have h2 : ∀ d ∈ ds.set n e, anyP (L + 1) (M + 1) (k + 1) d := fun d hd => by
    rcases List.mem_or_eq_of_mem_set hd with hd | hd
    · exact any_items hi d hd
    · rw [hd]; exact he
  exact ⟨⟨h1, h2⟩, ⟨h1, h2⟩⟩
end
def obD : Option Bool → D
  | some b => .bool b
  | none => .none
theorem v_isOb {k k' : Nat} {o : Option Bool} {c : Bool} {R : KC} (q : R 0 (.bool (decide (o = some c)))) : ap2 oIsB (.v k (obD o)) (.v k' (.bool c)) R := ap2_op (by
  cases o with
  | none => exact q
  | some b =>
    show R 0 (.bool (decide (b = c)))
    have : decide (some b = some c) = decide (b = c) := by cases b <;> cases c <;> rfl
    rw [this] at q; exact q)
theorem v_notOb {k k' : Nat} {o : Option Bool} {c : Bool} {R : KC} (q : R 0 (.bool (!decide (o = some c)))) : ap2 oNotB (.v k (obD o)) (.v k' (.bool c)) R := ap2_op (by
  cases o with
  | none => exact q
  | some b =>
    show R 0 (.bool (!decide (b = c)))
    have : decide (some b = some c) = decide (b = c) := by cases b <;> cases c <;> rfl
    rw [this] at q; exact q)
/-- a comprehension over data of any kind -/
theorem lc_anyD (g : D → D) {own : List Nat} {tg : FG} {ft : FT} {fe : FE} {r : Res} {R : List D → Pv.Env → Prop} {E : Pv.Env} {X : List D}
    (step : ∀ x acc (N : List D → Pv.Env → Prop), x ∈ X → acc.length < sizeLine → N (acc ++ [g x]) E →
      toEnv (fun e1 => ft e1 fun b e2 => match b with
        | true => fe e2 fun ry e3 => noB [ry] ∧ acc.length < sizeLine ∧ N (acc ++ [ry.d]) (wipeE e3 own)
        | false => N acc (wipeE e2 own)) (tg x E))
    (hr : okb E r) (hl : Hold (X.length ≤ sizeLine)) (fin : R (X.map g) E) : apL (lcGo own tg ft fe r R) X [] E := by
  have := lc_mp id g (own := own) (tg := tg) (ft := ft) (fe := fe) (r := r) (R := R) (E := E) (X := X) step hr hl fin
  rwa [List.map_id] at this
theorem ix_in {ds : List D} {t : Int} (h0 : 0 ≤ t) (h1 : t < ds.length) : ∃ e, ix ds t = some e ∧ e ∈ ds ∧ ds[t.toNat]? = some e := by
  have hl : t.toNat < ds.length := by omega
  refine ⟨ds[t.toNat], ?_, List.getElem_mem hl, List.getElem?_eq_getElem hl⟩
  unfold ix
  rw [if_pos h0, List.getElem?_eq_getElem hl]
end Lw

namespace Lw
open PySem PySem.Spec PyProof.Rows L2 Pv
local macro_rules | `(tactic| row_room_at pv_il) => `(tactic| (repeat' (first | exact IL.nil | exact IL.map _ | apply IL.cons | apply IL.app)))
local macro_rules | `(tactic| row_room_at pv_rl) => `(tactic| (repeat' (first | exact RL.nil | exact RL.map _ | apply RL.consR | apply RL.consL | apply RL.consS | apply RL.app)))
local macro_rules | `(tactic| row_room_at pv_ev) => `(tactic| (repeat ((try (conv => whnf)); first | (with_reducible refine apP_op ?_) | (with_reducible refine apF_op ?_) | (with_reducible refine apL_op ?_) | (with_reducible refine ap2_op ?_) | (with_reducible refine apN_op ?_) | (with_reducible refine ap1_op ?_) | (with_reducible refine ovr_op ?_) | (with_reducible refine ovr2_op ?_) | (with_reducible refine ev_okb_v ?_) | (with_reducible refine ev_scr ?_) | ((with_reducible refine ev_okb ?_ ?_); exact rfl) | ((with_reducible refine ev_dis ?_ ?_); exact rfl) | ((with_reducible refine ev_noB ?_ ?_); exact trivial) | ((with_reducible refine ev_own ?_ ?_); exact trivial) | ((with_reducible refine ev_flat ?_ ?_); exact trivial) | ((with_reducible refine ev_flat ?_ ?_); exact Nat.le_refl 1) | ((with_reducible refine ev_away ?_ ?_); exact rfl) | ((with_reducible refine ev_lst ?_ ?_ ?_); exact trivial; exact rfl) | ((with_reducible refine ev_len ?_ ?_); exact rfl) | ((with_reducible refine ev_ix ?_ ?_); exact rfl) | ((with_reducible refine ev_aug ?_ ?_); exact rfl) | (refine unpk_tE ?_) | (refine unpk_lE ?_))); try (conv => whnf))
local macro_rules | `(tactic| row_room_at pv_cl) => `(tactic| (try simp only [List.getD_cons_zero, List.getD_cons_succ, putIos, startE, getC, List.map_cons, List.map_nil, List.cons_append, List.nil_append, List.replicate, List.length_cons, List.length_nil, List.set_cons_zero, List.set_cons_succ, Nat.reduceAdd, Nat.reduceSub, wipeE, back, List.getElem?_cons_zero, List.getElem?_cons_succ, Res.d_v, Res.d_b, dsOf, Nat.zero_add, Bool.false_eq_true, if_false, keepC_none]))
local macro_rules | `(tactic| row_room_at pv_sd) => `(tactic| (first | assumption | (apply wireOk.p; assumption) | exact Ints.t _ | exact Ints.l _ | exact StdS.o _ | exact StdS.mk _ _ _ | exact StdS.ml _ _ _ | exact Row.l _ | exact Row.t _ | exact Row.wl _ _ | exact Row.wt _ _ | exact Sq.t _ | exact Sq.l _ | exact Ints.t0 | exact Ints.l0 | exact Row.l0 | exact Row.t0 | exact StdS.mk0 _ _ | exact Row.l1 _ _ | exact Row.l1r _ | exact Row.l1l _ | (apply Ints.ofIL; row_room_at pv_il; done) | (apply Ints.ofILt; row_room_at pv_il; done) | (apply Row.ofRL; row_room_at pv_rl; done) | (apply Row.ofRLt; row_room_at pv_rl; done)))
local macro_rules | `(tactic| row_room_at pv_fl) => `(tactic| (first | exact trivial | exact Nat.le_refl 1))
local macro_rules | `(tactic| row_room_at pv_nb) => `(tactic| (first | exact nb_dS _ | exact nb_tupI _ | exact nb_listI _ | exact nb_int _ | exact nb_non | exact nb_side _ | exact nb_nil | exact nb_nilT | exact nb_row _ | exact nb_sides _ | (refine nb_ints ?_; assumption)))
local macro_rules | `(tactic| row_room_at pv_oks) => `(tactic| (repeat' (first | (with_reducible assumption) | omega | refine ledS_ok _ ?_ | refine tiltS_ok ?_ _ _ | refine iterS_ok _ ?_ | refine inT0_ok ?_ _)))
local macro_rules | `(tactic| row_room_at pv_sdn) => `(tactic| (first | (apply wireOk.p; assumption) | exact Ints.t _ | exact Ints.l _ | exact StdS.o _ | exact StdS.mk _ _ _ | exact StdS.ml _ _ _ | exact Row.l _ | exact Row.t _ | exact Row.wl _ _ | exact Row.wt _ _ | exact Sq.t _ | exact Sq.l _ | exact Ints.t0 | exact Ints.l0 | exact Row.l0 | exact Row.t0 | exact StdS.mk0 _ _ | exact Row.l1 _ _ | exact Row.l1r _ | exact Row.l1l _ | (apply Ints.ofIL; row_room_at pv_il; done) | (apply Ints.ofILt; row_room_at pv_il; done) | (apply Row.ofRL; row_room_at pv_rl; done) | (apply Row.ofRLt; row_room_at pv_rl; done)))
local macro_rules | `(tactic| row_room_at pv_hs) => `(tactic| (refine Hold.mk ?_; first | (with_reducible assumption) | omega | row_room_at pv_nb | (simp only [Int.reduceToNat, List.length_map, List.length_reverse, List.length_append, List.length_cons, List.length_nil, srt_len, irange_len, List.length_take, List.length_drop, inT0_len] <;> omega) | (dsimp only; first | (with_reducible assumption) | omega | (simp only [Int.reduceToNat, List.length_map, List.length_reverse, List.length_append, List.length_cons, List.length_nil, srt_len, irange_len, List.length_take, List.length_drop, inT0_len] <;> omega)) | exact rfl | exact trivial | (exact pos_of_ne (by assumption)) | (refine flt_le ?_; simp only [Int.reduceToNat, List.length_map, List.length_reverse, List.length_append, List.length_cons, List.length_nil, srt_len, irange_len, List.length_take, List.length_drop, inT0_len] <;> omega) | (refine flt_lt ?_; simp only [Int.reduceToNat, List.length_map, List.length_reverse, List.length_append, List.length_cons, List.length_nil, srt_len, irange_len, List.length_take, List.length_drop, inT0_len] <;> omega) | (row_room_at pv_oks; done) | (apply okS.le; (focus (row_room_at pv_oks; done)); omega) | row_room_at pv_sdn | decide))
local macro_rules | `(tactic| row_room_at pv_ok) => `(tactic| (repeat' (first | exact okD_int | exact okD_opt | exact okD_bl | exact okD_non | exact okD_side | (refine okD_dS ?_; try row_room_at pv_hs) | refine okDs_nil | refine okDs_cons ?_ ?_ | (refine okD_L ?_ ?_; try row_room_at pv_hs) | (refine okD_T ?_ ?_; try row_room_at pv_hs) | (refine okDs_map ?_; intro y hy))))
local macro_rules | `(tactic| row_room_at pv_and) => `(tactic| (first | (with_reducible refine ev_okb_v ?_) | (with_reducible refine ev_scr ?_) | ((with_reducible refine ev_okb ?_ ?_); exact rfl) | ((with_reducible refine ev_dis ?_ ?_); exact rfl) | ((with_reducible refine ev_noB ?_ ?_); exact trivial) | ((with_reducible refine ev_own ?_ ?_); exact trivial) | ((with_reducible refine ev_flat ?_ ?_); exact trivial) | ((with_reducible refine ev_flat ?_ ?_); exact Nat.le_refl 1) | ((with_reducible refine ev_away ?_ ?_); exact rfl) | ((with_reducible refine ev_lst ?_ ?_ ?_); exact trivial; exact rfl) | ((with_reducible refine ev_len ?_ ?_); exact rfl) | ((with_reducible refine ev_ix ?_ ?_); exact rfl) | ((with_reducible refine ev_aug ?_ ?_); exact rfl) | ((with_reducible refine And.intro ?_ ?_); (focus (first | exact True.intro | exact rfl | exact ⟨trivial, trivial⟩ | exact ⟨trivial, Nat.le_refl 1⟩))) | ((with_reducible refine And.intro ?_ ?_); (focus with_reducible assumption)) | ((with_reducible refine And.intro lend_no ?_); simp only [lendG, keepC_0, keepC_none, Nat.reduceBEq, Nat.reduceAdd, Nat.zero_add, List.contains_nil, Bool.or_false, cond_true, cond_false, BEq.rfl]) | (refine And.intro (lend_bx (by with_reducible assumption)) ?_) | (((with_reducible refine ev_pow ?_ ?_); (focus decide))) | (((with_reducible refine ev_cat ?_ ?_ ?_ ?_); (focus row_room_at pv_fl); (focus row_room_at pv_fl); (first | (focus row_room_at pv_hs) | rotate_left))) | (((with_reducible refine ev_div ?_ ?_ ?_); (focus row_room_at pv_hs); (focus row_room_at pv_hs))) | (((with_reducible refine ev_rg ?_ ?_ ?_ ?_); all_goals (try row_room_at pv_hs); all_goals (try simp only [rngD_eq]))) | (((with_reducible refine ev_rgdn ?_ ?_ ?_); all_goals (try row_room_at pv_hs); all_goals (try simp only [rngDn_eq]))) | (((with_reducible refine ev_r1 ?_ ?_ ?_); all_goals (try row_room_at pv_hs); all_goals (try simp only [rngD_eq]))) | (((with_reducible refine ev_r2 ?_ ?_ ?_ ?_ ?_); all_goals (try row_room_at pv_hs); all_goals (try simp only [rngD_eq]))) | (((with_reducible refine ev_sz ?_ ?_); (first | (focus row_room_at pv_hs) | rotate_left))) | (((with_reducible refine ev_szl ?_ ?_); (first | (focus row_room_at pv_hs) | rotate_left)))))
local macro_rules | `(tactic| row_room_at pv_op2) => `(tactic| (first | ((refine v_in (by row_room_at pv_sd) ?_)) | ((refine v_notIn (by row_room_at pv_sd) ?_)) | ((with_reducible refine v_ixD1 ?_)) | (((with_reducible refine v_reprV ?_ ?_); (first | (focus row_room_at pv_hs) | rotate_left))) | (((with_reducible refine v_reprB ?_ ?_); (first | (focus row_room_at pv_hs) | rotate_left))) | ((with_reducible refine v_eqW ?_)) | ((with_reducible refine v_neW ?_)) | ((refine v_ixS0 (by assumption) ?_)) | ((refine v_ixS1 (by assumption) ?_; intro dl hdl)) | ((refine v_ixS2 (by assumption) ?_)) | ((refine v_eqNL rfl rfl ?_ ?_; (first | (focus row_room_at pv_hs) | rotate_left))) | ((refine v_neNL rfl rfl ?_ ?_; (first | (focus row_room_at pv_hs) | rotate_left))) | ((refine v_eqNT rfl rfl ?_ ?_; (first | (focus row_room_at pv_hs) | rotate_left))) | ((refine v_neNT rfl rfl ?_ ?_; (first | (focus row_room_at pv_hs) | rotate_left))) | ((with_reducible refine v_eqD (by with_reducible assumption) ?_)) | ((with_reducible refine v_neD (by with_reducible assumption) ?_)) | ((with_reducible refine v_eqO ?_)) | ((with_reducible refine v_neOO ?_)) | ((with_reducible refine v_eqR ?_)) | ((with_reducible refine v_eqL ?_)) | ((with_reducible refine v_eqSS ?_)) | ((with_reducible refine v_eqS ?_)) | ((with_reducible refine v_neS ?_)) | ((with_reducible refine v_eqI ?_)) | ((with_reducible refine v_neI ?_)) | ((with_reducible refine v_eqTT ?_)) | ((with_reducible refine v_neTT ?_)) | ((with_reducible refine v_eqLL ?_)) | ((with_reducible refine v_neLL ?_)) | ((refine v_ixA rfl (by row_room_at pv_fl) ?_)) | ((refine v_ixF rfl (by row_room_at pv_fl) (by with_reducible assumption) ?_)) | ((refine v_ixLI (by row_room_at pv_sd) (by row_room_at pv_fl) ?_ ?_; (first | (focus row_room_at pv_hs) | rotate_left))) | ((refine v_ixL (by row_room_at pv_sd) (by row_room_at pv_fl) ?_ ?_; (first | (focus row_room_at pv_hs) | rotate_left); intro y hy)) | ((refine v_ixI (by row_room_at pv_sd) (by row_room_at pv_fl) ?_ ?_ ?_; (first | (focus row_room_at pv_hs) | rotate_left); (first | (focus row_room_at pv_hs) | rotate_left))) | ((refine v_ixM (.inl rfl) (by row_room_at pv_fl) ?_ ?_ ?_; (first | (focus row_room_at pv_hs) | rotate_left); (first | (focus row_room_at pv_hs) | rotate_left))) | ((refine v_ixM (.inr rfl) (by row_room_at pv_fl) ?_ ?_ ?_; (first | (focus row_room_at pv_hs) | rotate_left); (first | (focus row_room_at pv_hs) | rotate_left))) | ((refine v_index rfl (by row_room_at pv_fl) ?_ ?_; (first | (focus row_room_at pv_hs) | rotate_left))) | ((refine v_catL rfl rfl (by row_room_at pv_fl) (by row_room_at pv_fl) ?_ ?_; (first | (focus row_room_at pv_hs) | rotate_left))) | ((refine v_catT rfl rfl (by row_room_at pv_fl) (by row_room_at pv_fl) ?_ ?_; (first | (focus row_room_at pv_hs) | rotate_left))) | ((refine v_catIL rfl rfl (by row_room_at pv_il) (by row_room_at pv_il) (by row_room_at pv_fl) (by row_room_at pv_fl) ?_ ?_; (first | (focus row_room_at pv_hs) | rotate_left))) | ((refine v_catIT rfl rfl (by row_room_at pv_il) (by row_room_at pv_il) (by row_room_at pv_fl) (by row_room_at pv_fl) ?_ ?_; (first | (focus row_room_at pv_hs) | rotate_left))) | ((refine v_rep rfl (by row_room_at pv_fl) ?_ ?_ ?_ ?_; (first | (focus row_room_at pv_hs) | rotate_left); (first | (focus row_room_at pv_hs) | rotate_left); (first | (focus row_room_at pv_hs) | rotate_left))) | (((with_reducible refine v_mulR ?_ ?_ ?_); (focus row_room_at pv_hs); (focus row_room_at pv_hs))) | (((with_reducible refine v_mulL ?_ ?_ ?_); (focus row_room_at pv_hs); (focus row_room_at pv_hs))) | (((refine v_repT rfl ?_ ?_ ?_); (focus row_room_at pv_hs); (focus row_room_at pv_hs))) | ((with_reducible refine v_isOb ?_)) | ((with_reducible refine v_notOb ?_)) | ((refine v_inB rfl ?_)) | ((refine v_eqD0 rfl rfl ?_)) | ((refine v_neD0 rfl rfl ?_)) | ((refine v_ixK rfl (by with_reducible assumption) ?_)) | (with_reducible refine ap2_op ?_)))
local macro_rules | `(tactic| row_room_at pv_opN) => `(tactic| (first | ((refine v_lenI (by row_room_at pv_sd) ?_)) | ((refine v_lenM (by row_room_at pv_sd) ?_)) | ((refine v_len (by row_room_at pv_sd) ?_)) | ((refine v_list (by row_room_at pv_sd) (by row_room_at pv_fl) ?_)) | ((refine v_tuple (by row_room_at pv_sd) (by row_room_at pv_fl) ?_)) | ((refine v_sorted rfl (by row_room_at pv_fl) ?_)) | ((refine v_sortedS rfl (by row_room_at pv_fl) ?_ (fun us hus hum hul => ?_); (focus row_room_at pv_hs))) | ((refine v_sortedS1 rfl (by row_room_at pv_fl) ?_ (fun us hus hum hul => ?_); (focus row_room_at pv_hs))) | ((refine v_sortedT rfl ?_)) | ((refine v_sortedI (by row_room_at pv_sd) (by row_room_at pv_fl) ?_)) | ((refine v_sortedP rfl (by row_room_at pv_fl) (fun ps2 hps2 => ?_))) | ((refine v_maxDf rfl (by row_room_at pv_fl) ?_)) | ((refine v_max (by row_room_at pv_sd) (by row_room_at pv_fl) ?_ ?_; (first | (focus row_room_at pv_hs) | rotate_left))) | ((refine v_min (by row_room_at pv_sd) (by row_room_at pv_fl) ?_ ?_; (first | (focus row_room_at pv_hs) | rotate_left))) | ((refine v_all rfl trivial ?_)) | ((refine v_any rfl trivial ?_)) | (((with_reducible refine v_reprV ?_ ?_); (first | (focus row_room_at pv_hs) | rotate_left))) | (((with_reducible refine v_reprB ?_ ?_); (first | (focus row_room_at pv_hs) | rotate_left))) | ((refine v_listD rfl ?_)) | (with_reducible refine apN_op ?_)))
local macro_rules | `(tactic| row_room_at pv_op1) => `(tactic| (first | ((refine v_revL rfl (by row_room_at pv_fl) ?_)) | ((refine v_revT rfl (by row_room_at pv_fl) ?_)) | ((refine v_fwdL rfl (by row_room_at pv_fl) ?_)) | ((refine v_fwdT rfl (by row_room_at pv_fl) ?_)) | ((refine v_slButL rfl (by row_room_at pv_fl) ?_)) | ((refine v_slButT rfl ?_)) | ((refine v_slMidL rfl (by row_room_at pv_fl) ?_)) | ((refine v_slLastL rfl (by row_room_at pv_fl) ?_)) | ((refine v_slInL rfl (by row_room_at pv_fl) ?_ ?_ ?_; (first | (focus row_room_at pv_hs) | rotate_left); (first | (focus row_room_at pv_hs) | rotate_left))) | ((refine v_slInT rfl ?_ ?_ ?_; (first | (focus row_room_at pv_hs) | rotate_left); (first | (focus row_room_at pv_hs) | rotate_left))) | ((refine v_slToL rfl (by row_room_at pv_fl) ?_ ?_; (first | (focus row_room_at pv_hs) | rotate_left))) | ((refine v_slToT rfl (by row_room_at pv_fl) ?_ ?_; (first | (focus row_room_at pv_hs) | rotate_left))) | ((refine v_slFromL rfl (by row_room_at pv_fl) ?_ ?_; (first | (focus row_room_at pv_hs) | rotate_left))) | ((refine v_slFromT rfl (by row_room_at pv_fl) ?_ ?_; (first | (focus row_room_at pv_hs) | rotate_left))) | ((with_reducible refine v_isT ?_)) | ((with_reducible refine v_isL ?_)) | ((with_reducible refine v_isS ?_)) | ((with_reducible refine v_isB ?_)) | ((with_reducible refine v_isI ?_)) | ((with_reducible refine v_isLT ?_)) | ((with_reducible refine v_lkS ?_)) | ((with_reducible refine v_isOb ?_)) | (with_reducible refine ap1_op ?_)))
local macro_rules | `(tactic| row_room_at pv_ov) => `(tactic| (first | ((refine v_seqP (by assumption) ?_; intro wr k1 d1)) | ((refine v_seq (by row_room_at pv_sd) ?_; intro k1 d1)) | ((refine v_enum (by row_room_at pv_sd) ?_)) | ((refine v_enumM (.inl rfl) ?_)) | ((refine v_enumM (.inr rfl) ?_)) | (with_reducible refine ovr_op ?_)))
local macro_rules | `(tactic| row_room_at pv_ov2) => `(tactic| (first | (with_reducible refine ovr2_op ?_)))
local macro_rules | `(tactic| row_room_at pv_late) => `(tactic| (first | (refine ev_onD ?_) | (refine ev_onInts ?_) | (refine ev_at1D ?_) | (refine v_unpP ?_) | (refine v_unpS (by assumption) ?_; intro dl hdl) | (refine unpk_tE ?_) | (refine unpk_lE ?_) | (simp only [gs_n, gs_t, gs_0, unpk_t, unpk_l, dsOf, List.map_cons, List.map_nil, Res.d_v, Res.d_b, List.length_cons, List.length_nil, Nat.zero_add, Nat.reduceAdd, if_true]) | (exact hN) | (exact hR _) | (refine hT ?_; (focus (first | exact decide_eq_true hc | (simp [*]; done) | (simp [*]; (try intro hz); omega)))) | (refine hF ?_; (focus (first | exact decide_eq_false hc | (simp [*]; done) | (simp [*]; (try intro hz); omega)))) | (refine R_of hR ?_ ?_; all_goals (try row_room_at pv_hs)) | (simp only [List.getD_cons_zero, List.getD_cons_succ, putIos, startE, getC, List.map_cons, List.map_nil, List.cons_append, List.nil_append, List.replicate, List.length_cons, List.length_nil, List.set_cons_zero, List.set_cons_succ, Nat.reduceAdd, Nat.reduceSub, wipeE, back, List.getElem?_cons_zero, List.getElem?_cons_succ, Res.d_v, Res.d_b, dsOf, Nat.zero_add, Bool.false_eq_true, if_false, keepC_none]) | (split <;> rename_i hc <;> (try simp only [decide_eq_true_eq, decide_eq_false_iff_not, Bool.not_eq_true', Bool.not_eq_false', Bool.not_eq_true, Bool.not_eq_false, Int.not_lt, Int.not_le, Bool.not_not, beq_iff_eq] at hc) <;> (try (cases hc; done)) <;> (try (exact absurd True.intro hc)) <;> (try contradiction) <;> (try (exfalso; omega)) <;> (try subst hc))))
local macro_rules | `(tactic| row_room_at pv_latex) => `(tactic| (first | (refine ev_onD ?_) | (refine ev_onInts ?_) | (refine ev_at1D ?_) | (refine v_unpP ?_) | (refine v_unpS (by assumption) ?_; intro dl hdl) | (refine unpk_tE ?_) | (refine unpk_lE ?_) | (simp only [gs_n, gs_t, gs_0, unpk_t, unpk_l, dsOf, List.map_cons, List.map_nil, Res.d_v, Res.d_b, List.length_cons, List.length_nil, Nat.zero_add, Nat.reduceAdd, if_true]) | (exact hN) | (exact hR _) | (refine hT ?_; (focus (first | exact decide_eq_true hc | (simp [*]; done) | (simp [*]; (try intro hz); omega)))) | (refine hF ?_; (focus (first | exact decide_eq_false hc | (simp [*]; done) | (simp [*]; (try intro hz); omega)))) | (refine R_of hR ?_ ?_; all_goals (try row_room_at pv_hs))))
local macro_rules | `(tactic| row_room_at pv_end) => `(tactic| (all_goals (try (conv => whnf)); all_goals row_room_at pv_cl; all_goals (try row_room_at pv_hs)))

def topS (i : Nat) : Stmt := PySem.Challenge.pw_tiltpits_k43_ends_of_channels.main.body.getD i (.Pass ⟨0, 0, 0, 0⟩)
local macro_rules | `(tactic| row_room_at pv_st_ends) => `(tactic| ((try (conv => whnf)); first | ((with_reducible show _ ∧ _); row_room_at pv_and) | ((with_reducible show ap2 _ _ _ _); row_room_at pv_op2) | ((with_reducible show apN _ _ _); row_room_at pv_opN) | ((with_reducible show ap1 _ _ _); row_room_at pv_op1) | ((with_reducible show ovr _ _); row_room_at pv_ov) | ((with_reducible show ovr2 _ _ _); row_room_at pv_ov2) | row_room_at pv_late))
local macro_rules | `(tactic| row_room_at pv_go_ends) => `(tactic| (repeat' row_room_at pv_st_ends))
local macro_rules | `(tactic| row_room_at pv_gox_ends) => `(tactic| (repeat' ((try (conv => whnf)); first | ((with_reducible show _ ∧ _); row_room_at pv_and) | ((with_reducible show ap2 _ _ _ _); row_room_at pv_op2) | ((with_reducible show apN _ _ _); row_room_at pv_opN) | ((with_reducible show ap1 _ _ _); row_room_at pv_op1) | ((with_reducible show ovr _ _); row_room_at pv_ov) | ((with_reducible show ovr2 _ _ _); row_room_at pv_ov2) | row_room_at pv_latex)))
local macro_rules | `(tactic| row_room_at pv_gou_ends) => `(tactic| (repeat' (first | (with_reducible refine apF_op ?_) | (with_reducible refine apL_op ?_) | row_room_at pv_st_ends)))

def b_ends : FS := (fSeq (fAsg 4 (fLc [5] (fSeqI (fVar 0)) (gN 5) (fTst (fOp2 oGe (fVar 5) (fVar 2))) (fVar 5))) (fRet (fSl (fIf (fTst (fOp2 oEq (fVar 1) (fC (.str "right")))) (fStp (fVar 4) (fPart (fOp1 oNeg (fC (.int 1))))) (fVar 4)) fNoPart (fPart (fVar 3)))))

@[irreducible] def ph_ends : Phi := fun args R => ∃ (d : D) (ws : List Int) (b : Bool) (s : Int) (m : Nat), args = [sh d, sh (.str (sideS b)), sh (.int s), sh (.int m)] ∧ (Ints d ws) ∧ (ws.length ≤ 1000) ∧ (m ≤ 1000) ∧ R (ow (.list ((endsL ws b s m).map .int))) []
theorem call_ends {d : D}{ws : List Int}{b : Bool}{s : Int}{m : Nat} {R : Cell → List Cell → Prop} (hd : Ints d ws) (hn : Hold (ws.length ≤ 1000)) (hm : Hold (m ≤ 1000)) (q : R (ow (.list ((endsL ws b s m).map .int))) []) : ph_ends [sh d, sh (.str (sideS b)), sh (.int s), sh (.int m)] R := by
  unfold ph_ends
  exact ⟨d, ws, b, s, m, rfl, hd, hn.out, hm.out, q⟩
theorem vc_ends (args R) (h : ph_ends args R) : b_ends (startE 6 args) (defK [false, false, false, false] R) := by
  unfold ph_ends at h
  obtain ⟨d, ws, b, s, m, rfl, hd, hn, hm, hR⟩ := h
  (row_room_at pv_go_ends; row_room_at pv_end)
  refine lc_fmI .int (fun w => decide (s ≤ w)) (fun w => w) (fun w acc N hq hl2 hT hF => ?_) trivial (.mk (by omega)) ?_
  · (row_room_at pv_go_ends; row_room_at pv_end)
  rw [List.map_id']
  have hl3 := List.length_filter_le (fun w => decide (s ≤ w)) ws
  cases b
  · (row_room_at pv_go_ends; row_room_at pv_end)
  · (row_room_at pv_go_ends; row_room_at pv_end)
    refine .mk ?_
    unfold endsL dl
    rw [if_pos rfl, List.filter_reverse, Int.toNat_natCast]

def b__law_cell_at : FS := (fSeq (fIfS (fTst (fOp2 oLt (fVar 1) (fOpN (at1 oLen) (fCons (fVar 0) fNil)))) (fRet (fOp2 oIx (fVar 0) (fVar 1))) fNext) (fRet (fC (.int 0))))

def ph__law_cell_at : Phi := fun args R => ∃ (ns : List Int) (k : Int), args = [sh (scrD ns), sh (.int k)] ∧ 0 ≤ k ∧ ∀ v : Int, R (sh (.int v)) []
theorem vc__law_cell_at (args R) (h : ph__law_cell_at args R) : b__law_cell_at (startE 2 args) (defK [false, false] R) := by
  obtain ⟨ns, k, rfl, hk, hR⟩ := h
  simp only [b__law_cell_at, scrD]
  simp only [fSeq, fIfS, fTst, fOp1, fOp2, fOpN, fVar, fFz, fMv, fC, fAsg, fAsgO, fSetIx, fRet, fRetN, fNext, fDrop, fMth, fAug, fUnp, fPar, fNil, fCons, fBreak, fAnd, fOr, fNot, fAndV, fOrV, fNotV, fIf, fNoPart, fPart, fSl, fStp, fYes, startE, getC, sh, ow, okb_v, okb_b, Res.d_v, Res.d_b, flat, noB, dsOf, at1, at2, onOwn, isOwn, mAppend, ioC, defK, oGt, oLt, oGe, oLe, oSub, oAdd, oMulA, oMul, oDiv, oMod, oPow, oIx, oEq, oNe, oIsN, oNotN, oIsB, oNotB, oIn, oNotIn, oLst, oTup, oLen, oList, oTuple, oAbs, oToInt, oMax2, oMin2, oMax, oMin, oAll, oAny, oSorted, oIsi, oNeg, oSl, oStp, dInt0, dInt, dAdd, dMulA, dIx, dEq, dIsB, dNotB, dLen, dList, dTuple, dAbs, dToInt, dNeg, dSl, dStp, dB, atInt, dI, pick, pickI, pickC, ix, toEnv, gN, gT, gsNil, gsCons, setRes, fCall, fCallK, mkArgs, distinct, ioIx, putIos, permD, fLc, fSeqI, fRange1, fRange2, fEnum, fZip, overSeq, overEnum, overZip, away, wipeE, back, forGo, fFor, List.length_cons, List.length_nil, List.getElem?_cons_zero, List.getElem?_cons_succ, List.getElem?_nil, List.set_cons_zero, List.set_cons_succ, List.set_nil, List.map_cons, List.map_nil, List.cons_append, List.nil_append, List.replicate, List.getD_cons_zero, List.getD_cons_succ, List.getD_nil, List.any_cons, List.any_nil, true_and, and_true, Bool.false_eq_true, if_true, if_false, ite_true, ite_false, Nat.le_refl, Bool.or_false, Bool.false_or, Bool.or_true, Bool.true_or, Bool.not_true, Bool.not_false, Bool.and_true, Bool.true_and, Bool.and_self, ixN, Option.some.injEq, exists_eq_left, exists_eq_left', Int.reduceToNat, Int.reduceLE, Int.reduceLT, Int.reduceNeg, Int.reduceAdd, Int.reduceSub, Nat.reduceAdd, Nat.reduceLeDiff, reduceIte, reduceCtorEq, decide_true, decide_false, Nat.reduceSub, Int.reducePow, Int.reduceMul, Int.natCast_add, Int.cast_ofNat_Int, Int.natCast_zero, List.contains_nil, List.contains_cons, Nat.reduceBEq, Nat.reduceEqDiff, refr, ap1_eq, ap2_eq, apN_eq, ovr_eq, ovr2_eq, unpk_t, unpk_l, oSlA, oStpA, apP_eq, apF_eq, apL_eq, isScr_map]
  by_cases h0 : k < (ns.length : Int)
  · simp only [h0, hk, List.length_map, decide_true, if_true]
    have hl : k.toNat < ns.length := by omega
    rw [List.getElem?_map, List.getElem?_eq_getElem hl]
    exact hR _
  · simp only [h0, hk, List.length_map, decide_false]
    exact hR _

def b__law_box : FS := (fSeq (fAsg 2 (fCall [false, false] ph__law_cell_at (fCons (fVar 0) (fCons (fVar 1) fNil)))) (fRet (fOpN oLst (fCons (fOp2 oMulA (fOpN (at1 oAbs) (fCons (fVar 2) fNil)) (fOpN (at1 oToInt) (fCons (fOp2 oGe (fOpN (at1 oAbs) (fCons (fVar 2) fNil)) (fOp2 oPow (fC (.int 10)) (fC (.int 18)))) fNil))) (fCons (fOp2 oAdd (fOp2 oAdd (fOp2 oMod (fVar 2) (fC (.int 2305843009213693951))) (fOp2 oMulA (fC (.int 39373)) (fVar 1))) (fC (.int 17))) (fCons (fC (.int 0)) fNil))))))

def ph__law_box : Phi := fun args R => ∃ (ns : List Int) (k : Int), args = [sh (scrD ns), sh (.int k)] ∧ 0 ≤ k ∧ k < 1000 ∧ ∀ x, Bx 0 x → R x []
theorem vc__law_box (args R) (h : ph__law_box args R) : b__law_box (startE 3 args) (defK [false, false] R) := by
  obtain ⟨ns, k, rfl, hk, hk2, hR⟩ := h
  simp only [b__law_box]
  simp only [fSeq, fIfS, fTst, fOp1, fOp2, fOpN, fVar, fFz, fMv, fC, fAsg, fAsgO, fSetIx, fRet, fRetN, fNext, fDrop, fMth, fAug, fUnp, fPar, fNil, fCons, fBreak, fAnd, fOr, fNot, fAndV, fOrV, fNotV, fIf, fNoPart, fPart, fSl, fStp, fYes, startE, getC, sh, ow, okb_v, okb_b, Res.d_v, Res.d_b, flat, noB, dsOf, at1, at2, onOwn, isOwn, mAppend, ioC, defK, oGt, oLt, oGe, oLe, oSub, oAdd, oMulA, oMul, oDiv, oMod, oPow, oIx, oEq, oNe, oIsN, oNotN, oIsB, oNotB, oIn, oNotIn, oLst, oTup, oLen, oList, oTuple, oAbs, oToInt, oMax2, oMin2, oMax, oMin, oAll, oAny, oSorted, oIsi, oNeg, oSl, oStp, dInt0, dInt, dAdd, dMulA, dIx, dEq, dIsB, dNotB, dLen, dList, dTuple, dAbs, dToInt, dNeg, dSl, dStp, dB, atInt, dI, pick, pickI, pickC, ix, toEnv, gN, gT, gsNil, gsCons, setRes, fCall, fCallK, mkArgs, distinct, ioIx, putIos, permD, fLc, fSeqI, fRange1, fRange2, fEnum, fZip, overSeq, overEnum, overZip, away, wipeE, back, forGo, fFor, List.length_cons, List.length_nil, List.getElem?_cons_zero, List.getElem?_cons_succ, List.getElem?_nil, List.set_cons_zero, List.set_cons_succ, List.set_nil, List.map_cons, List.map_nil, List.cons_append, List.nil_append, List.replicate, List.getD_cons_zero, List.getD_cons_succ, List.getD_nil, List.any_cons, List.any_nil, true_and, and_true, Bool.false_eq_true, if_true, if_false, ite_true, ite_false, Nat.le_refl, Bool.or_false, Bool.false_or, Bool.or_true, Bool.true_or, Bool.not_true, Bool.not_false, Bool.and_true, Bool.true_and, Bool.and_self, ixN, Option.some.injEq, exists_eq_left, exists_eq_left', Int.reduceToNat, Int.reduceLE, Int.reduceLT, Int.reduceNeg, Int.reduceAdd, Int.reduceSub, Nat.reduceAdd, Nat.reduceLeDiff, reduceIte, reduceCtorEq, decide_true, decide_false, Nat.reduceSub, Int.reducePow, Int.reduceMul, Int.natCast_add, Int.cast_ofNat_Int, Int.natCast_zero, List.contains_nil, List.contains_cons, Nat.reduceBEq, Nat.reduceEqDiff, refr, ap1_eq, ap2_eq, apN_eq, ovr_eq, ovr2_eq, unpk_t, unpk_l, oSlA, oStpA, apP_eq, apF_eq, apL_eq, isScr_map]
  refine ⟨ns, k, rfl, hk, fun v => ?_⟩
  simp only [fSeq, fIfS, fTst, fOp1, fOp2, fOpN, fVar, fFz, fMv, fC, fAsg, fAsgO, fSetIx, fRet, fRetN, fNext, fDrop, fMth, fAug, fUnp, fPar, fNil, fCons, fBreak, fAnd, fOr, fNot, fAndV, fOrV, fNotV, fIf, fNoPart, fPart, fSl, fStp, fYes, startE, getC, sh, ow, okb_v, okb_b, Res.d_v, Res.d_b, flat, noB, dsOf, at1, at2, onOwn, isOwn, mAppend, ioC, defK, oGt, oLt, oGe, oLe, oSub, oAdd, oMulA, oMul, oDiv, oMod, oPow, oIx, oEq, oNe, oIsN, oNotN, oIsB, oNotB, oIn, oNotIn, oLst, oTup, oLen, oList, oTuple, oAbs, oToInt, oMax2, oMin2, oMax, oMin, oAll, oAny, oSorted, oIsi, oNeg, oSl, oStp, dInt0, dInt, dAdd, dMulA, dIx, dEq, dIsB, dNotB, dLen, dList, dTuple, dAbs, dToInt, dNeg, dSl, dStp, dB, atInt, dI, pick, pickI, pickC, ix, toEnv, gN, gT, gsNil, gsCons, setRes, fCall, fCallK, mkArgs, distinct, ioIx, putIos, permD, fLc, fSeqI, fRange1, fRange2, fEnum, fZip, overSeq, overEnum, overZip, away, wipeE, back, forGo, fFor, List.length_cons, List.length_nil, List.getElem?_cons_zero, List.getElem?_cons_succ, List.getElem?_nil, List.set_cons_zero, List.set_cons_succ, List.set_nil, List.map_cons, List.map_nil, List.cons_append, List.nil_append, List.replicate, List.getD_cons_zero, List.getD_cons_succ, List.getD_nil, List.any_cons, List.any_nil, true_and, and_true, Bool.false_eq_true, if_true, if_false, ite_true, ite_false, Nat.le_refl, Bool.or_false, Bool.false_or, Bool.or_true, Bool.true_or, Bool.not_true, Bool.not_false, Bool.and_true, Bool.true_and, Bool.and_self, ixN, Option.some.injEq, exists_eq_left, exists_eq_left', Int.reduceToNat, Int.reduceLE, Int.reduceLT, Int.reduceNeg, Int.reduceAdd, Int.reduceSub, Nat.reduceAdd, Nat.reduceLeDiff, reduceIte, reduceCtorEq, decide_true, decide_false, Nat.reduceSub, Int.reducePow, Int.reduceMul, Int.natCast_add, Int.cast_ofNat_Int, Int.natCast_zero, List.contains_nil, List.contains_cons, Nat.reduceBEq, Nat.reduceEqDiff, refr, ap1_eq, ap2_eq, apN_eq, ovr_eq, ovr2_eq, unpk_t, unpk_l, oSlA, oStpA, apP_eq, apF_eq, apL_eq, isScr_map]
  have h2 : ∀ b : Bool, 0 ≤ (if b = true then (1 : Int) else 0) ∧ (if b = true then (1 : Int) else 0) ≤ 1 := fun b => by cases b <;> decide
  obtain ⟨b1, b2⟩ := h2 (decide (1000000000000000000 ≤ (v.natAbs : Int)))
  have m0 := Int.emod_nonneg v (b := 2305843009213693951) (by decide)
  have m1 := Int.emod_lt_of_pos v (b := 2305843009213693951) (by decide)
  exact ⟨⟨by decide, by decide, by decide⟩, cmr (by omega) (by omega), cml (by decide) (by decide), by decide, hR _ ⟨_, _, _, rfl, Int.mul_nonneg (by omega) b1, by omega, by omega, by decide, by decide⟩⟩

def b__law_take : FS := (fSeq (fIfS (fTst (fOp2 oGt (fOp2 oIx (fVar 0) (fC (.int 0))) (fC (.int 0)))) (fSeq (fAsg 2 (fOp2 oMod (fOp2 oIx (fVar 0) (fC (.int 0))) (fVar 1))) (fSeq (fSetIx 0 (fOp2 oDiv (fOp2 oIx (fVar 0) (fC (.int 0))) (fVar 1)) (fC (.int 0))) (fRet (fVar 2)))) fNext) (fSeq (fSetIx 0 (fOp2 oAdd (fOp2 oIx (fVar 0) (fC (.int 2))) (fC (.int 1))) (fC (.int 2))) (fSeq (fAsg 3 (fOp2 oMod (fOp2 oMulA (fOp2 oAdd (fOp2 oIx (fVar 0) (fC (.int 1))) (fOp2 oMulA (fC (.int 48271)) (fOp2 oIx (fVar 0) (fC (.int 2))))) (fOp2 oAdd (fC (.int 39373)) (fOp2 oIx (fVar 0) (fC (.int 2))))) (fC (.int 2147483647)))) (fSeq (fAsg 4 (fOp2 oMod (fOp2 oMulA (fOp2 oAdd (fOp2 oAdd (fVar 3) (fOp2 oIx (fVar 0) (fC (.int 2)))) (fOp2 oDiv (fOp2 oIx (fVar 0) (fC (.int 1))) (fC (.int 1000003)))) (fOp2 oAdd (fOp2 oMod (fVar 3) (fC (.int 40009))) (fC (.int 7)))) (fC (.int 2147483629)))) (fRet (fOp2 oMod (fOp2 oDiv (fOp2 oMod (fOp2 oAdd (fOp2 oMulA (fVar 4) (fC (.int 48271))) (fVar 3)) (fC (.int 2147483587))) (fC (.int 64))) (fVar 1)))))))

def ph__law_take : Phi := fun args R => match args with
  | [x, ⟨0, .int s⟩] => ∃ n, Bx n x ∧ n < 2 ^ 60 ∧ 0 < s ∧ s < 2 ^ 62 ∧ ∀ t x', 0 ≤ t → t < s → Bx (n + 1) x' → R (sh (.int t)) [x']
  | _ => False
theorem vc__law_take (args R) (h : ph__law_take args R) : b__law_take (startE 5 args) (defK [true, false] R) := by
  unfold ph__law_take at h
  split at h
  · obtain ⟨n, ⟨a, b, c, rfl, ha, hb, hb2, hc, hcn⟩, hn, hs, hs2, hR⟩ := h
    rename_i s
    simp only [b__law_take, bx]
    simp only [fSeq, fIfS, fTst, fOp1, fOp2, fOpN, fVar, fFz, fMv, fC, fAsg, fAsgO, fSetIx, fRet, fRetN, fNext, fDrop, fMth, fAug, fUnp, fPar, fNil, fCons, fBreak, fAnd, fOr, fNot, fAndV, fOrV, fNotV, fIf, fNoPart, fPart, fSl, fStp, fYes, startE, getC, sh, ow, okb_v, okb_b, Res.d_v, Res.d_b, flat, noB, dsOf, at1, at2, onOwn, isOwn, mAppend, ioC, defK, oGt, oLt, oGe, oLe, oSub, oAdd, oMulA, oMul, oDiv, oMod, oPow, oIx, oEq, oNe, oIsN, oNotN, oIsB, oNotB, oIn, oNotIn, oLst, oTup, oLen, oList, oTuple, oAbs, oToInt, oMax2, oMin2, oMax, oMin, oAll, oAny, oSorted, oIsi, oNeg, oSl, oStp, dInt0, dInt, dAdd, dMulA, dIx, dEq, dIsB, dNotB, dLen, dList, dTuple, dAbs, dToInt, dNeg, dSl, dStp, dB, atInt, dI, pick, pickI, pickC, ix, toEnv, gN, gT, gsNil, gsCons, setRes, fCall, fCallK, mkArgs, distinct, ioIx, putIos, permD, fLc, fSeqI, fRange1, fRange2, fEnum, fZip, overSeq, overEnum, overZip, away, wipeE, back, forGo, fFor, List.length_cons, List.length_nil, List.getElem?_cons_zero, List.getElem?_cons_succ, List.getElem?_nil, List.set_cons_zero, List.set_cons_succ, List.set_nil, List.map_cons, List.map_nil, List.cons_append, List.nil_append, List.replicate, List.getD_cons_zero, List.getD_cons_succ, List.getD_nil, List.any_cons, List.any_nil, true_and, and_true, Bool.false_eq_true, if_true, if_false, ite_true, ite_false, Nat.le_refl, Bool.or_false, Bool.false_or, Bool.or_true, Bool.true_or, Bool.not_true, Bool.not_false, Bool.and_true, Bool.true_and, Bool.and_self, ixN, Option.some.injEq, exists_eq_left, exists_eq_left', Int.reduceToNat, Int.reduceLE, Int.reduceLT, Int.reduceNeg, Int.reduceAdd, Int.reduceSub, Nat.reduceAdd, Nat.reduceLeDiff, reduceIte, reduceCtorEq, decide_true, decide_false, Nat.reduceSub, Int.reducePow, Int.reduceMul, Int.natCast_add, Int.cast_ofNat_Int, Int.natCast_zero, List.contains_nil, List.contains_cons, Nat.reduceBEq, Nat.reduceEqDiff, refr, ap1_eq, ap2_eq, apN_eq, ovr_eq, ovr2_eq, unpk_t, unpk_l, oSlA, oStpA, apP_eq, apF_eq, apL_eq, isScr_map]
    by_cases h0 : 0 < a
    · simp only [h0, decide_true]
      refine ⟨hs, cdv hs hs2, hR _ _ (Int.emod_nonneg _ (by omega)) (Int.emod_lt_of_pos _ hs) ⟨_, _, _, rfl, Int.ediv_nonneg ha (by omega), hb, hb2, hc, by omega⟩⟩
    · simp only [h0, decide_false]
      refine ⟨cml (by omega) (by omega), cmr (by omega) (by omega), cdv (by omega) (by omega), cmr (by omega) (by omega), cmr (by omega) (by omega), cdv (by omega) (by omega), hs, hR _ _ (Int.emod_nonneg _ (by omega)) (Int.emod_lt_of_pos _ hs) ⟨_, _, _, rfl, ha, hb, hb2, by omega, by omega⟩⟩
  · exact h.elim
-- CALLS
-- CALL call__law_take dhhh | t x' ht0 ht1 hx'
theorem call__law_take {m : Nat} {x : Cell} {s : Int} {R : Cell → List Cell → Prop} (hx : Bk m x) (h1 : Hold (1 ≤ m)) (h2 : Hold (0 < s)) (h3 : Hold (s < 2 ^ 62)) (q : ∀ t x', 0 ≤ t → t < s → Bk (m - 1) (ow x') → R (sh (.int t)) [ow x']) : ph__law_take [x, ⟨0, .int s⟩] R := by
  obtain ⟨n, a, b⟩ := hx.get
  have h1' := h1.out
  exact ⟨n, a, by omega, h2.out, h3.out, fun t x' a1 a2 a3 => by
    obtain ⟨d, rfl⟩ := a3.ex
    exact q t d a1 a2 (.of a3 (by omega))⟩

def b__law_of : FS := (fRet (fOp2 oIx (fVar 1) (fCall [true, false] ph__law_take (fCons (fVar 0) (fCons (fOpN (at1 oLen) (fCons (fVar 1) fNil)) fNil)))))

def ph__law_of : Phi := fun args R => ∃ (n : Nat) (x : Cell) (d : D) (ds : List D), args = [x, ⟨0, d⟩] ∧ (d = .list ds ∨ d = .tuple ds) ∧ Bx n x ∧ n < 2 ^ 60 ∧ 0 < ds.length ∧ ds.length < 2 ^ 62 ∧ ∀ e x', e ∈ ds → Bx (n + 1) x' → R (sh e) [x']
theorem vc__law_of (args R) (h : ph__law_of args R) : b__law_of (startE 2 args) (defK [true, false] R) := by
  obtain ⟨n, x, d, ds, rfl, hd, hx, hn, h0, h1, hR⟩ := h
  obtain ⟨xd, rfl⟩ := hx.ex
  have hl : ((ds.length : Nat) : Int) = (ds.length : Int) := rfl
  rcases hd with rfl | rfl
  all_goals
    simp only [b__law_of]
    simp only [fSeq, fIfS, fTst, fOp1, fOp2, fOpN, fVar, fFz, fMv, fC, fAsg, fAsgO, fSetIx, fRet, fRetN, fNext, fDrop, fMth, fAug, fUnp, fPar, fNil, fCons, fBreak, fAnd, fOr, fNot, fAndV, fOrV, fNotV, fIf, fNoPart, fPart, fSl, fStp, fYes, startE, getC, sh, ow, okb_v, okb_b, Res.d_v, Res.d_b, flat, noB, dsOf, at1, at2, onOwn, isOwn, mAppend, ioC, defK, oGt, oLt, oGe, oLe, oSub, oAdd, oMulA, oMul, oDiv, oMod, oPow, oIx, oEq, oNe, oIsN, oNotN, oIsB, oNotB, oIn, oNotIn, oLst, oTup, oLen, oList, oTuple, oAbs, oToInt, oMax2, oMin2, oMax, oMin, oAll, oAny, oSorted, oIsi, oNeg, oSl, oStp, dInt0, dInt, dAdd, dMulA, dIx, dEq, dIsB, dNotB, dLen, dList, dTuple, dAbs, dToInt, dNeg, dSl, dStp, dB, atInt, dI, pick, pickI, pickC, ix, toEnv, gN, gT, gsNil, gsCons, setRes, fCall, fCallK, mkArgs, distinct, ioIx, putIos, permD, fLc, fSeqI, fRange1, fRange2, fEnum, fZip, overSeq, overEnum, overZip, away, wipeE, back, forGo, fFor, List.length_cons, List.length_nil, List.getElem?_cons_zero, List.getElem?_cons_succ, List.getElem?_nil, List.set_cons_zero, List.set_cons_succ, List.set_nil, List.map_cons, List.map_nil, List.cons_append, List.nil_append, List.replicate, List.getD_cons_zero, List.getD_cons_succ, List.getD_nil, List.any_cons, List.any_nil, true_and, and_true, Bool.false_eq_true, if_true, if_false, ite_true, ite_false, Nat.le_refl, Bool.or_false, Bool.false_or, Bool.or_true, Bool.true_or, Bool.not_true, Bool.not_false, Bool.and_true, Bool.true_and, Bool.and_self, ixN, Option.some.injEq, exists_eq_left, exists_eq_left', Int.reduceToNat, Int.reduceLE, Int.reduceLT, Int.reduceNeg, Int.reduceAdd, Int.reduceSub, Nat.reduceAdd, Nat.reduceLeDiff, reduceIte, reduceCtorEq, decide_true, decide_false, Nat.reduceSub, Int.reducePow, Int.reduceMul, Int.natCast_add, Int.cast_ofNat_Int, Int.natCast_zero, List.contains_nil, List.contains_cons, Nat.reduceBEq, Nat.reduceEqDiff, refr, ap1_eq, ap2_eq, apN_eq, ovr_eq, ovr2_eq, unpk_t, unpk_l, oSlA, oStpA, apP_eq, apF_eq, apL_eq, isScr_map]
    refine ⟨n, hx, hn, by omega, by omega, fun t x' t0 t1 hx' => ?_⟩
    obtain ⟨xd', rfl⟩ := hx'.ex
    simp only [fSeq, fIfS, fTst, fOp1, fOp2, fOpN, fVar, fFz, fMv, fC, fAsg, fAsgO, fSetIx, fRet, fRetN, fNext, fDrop, fMth, fAug, fUnp, fPar, fNil, fCons, fBreak, fAnd, fOr, fNot, fAndV, fOrV, fNotV, fIf, fNoPart, fPart, fSl, fStp, fYes, startE, getC, sh, ow, okb_v, okb_b, Res.d_v, Res.d_b, flat, noB, dsOf, at1, at2, onOwn, isOwn, mAppend, ioC, defK, oGt, oLt, oGe, oLe, oSub, oAdd, oMulA, oMul, oDiv, oMod, oPow, oIx, oEq, oNe, oIsN, oNotN, oIsB, oNotB, oIn, oNotIn, oLst, oTup, oLen, oList, oTuple, oAbs, oToInt, oMax2, oMin2, oMax, oMin, oAll, oAny, oSorted, oIsi, oNeg, oSl, oStp, dInt0, dInt, dAdd, dMulA, dIx, dEq, dIsB, dNotB, dLen, dList, dTuple, dAbs, dToInt, dNeg, dSl, dStp, dB, atInt, dI, pick, pickI, pickC, ix, toEnv, gN, gT, gsNil, gsCons, setRes, fCall, fCallK, mkArgs, distinct, ioIx, putIos, permD, fLc, fSeqI, fRange1, fRange2, fEnum, fZip, overSeq, overEnum, overZip, away, wipeE, back, forGo, fFor, List.length_cons, List.length_nil, List.getElem?_cons_zero, List.getElem?_cons_succ, List.getElem?_nil, List.set_cons_zero, List.set_cons_succ, List.set_nil, List.map_cons, List.map_nil, List.cons_append, List.nil_append, List.replicate, List.getD_cons_zero, List.getD_cons_succ, List.getD_nil, List.any_cons, List.any_nil, true_and, and_true, Bool.false_eq_true, if_true, if_false, ite_true, ite_false, Nat.le_refl, Bool.or_false, Bool.false_or, Bool.or_true, Bool.true_or, Bool.not_true, Bool.not_false, Bool.and_true, Bool.true_and, Bool.and_self, ixN, Option.some.injEq, exists_eq_left, exists_eq_left', Int.reduceToNat, Int.reduceLE, Int.reduceLT, Int.reduceNeg, Int.reduceAdd, Int.reduceSub, Nat.reduceAdd, Nat.reduceLeDiff, reduceIte, reduceCtorEq, decide_true, decide_false, Nat.reduceSub, Int.reducePow, Int.reduceMul, Int.natCast_add, Int.cast_ofNat_Int, Int.natCast_zero, List.contains_nil, List.contains_cons, Nat.reduceBEq, Nat.reduceEqDiff, refr, ap1_eq, ap2_eq, apN_eq, ovr_eq, ovr2_eq, unpk_t, unpk_l, oSlA, oStpA, apP_eq, apF_eq, apL_eq, isScr_map]
    have ht : t.toNat < ds.length := by omega
    simp only [t0, if_true]
    rw [List.getElem?_eq_getElem ht]
    exact hR _ _ (List.getElem_mem ht) hx'
-- CALLS
-- CALL call__law_ofS edh | b x' hx'
-- CALL call__law_of ddhhh | i x' hi hx'
-- CALL call__law_ofM ddhhh | y x' hy hx'
theorem call__law_ofE {m : Nat} {x : Cell} {d : D} {ds : List D} {R : Cell → List Cell → Prop} (hd : Sq d ds) (hx : Bk m x) (h1 : Hold (1 ≤ m)) (h2 : Hold (0 < ds.length)) (h3 : Hold (ds.length < 2 ^ 62)) (q : ∀ e x', e ∈ ds → Bk (m - 1) (ow x') → R (sh e) [ow x']) : ph__law_of [x, ⟨0, d⟩] R := by
  obtain ⟨n, a, b⟩ := hx.get
  have h1' := h1.out
  exact ⟨n, x, d, ds, rfl, hd, a, by omega, h2.out, h3.out, fun e x' a1 a3 => by
    obtain ⟨d, rfl⟩ := a3.ex
    exact q e d a1 (.of a3 (by omega))⟩
theorem call__law_ofM {α : Type} {inj : α → D} {xs : List α} {m : Nat} {x : Cell} {d : D} {R : Cell → List Cell → Prop} (hd : Sq d (xs.map inj)) (hx : Bk m x) (h1 : Hold (1 ≤ m)) (h2 : Hold (0 < xs.length)) (h3 : Hold (xs.length < 2 ^ 62)) (q : ∀ y x', y ∈ xs → Bk (m - 1) (ow x') → R (sh (inj y)) [ow x']) : ph__law_of [x, ⟨0, d⟩] R :=
  call__law_ofE hd hx h1 (.mk (by rw [List.length_map]; exact h2.out)) (.mk (by rw [List.length_map]; exact h3.out)) fun e x' he hx' => by
    obtain ⟨y, hy, rfl⟩ := List.mem_map.mp he
    exact q y x' hy hx'
theorem call__law_of {xs : List Int} {m : Nat} {x : Cell} {d : D} {R : Cell → List Cell → Prop} (hd : Ints d xs) (hx : Bk m x) (h1 : Hold (1 ≤ m)) (h2 : Hold (0 < xs.length)) (h3 : Hold (xs.length < 2 ^ 62)) (q : ∀ i x', i ∈ xs → Bk (m - 1) (ow x') → R (sh (.int i)) [ow x']) : ph__law_of [x, ⟨0, d⟩] R := call__law_ofM (inj := .int) hd hx h1 h2 h3 q
theorem call__law_ofS {m : Nat} {x : Cell} {d : D} {R : Cell → List Cell → Prop} (hd : d = .list [.str "left", .str "right"]) (hx : Bk m x) (h1 : Hold (1 ≤ m)) (q : ∀ b x', Bk (m - 1) (ow x') → R (sh (.str (sideS b))) [ow x']) : ph__law_of [x, ⟨0, d⟩] R :=
  call__law_ofE (.inl hd) hx h1 (.mk (by decide)) (.mk (by decide)) fun e x' he hx' => by
    rcases List.mem_cons.mp he with rfl | he
    · exact q false x' hx'
    · rw [List.mem_singleton.mp he]; exact q true x' hx'

def b__law_same (φ : Phi) : FS := (fSeq (fIfS (fTst (fOp1 (oIsi ["list", "tuple"]) (fVar 1))) (fSeq (fIfS (fOr (fTst (fOp2 oNe (fOp1 (oIsi ["list"]) (fVar 0)) (fOp1 (oIsi ["list"]) (fVar 1)))) (fTst (fOp2 oNe (fOp1 (oIsi ["tuple"]) (fVar 0)) (fOp1 (oIsi ["tuple"]) (fVar 1))))) (fRet (fC (.bool false))) fNext) (fRet (fAndV (fOp2 oEq (fOpN (at1 oLen) (fCons (fVar 0) fNil)) (fOpN (at1 oLen) (fCons (fVar 1) fNil))) (fOpN (at1 oAll) (fCons (fLc [2, 3] (fZip (fCons (fVar 0) (fCons (fVar 1) fNil))) (gT 2 (gsCons (gN 2) (gsCons (gN 3) gsNil))) fYes (fCall [false, false] φ (fCons (fVar 2) (fCons (fVar 3) fNil)))) fNil))))) fNext) (fSeq (fIfS (fOr (fTst (fOp2 oIsN (fVar 1) (fC .none))) (fTst (fOp1 (oIsi ["bool", "str"]) (fVar 1)))) (fRet (fAndV (fOp2 oEq (fVar 0) (fVar 1)) (fAndV (fOp2 oEq (fOp1 (oIsi ["bool"]) (fVar 0)) (fOp1 (oIsi ["bool"]) (fVar 1))) (fOp2 oEq (fOp2 oIsN (fVar 0) (fC .none)) (fOp2 oIsN (fVar 1) (fC .none)))))) fNext) (fRet (fAndV (fOp1 (oIsi ["int"]) (fVar 0)) (fAndV (fNotV (fOp1 (oIsi ["bool"]) (fVar 0))) (fOp2 oEq (fVar 0) (fVar 1)))))))

/-- the same, of so many levels, compared with itself: yes -/
def phSame (n : Nat) : Phi := fun args R => ∃ d : D, args = [sh d, sh d] ∧ dep n d = true ∧ smallF n d = true ∧ R (sh (.bool true)) []
def ph__law_same : Phi := phSame 7
theorem zip_self (ds : List D) : zipD ds ds = ds.map fun d => .tuple [d, d] := by
  induction ds with
  | nil => rfl
  | cons d ds ih => show _ :: zipD ds ds = _ :: _; rw [ih]
theorem same_all {φ : Phi} {ds : List D} {c0 c1 : Cell} {R : List D → Pv.Env → Prop} {r : Res} (hr : ∀ e, okb e r) (hl : ds.length ≤ 2 ^ 20) (hφ : ∀ d ∈ ds, ∀ S, S (sh (.bool true)) [] → φ [sh d, sh d] S)
    (fin : R ((List.replicate ds.length true).map .bool) [some c0, some c1, none, none]) :
    lcGo [2, 3] (gT 2 (gsCons (gN 2) (gsCons (gN 3) gsNil))) fYes (fCall [false, false] φ (fCons (fVar 2) (fCons (fVar 3) fNil))) r R (zipD ds ds) [] [some c0, some c1, none, none] := by
  have hz : (2 : Nat) ^ 20 < sizeLine := by decide
  rw [zip_self]
  refine lc_inv (fun d => PyData.tuple [d, d]) (fun xs acc e => ∃ i, i + xs.length = ds.length ∧ (∀ d ∈ xs, d ∈ ds) ∧ acc = (List.replicate i true).map .bool ∧ e = [some c0, some c1, none, none]) (fun _ _ e _ => hr e) (fun d xs acc e N hI hN => ?_) (fun acc e hI => ?_) _ _ _ ⟨0, by rw [Nat.zero_add], fun d h => h, rfl, rfl⟩
  · obtain ⟨i, h1, h2, rfl, rfl⟩ := hI
    rw [List.length_cons] at h1
    (row_room_at pv_ev; row_room_at pv_cl)
    refine hφ d (h2 d List.mem_cons_self) _ ?_
    (row_room_at pv_ev; row_room_at pv_cl)
    refine ⟨by show ((List.replicate i true).map PyData.bool).length < sizeLine; rw [List.length_map, List.length_replicate]; omega, hN _ _ ⟨i + 1, by omega, fun x hx => h2 x (List.mem_cons_of_mem _ hx), ?_, rfl⟩⟩
    rw [List.replicate_succ', List.map_append]
    rfl
  · obtain ⟨i, h1, h2, rfl, rfl⟩ := hI
    rw [List.length_nil, Nat.add_zero] at h1
    rw [h1]
    exact fin
theorem same_any {φ : Phi} {d : D} {R : Cell → List Cell → Prop} (hR : R (sh (.bool true)) [])
    (h : leafD d = true ∨ ∃ ds : List D, (d = .list ds ∨ d = .tuple ds) ∧ ds.length ≤ 2 ^ 20 ∧ ∀ d ∈ ds, ∀ S : Cell → List Cell → Prop, S (sh (.bool true)) [] → φ [sh d, sh d] S) : b__law_same φ (startE 4 [sh d, sh d]) (defK [false, false] R) := by
  rcases h with h | ⟨ds, hd, hl, hφ⟩
  · have hs : shp d := dep_shp (n := 0) h (by decide)
    have he := eqv_self 0 d h
    cases d with
    | none =>
      simp only [b__law_same]
      simp only [fSeq, fIfS, fTst, fOp1, fOp2, fOpN, fVar, fFz, fMv, fC, fAsg, fAsgO, fSetIx, fRet, fRetN, fNext, fDrop, fMth, fAug, fUnp, fPar, fNil, fCons, fBreak, fAnd, fOr, fNot, fAndV, fOrV, fNotV, fIf, fNoPart, fPart, fSl, fStp, fYes, startE, getC, sh, ow, okb_v, okb_b, Res.d_v, Res.d_b, flat, noB, dsOf, at1, at2, onOwn, isOwn, mAppend, ioC, defK, oGt, oLt, oGe, oLe, oSub, oAdd, oMulA, oMul, oDiv, oMod, oPow, oIx, oEq, oNe, oIsN, oNotN, oIsB, oNotB, oIn, oNotIn, oLst, oTup, oLen, oList, oTuple, oAbs, oToInt, oMax2, oMin2, oMax, oMin, oAll, oAny, oSorted, oIsi, oNeg, oSl, oStp, dInt0, dInt, dAdd, dMulA, dIx, dEq, dIsB, dNotB, dLen, dList, dTuple, dAbs, dToInt, dNeg, dSl, dStp, dB, atInt, dI, pick, pickI, pickC, ix, toEnv, gN, gT, gsNil, gsCons, setRes, fCall, fCallK, mkArgs, distinct, ioIx, putIos, permD, fLc, fSeqI, fRange1, fRange2, fEnum, fZip, overSeq, overEnum, overZip, away, wipeE, back, forGo, fFor, List.length_cons, List.length_nil, List.getElem?_cons_zero, List.getElem?_cons_succ, List.getElem?_nil, List.set_cons_zero, List.set_cons_succ, List.set_nil, List.map_cons, List.map_nil, List.cons_append, List.nil_append, List.replicate, List.getD_cons_zero, List.getD_cons_succ, List.getD_nil, List.any_cons, List.any_nil, true_and, and_true, Bool.false_eq_true, if_true, if_false, ite_true, ite_false, Nat.le_refl, Bool.or_false, Bool.false_or, Bool.or_true, Bool.true_or, Bool.not_true, Bool.not_false, Bool.and_true, Bool.true_and, Bool.and_self, ixN, Option.some.injEq, exists_eq_left, exists_eq_left', Int.reduceToNat, Int.reduceLE, Int.reduceLT, Int.reduceNeg, Int.reduceAdd, Int.reduceSub, Nat.reduceAdd, Nat.reduceLeDiff, reduceIte, reduceCtorEq, decide_true, decide_false, Nat.reduceSub, Int.reducePow, Int.reduceMul, Int.natCast_add, Int.cast_ofNat_Int, Int.natCast_zero, List.contains_nil, List.contains_cons, Nat.reduceBEq, Nat.reduceEqDiff, refr, ap1_eq, ap2_eq, apN_eq, ovr_eq, ovr2_eq, unpk_t, unpk_l, oSlA, oStpA, apP_eq, apF_eq, apL_eq, isScr_map, isNone, eq_self, isi_list, isi_list_tup, isi_list_int, isi_list_str, isi_list_bl, isi_list_non, isi_tuple_list, isi_tuple, isi_tuple_int, isi_tuple_str, isi_tuple_bl, isi_tuple_non, isi_bool_list, isi_bool_tup, isi_bool_int, isi_bool_str, isi_bool, isi_bool_non, isi_str_list, isi_str_tup, isi_str_int, isi_str, isi_str_bl, isi_str_non, isi_int_list, isi_int_tup, isi_int, isi_int_str, isi_int_bl, isi_int_non]
      refine ⟨hs, hs, ?_⟩
      rw [he]
      simp only [fSeq, fIfS, fTst, fOp1, fOp2, fOpN, fVar, fFz, fMv, fC, fAsg, fAsgO, fSetIx, fRet, fRetN, fNext, fDrop, fMth, fAug, fUnp, fPar, fNil, fCons, fBreak, fAnd, fOr, fNot, fAndV, fOrV, fNotV, fIf, fNoPart, fPart, fSl, fStp, fYes, startE, getC, sh, ow, okb_v, okb_b, Res.d_v, Res.d_b, flat, noB, dsOf, at1, at2, onOwn, isOwn, mAppend, ioC, defK, oGt, oLt, oGe, oLe, oSub, oAdd, oMulA, oMul, oDiv, oMod, oPow, oIx, oEq, oNe, oIsN, oNotN, oIsB, oNotB, oIn, oNotIn, oLst, oTup, oLen, oList, oTuple, oAbs, oToInt, oMax2, oMin2, oMax, oMin, oAll, oAny, oSorted, oIsi, oNeg, oSl, oStp, dInt0, dInt, dAdd, dMulA, dIx, dEq, dIsB, dNotB, dLen, dList, dTuple, dAbs, dToInt, dNeg, dSl, dStp, dB, atInt, dI, pick, pickI, pickC, ix, toEnv, gN, gT, gsNil, gsCons, setRes, fCall, fCallK, mkArgs, distinct, ioIx, putIos, permD, fLc, fSeqI, fRange1, fRange2, fEnum, fZip, overSeq, overEnum, overZip, away, wipeE, back, forGo, fFor, List.length_cons, List.length_nil, List.getElem?_cons_zero, List.getElem?_cons_succ, List.getElem?_nil, List.set_cons_zero, List.set_cons_succ, List.set_nil, List.map_cons, List.map_nil, List.cons_append, List.nil_append, List.replicate, List.getD_cons_zero, List.getD_cons_succ, List.getD_nil, List.any_cons, List.any_nil, true_and, and_true, Bool.false_eq_true, if_true, if_false, ite_true, ite_false, Nat.le_refl, Bool.or_false, Bool.false_or, Bool.or_true, Bool.true_or, Bool.not_true, Bool.not_false, Bool.and_true, Bool.true_and, Bool.and_self, ixN, Option.some.injEq, exists_eq_left, exists_eq_left', Int.reduceToNat, Int.reduceLE, Int.reduceLT, Int.reduceNeg, Int.reduceAdd, Int.reduceSub, Nat.reduceAdd, Nat.reduceLeDiff, reduceIte, reduceCtorEq, decide_true, decide_false, Nat.reduceSub, Int.reducePow, Int.reduceMul, Int.natCast_add, Int.cast_ofNat_Int, Int.natCast_zero, List.contains_nil, List.contains_cons, Nat.reduceBEq, Nat.reduceEqDiff, refr, ap1_eq, ap2_eq, apN_eq, ovr_eq, ovr2_eq, unpk_t, unpk_l, oSlA, oStpA, apP_eq, apF_eq, apL_eq, isScr_map, isNone, eq_self, isi_list, isi_list_tup, isi_list_int, isi_list_str, isi_list_bl, isi_list_non, isi_tuple_list, isi_tuple, isi_tuple_int, isi_tuple_str, isi_tuple_bl, isi_tuple_non, isi_bool_list, isi_bool_tup, isi_bool_int, isi_bool_str, isi_bool, isi_bool_non, isi_str_list, isi_str_tup, isi_str_int, isi_str, isi_str_bl, isi_str_non, isi_int_list, isi_int_tup, isi_int, isi_int_str, isi_int_bl, isi_int_non]
      exact hR
    | bool b =>
      simp only [b__law_same]
      simp only [fSeq, fIfS, fTst, fOp1, fOp2, fOpN, fVar, fFz, fMv, fC, fAsg, fAsgO, fSetIx, fRet, fRetN, fNext, fDrop, fMth, fAug, fUnp, fPar, fNil, fCons, fBreak, fAnd, fOr, fNot, fAndV, fOrV, fNotV, fIf, fNoPart, fPart, fSl, fStp, fYes, startE, getC, sh, ow, okb_v, okb_b, Res.d_v, Res.d_b, flat, noB, dsOf, at1, at2, onOwn, isOwn, mAppend, ioC, defK, oGt, oLt, oGe, oLe, oSub, oAdd, oMulA, oMul, oDiv, oMod, oPow, oIx, oEq, oNe, oIsN, oNotN, oIsB, oNotB, oIn, oNotIn, oLst, oTup, oLen, oList, oTuple, oAbs, oToInt, oMax2, oMin2, oMax, oMin, oAll, oAny, oSorted, oIsi, oNeg, oSl, oStp, dInt0, dInt, dAdd, dMulA, dIx, dEq, dIsB, dNotB, dLen, dList, dTuple, dAbs, dToInt, dNeg, dSl, dStp, dB, atInt, dI, pick, pickI, pickC, ix, toEnv, gN, gT, gsNil, gsCons, setRes, fCall, fCallK, mkArgs, distinct, ioIx, putIos, permD, fLc, fSeqI, fRange1, fRange2, fEnum, fZip, overSeq, overEnum, overZip, away, wipeE, back, forGo, fFor, List.length_cons, List.length_nil, List.getElem?_cons_zero, List.getElem?_cons_succ, List.getElem?_nil, List.set_cons_zero, List.set_cons_succ, List.set_nil, List.map_cons, List.map_nil, List.cons_append, List.nil_append, List.replicate, List.getD_cons_zero, List.getD_cons_succ, List.getD_nil, List.any_cons, List.any_nil, true_and, and_true, Bool.false_eq_true, if_true, if_false, ite_true, ite_false, Nat.le_refl, Bool.or_false, Bool.false_or, Bool.or_true, Bool.true_or, Bool.not_true, Bool.not_false, Bool.and_true, Bool.true_and, Bool.and_self, ixN, Option.some.injEq, exists_eq_left, exists_eq_left', Int.reduceToNat, Int.reduceLE, Int.reduceLT, Int.reduceNeg, Int.reduceAdd, Int.reduceSub, Nat.reduceAdd, Nat.reduceLeDiff, reduceIte, reduceCtorEq, decide_true, decide_false, Nat.reduceSub, Int.reducePow, Int.reduceMul, Int.natCast_add, Int.cast_ofNat_Int, Int.natCast_zero, List.contains_nil, List.contains_cons, Nat.reduceBEq, Nat.reduceEqDiff, refr, ap1_eq, ap2_eq, apN_eq, ovr_eq, ovr2_eq, unpk_t, unpk_l, oSlA, oStpA, apP_eq, apF_eq, apL_eq, isScr_map, isNone, eq_self, isi_list, isi_list_tup, isi_list_int, isi_list_str, isi_list_bl, isi_list_non, isi_tuple_list, isi_tuple, isi_tuple_int, isi_tuple_str, isi_tuple_bl, isi_tuple_non, isi_bool_list, isi_bool_tup, isi_bool_int, isi_bool_str, isi_bool, isi_bool_non, isi_str_list, isi_str_tup, isi_str_int, isi_str, isi_str_bl, isi_str_non, isi_int_list, isi_int_tup, isi_int, isi_int_str, isi_int_bl, isi_int_non]
      exact hR
    | int i =>
      simp only [b__law_same]
      simp only [fSeq, fIfS, fTst, fOp1, fOp2, fOpN, fVar, fFz, fMv, fC, fAsg, fAsgO, fSetIx, fRet, fRetN, fNext, fDrop, fMth, fAug, fUnp, fPar, fNil, fCons, fBreak, fAnd, fOr, fNot, fAndV, fOrV, fNotV, fIf, fNoPart, fPart, fSl, fStp, fYes, startE, getC, sh, ow, okb_v, okb_b, Res.d_v, Res.d_b, flat, noB, dsOf, at1, at2, onOwn, isOwn, mAppend, ioC, defK, oGt, oLt, oGe, oLe, oSub, oAdd, oMulA, oMul, oDiv, oMod, oPow, oIx, oEq, oNe, oIsN, oNotN, oIsB, oNotB, oIn, oNotIn, oLst, oTup, oLen, oList, oTuple, oAbs, oToInt, oMax2, oMin2, oMax, oMin, oAll, oAny, oSorted, oIsi, oNeg, oSl, oStp, dInt0, dInt, dAdd, dMulA, dIx, dEq, dIsB, dNotB, dLen, dList, dTuple, dAbs, dToInt, dNeg, dSl, dStp, dB, atInt, dI, pick, pickI, pickC, ix, toEnv, gN, gT, gsNil, gsCons, setRes, fCall, fCallK, mkArgs, distinct, ioIx, putIos, permD, fLc, fSeqI, fRange1, fRange2, fEnum, fZip, overSeq, overEnum, overZip, away, wipeE, back, forGo, fFor, List.length_cons, List.length_nil, List.getElem?_cons_zero, List.getElem?_cons_succ, List.getElem?_nil, List.set_cons_zero, List.set_cons_succ, List.set_nil, List.map_cons, List.map_nil, List.cons_append, List.nil_append, List.replicate, List.getD_cons_zero, List.getD_cons_succ, List.getD_nil, List.any_cons, List.any_nil, true_and, and_true, Bool.false_eq_true, if_true, if_false, ite_true, ite_false, Nat.le_refl, Bool.or_false, Bool.false_or, Bool.or_true, Bool.true_or, Bool.not_true, Bool.not_false, Bool.and_true, Bool.true_and, Bool.and_self, ixN, Option.some.injEq, exists_eq_left, exists_eq_left', Int.reduceToNat, Int.reduceLE, Int.reduceLT, Int.reduceNeg, Int.reduceAdd, Int.reduceSub, Nat.reduceAdd, Nat.reduceLeDiff, reduceIte, reduceCtorEq, decide_true, decide_false, Nat.reduceSub, Int.reducePow, Int.reduceMul, Int.natCast_add, Int.cast_ofNat_Int, Int.natCast_zero, List.contains_nil, List.contains_cons, Nat.reduceBEq, Nat.reduceEqDiff, refr, ap1_eq, ap2_eq, apN_eq, ovr_eq, ovr2_eq, unpk_t, unpk_l, oSlA, oStpA, apP_eq, apF_eq, apL_eq, isScr_map, isNone, eq_self, isi_list, isi_list_tup, isi_list_int, isi_list_str, isi_list_bl, isi_list_non, isi_tuple_list, isi_tuple, isi_tuple_int, isi_tuple_str, isi_tuple_bl, isi_tuple_non, isi_bool_list, isi_bool_tup, isi_bool_int, isi_bool_str, isi_bool, isi_bool_non, isi_str_list, isi_str_tup, isi_str_int, isi_str, isi_str_bl, isi_str_non, isi_int_list, isi_int_tup, isi_int, isi_int_str, isi_int_bl, isi_int_non]
      exact hR
    | str z =>
      simp only [b__law_same]
      simp only [fSeq, fIfS, fTst, fOp1, fOp2, fOpN, fVar, fFz, fMv, fC, fAsg, fAsgO, fSetIx, fRet, fRetN, fNext, fDrop, fMth, fAug, fUnp, fPar, fNil, fCons, fBreak, fAnd, fOr, fNot, fAndV, fOrV, fNotV, fIf, fNoPart, fPart, fSl, fStp, fYes, startE, getC, sh, ow, okb_v, okb_b, Res.d_v, Res.d_b, flat, noB, dsOf, at1, at2, onOwn, isOwn, mAppend, ioC, defK, oGt, oLt, oGe, oLe, oSub, oAdd, oMulA, oMul, oDiv, oMod, oPow, oIx, oEq, oNe, oIsN, oNotN, oIsB, oNotB, oIn, oNotIn, oLst, oTup, oLen, oList, oTuple, oAbs, oToInt, oMax2, oMin2, oMax, oMin, oAll, oAny, oSorted, oIsi, oNeg, oSl, oStp, dInt0, dInt, dAdd, dMulA, dIx, dEq, dIsB, dNotB, dLen, dList, dTuple, dAbs, dToInt, dNeg, dSl, dStp, dB, atInt, dI, pick, pickI, pickC, ix, toEnv, gN, gT, gsNil, gsCons, setRes, fCall, fCallK, mkArgs, distinct, ioIx, putIos, permD, fLc, fSeqI, fRange1, fRange2, fEnum, fZip, overSeq, overEnum, overZip, away, wipeE, back, forGo, fFor, List.length_cons, List.length_nil, List.getElem?_cons_zero, List.getElem?_cons_succ, List.getElem?_nil, List.set_cons_zero, List.set_cons_succ, List.set_nil, List.map_cons, List.map_nil, List.cons_append, List.nil_append, List.replicate, List.getD_cons_zero, List.getD_cons_succ, List.getD_nil, List.any_cons, List.any_nil, true_and, and_true, Bool.false_eq_true, if_true, if_false, ite_true, ite_false, Nat.le_refl, Bool.or_false, Bool.false_or, Bool.or_true, Bool.true_or, Bool.not_true, Bool.not_false, Bool.and_true, Bool.true_and, Bool.and_self, ixN, Option.some.injEq, exists_eq_left, exists_eq_left', Int.reduceToNat, Int.reduceLE, Int.reduceLT, Int.reduceNeg, Int.reduceAdd, Int.reduceSub, Nat.reduceAdd, Nat.reduceLeDiff, reduceIte, reduceCtorEq, decide_true, decide_false, Nat.reduceSub, Int.reducePow, Int.reduceMul, Int.natCast_add, Int.cast_ofNat_Int, Int.natCast_zero, List.contains_nil, List.contains_cons, Nat.reduceBEq, Nat.reduceEqDiff, refr, ap1_eq, ap2_eq, apN_eq, ovr_eq, ovr2_eq, unpk_t, unpk_l, oSlA, oStpA, apP_eq, apF_eq, apL_eq, isScr_map, isNone, eq_self, isi_list, isi_list_tup, isi_list_int, isi_list_str, isi_list_bl, isi_list_non, isi_tuple_list, isi_tuple, isi_tuple_int, isi_tuple_str, isi_tuple_bl, isi_tuple_non, isi_bool_list, isi_bool_tup, isi_bool_int, isi_bool_str, isi_bool, isi_bool_non, isi_str_list, isi_str_tup, isi_str_int, isi_str, isi_str_bl, isi_str_non, isi_int_list, isi_int_tup, isi_int, isi_int_str, isi_int_bl, isi_int_non]
      exact hR
    | list _ => cases h
    | tuple _ => cases h
    | dict _ => cases h
  · rcases hd with rfl | rfl
    all_goals
      simp only [b__law_same]
      simp only [fSeq, fIfS, fTst, fOp1, fOp2, fOpN, fVar, fFz, fMv, fC, fAsg, fAsgO, fSetIx, fRet, fRetN, fNext, fDrop, fMth, fAug, fUnp, fPar, fNil, fCons, fBreak, fAnd, fOr, fNot, fAndV, fOrV, fNotV, fIf, fNoPart, fPart, fSl, fStp, fYes, startE, getC, sh, ow, okb_v, okb_b, Res.d_v, Res.d_b, flat, noB, dsOf, at1, at2, onOwn, isOwn, mAppend, ioC, defK, oGt, oLt, oGe, oLe, oSub, oAdd, oMulA, oMul, oDiv, oMod, oPow, oIx, oEq, oNe, oIsN, oNotN, oIsB, oNotB, oIn, oNotIn, oLst, oTup, oLen, oList, oTuple, oAbs, oToInt, oMax2, oMin2, oMax, oMin, oAll, oAny, oSorted, oIsi, oNeg, oSl, oStp, dInt0, dInt, dAdd, dMulA, dIx, dEq, dIsB, dNotB, dLen, dList, dTuple, dAbs, dToInt, dNeg, dSl, dStp, dB, atInt, dI, pick, pickI, pickC, ix, toEnv, gN, gT, gsNil, gsCons, setRes, fCall, fCallK, mkArgs, distinct, ioIx, putIos, permD, fLc, fSeqI, fRange1, fRange2, fEnum, fZip, overSeq, overEnum, overZip, away, wipeE, back, forGo, fFor, List.length_cons, List.length_nil, List.getElem?_cons_zero, List.getElem?_cons_succ, List.getElem?_nil, List.set_cons_zero, List.set_cons_succ, List.set_nil, List.map_cons, List.map_nil, List.cons_append, List.nil_append, List.replicate, List.getD_cons_zero, List.getD_cons_succ, List.getD_nil, List.any_cons, List.any_nil, true_and, and_true, Bool.false_eq_true, if_true, if_false, ite_true, ite_false, Nat.le_refl, Bool.or_false, Bool.false_or, Bool.or_true, Bool.true_or, Bool.not_true, Bool.not_false, Bool.and_true, Bool.true_and, Bool.and_self, ixN, Option.some.injEq, exists_eq_left, exists_eq_left', Int.reduceToNat, Int.reduceLE, Int.reduceLT, Int.reduceNeg, Int.reduceAdd, Int.reduceSub, Nat.reduceAdd, Nat.reduceLeDiff, reduceIte, reduceCtorEq, decide_true, decide_false, Nat.reduceSub, Int.reducePow, Int.reduceMul, Int.natCast_add, Int.cast_ofNat_Int, Int.natCast_zero, List.contains_nil, List.contains_cons, Nat.reduceBEq, Nat.reduceEqDiff, refr, ap1_eq, ap2_eq, apN_eq, ovr_eq, ovr2_eq, unpk_t, unpk_l, oSlA, oStpA, apP_eq, apF_eq, apL_eq, isScr_map, isNone, eq_self, isi_list, isi_list_tup, isi_list_int, isi_list_str, isi_list_bl, isi_list_non, isi_tuple_list, isi_tuple, isi_tuple_int, isi_tuple_str, isi_tuple_bl, isi_tuple_non, isi_bool_list, isi_bool_tup, isi_bool_int, isi_bool_str, isi_bool, isi_bool_non, isi_str_list, isi_str_tup, isi_str_int, isi_str, isi_str_bl, isi_str_non, isi_int_list, isi_int_tup, isi_int, isi_int_str, isi_int_bl, isi_int_non]
      refine same_all (fun _ => trivial) hl hφ ?_
      simp only [fSeq, fIfS, fTst, fOp1, fOp2, fOpN, fVar, fFz, fMv, fC, fAsg, fAsgO, fSetIx, fRet, fRetN, fNext, fDrop, fMth, fAug, fUnp, fPar, fNil, fCons, fBreak, fAnd, fOr, fNot, fAndV, fOrV, fNotV, fIf, fNoPart, fPart, fSl, fStp, fYes, startE, getC, sh, ow, okb_v, okb_b, Res.d_v, Res.d_b, flat, noB, dsOf, at1, at2, onOwn, isOwn, mAppend, ioC, defK, oGt, oLt, oGe, oLe, oSub, oAdd, oMulA, oMul, oDiv, oMod, oPow, oIx, oEq, oNe, oIsN, oNotN, oIsB, oNotB, oIn, oNotIn, oLst, oTup, oLen, oList, oTuple, oAbs, oToInt, oMax2, oMin2, oMax, oMin, oAll, oAny, oSorted, oIsi, oNeg, oSl, oStp, dInt0, dInt, dAdd, dMulA, dIx, dEq, dIsB, dNotB, dLen, dList, dTuple, dAbs, dToInt, dNeg, dSl, dStp, dB, atInt, dI, pick, pickI, pickC, ix, toEnv, gN, gT, gsNil, gsCons, setRes, fCall, fCallK, mkArgs, distinct, ioIx, putIos, permD, fLc, fSeqI, fRange1, fRange2, fEnum, fZip, overSeq, overEnum, overZip, away, wipeE, back, forGo, fFor, List.length_cons, List.length_nil, List.getElem?_cons_zero, List.getElem?_cons_succ, List.getElem?_nil, List.set_cons_zero, List.set_cons_succ, List.set_nil, List.map_cons, List.map_nil, List.cons_append, List.nil_append, List.replicate, List.getD_cons_zero, List.getD_cons_succ, List.getD_nil, List.any_cons, List.any_nil, true_and, and_true, Bool.false_eq_true, if_true, if_false, ite_true, ite_false, Nat.le_refl, Bool.or_false, Bool.false_or, Bool.or_true, Bool.true_or, Bool.not_true, Bool.not_false, Bool.and_true, Bool.true_and, Bool.and_self, ixN, Option.some.injEq, exists_eq_left, exists_eq_left', Int.reduceToNat, Int.reduceLE, Int.reduceLT, Int.reduceNeg, Int.reduceAdd, Int.reduceSub, Nat.reduceAdd, Nat.reduceLeDiff, reduceIte, reduceCtorEq, decide_true, decide_false, Nat.reduceSub, Int.reducePow, Int.reduceMul, Int.natCast_add, Int.cast_ofNat_Int, Int.natCast_zero, List.contains_nil, List.contains_cons, Nat.reduceBEq, Nat.reduceEqDiff, refr, ap1_eq, ap2_eq, apN_eq, ovr_eq, ovr2_eq, unpk_t, unpk_l, oSlA, oStpA, apP_eq, apF_eq, apL_eq, isScr_map]
      refine ⟨trivial, List.replicate ds.length true, rfl, ?_⟩
      rw [all_true]
      exact hR
theorem vc__law_same (n : Nat) (args R) (h : phSame (n + 1) args R) : b__law_same (phSame n) (startE 4 args) (defK [false, false] R) := by
  obtain ⟨d, rfl, hd, hs, hR⟩ := h
  refine same_any hR ?_
  cases d with
  | list ds =>
    rw [smallF, Bool.and_eq_true] at hs
    exact .inr ⟨ds, .inl rfl, of_decide_eq_true hs.1, fun d h S hS => ⟨d, rfl, List.all_eq_true.mp hd d h, List.all_eq_true.mp hs.2 d h, hS⟩⟩
  | tuple ds =>
    rw [smallF, Bool.and_eq_true] at hs
    exact .inr ⟨ds, .inr rfl, of_decide_eq_true hs.1, fun d h S hS => ⟨d, rfl, List.all_eq_true.mp hd d h, List.all_eq_true.mp hs.2 d h, hS⟩⟩
  | none => exact .inl rfl
  | bool _ => exact .inl rfl
  | int _ => exact .inl rfl
  | str _ => exact .inl hd
  | dict _ => cases hd
theorem vc__law_same0 (args R) (h : phSame 0 args R) : b__law_same noPhi (startE 4 args) (defK [false, false] R) := by
  obtain ⟨d, rfl, hd, hs, hR⟩ := h
  exact same_any hR (.inl hd)
theorem same_ex {n : Nat} {d e : D} {P : Prop} (he : d = e) (h : okD n e) (q : P) : ∃ d' : D, [sh d, sh e] = [sh d', sh d'] ∧ dep n d' = true ∧ smallF n d' = true ∧ P := ⟨e, by rw [he], h.1, h.2, q⟩
-- CALLS
-- CALL call__law_same hh |
theorem call__law_same {d e : D} {R : Cell → List Cell → Prop} (h : Hold (d = e)) (h2 : Hold (okD 7 e)) (q : R (sh (.bool true)) []) : ph__law_same [sh d, sh e] R := ⟨e, by rw [h.out], h2.out.1, h2.out.2, q⟩

def b__law_strewn : FS := (fSeq (fPar [2, 3] [true, true] (fCons (fOpN (at1 oList) (fCons (fVar 1) fNil)) (fCons (fOpN oLst fNil) fNil))) (fSeq (fWhile (fTst (fOp2 oNe (fVar 2) (fOpN oLst fNil))) (fDrop (fMth 3 mAppend (fCons (fMth 2 mPopAt (fCons (fCall [true, false] ph__law_take (fCons (fVar 0) (fCons (fOpN (at1 oLen) (fCons (fVar 2) fNil)) fNil))) fNil)) fNil)))) (fRet (fMv 3))))

def ph__law_strewn : Phi := fun args R => ∃ (n : Nat) (x : Cell) (d : D) (ds : List D), args = [x, ⟨0, d⟩] ∧ (d = .list ds ∨ d = .tuple ds) ∧ Bx n x ∧ n + ds.length < 2 ^ 60 ∧ ds.length ≤ 2 ^ 20 ∧ (∀ e ∈ ds, dep 60 e = true) ∧ ∀ es x', es.Perm ds → Bx (n + ds.length) x' → R ⟨1, .list es⟩ [x']
theorem strewn_go {N : Nat} {d : D} {ds : List D} {k : Kt} (hN : N + ds.length < 2 ^ 60) (hl : ds.length ≤ 2 ^ 20) (hd : ∀ e ∈ ds, dep 60 e = true) (hk : ∀ es x', es.Perm ds → Bx (N + ds.length) x' → k.nx [some x', some (sh d), some (ow (.list [])), some (ow (.list es))]) :
    ∀ (m : Nat) (left acc : List D) (x : Cell), left.length = m → (left ++ acc).Perm ds → Bx (N + acc.length) x →
    whGo (fTst (fOp2 oNe (fVar 2) (fOpN oLst fNil))) (fDrop (fMth 3 mAppend (fCons (fMth 2 mPopAt (fCons (fCall [true, false] ph__law_take (fCons (fVar 0) (fCons (fOpN (at1 oLen) (fCons (fVar 2) fNil)) fNil))) fNil)) fNil))) k (m + 1) [some x, some (sh d), some (ow (.list left)), some (ow (.list acc))] := by
  intro m
  induction m with
  | zero =>
    intro left acc x hm hp hx
    have e : left = [] := List.eq_nil_of_length_eq_zero hm
    subst e
    rw [List.nil_append] at hp
    have := hp.length_eq
    simp only [whGo]
    simp only [fSeq, fIfS, fTst, fOp1, fOp2, fOpN, fVar, fFz, fMv, fC, fAsg, fAsgO, fSetIx, fRet, fRetN, fNext, fDrop, fMth, fAug, fUnp, fPar, fNil, fCons, fBreak, fAnd, fOr, fNot, fAndV, fOrV, fNotV, fIf, fNoPart, fPart, fSl, fStp, fYes, startE, getC, sh, ow, okb_v, okb_b, Res.d_v, Res.d_b, flat, noB, dsOf, at1, at2, onOwn, isOwn, mAppend, ioC, defK, oGt, oLt, oGe, oLe, oSub, oAdd, oMulA, oMul, oDiv, oMod, oPow, oIx, oEq, oNe, oIsN, oNotN, oIsB, oNotB, oIn, oNotIn, oLst, oTup, oLen, oList, oTuple, oAbs, oToInt, oMax2, oMin2, oMax, oMin, oAll, oAny, oSorted, oIsi, oNeg, oSl, oStp, dInt0, dInt, dAdd, dMulA, dIx, dEq, dIsB, dNotB, dLen, dList, dTuple, dAbs, dToInt, dNeg, dSl, dStp, dB, atInt, dI, pick, pickI, pickC, ix, toEnv, gN, gT, gsNil, gsCons, setRes, fCall, fCallK, mkArgs, distinct, ioIx, putIos, permD, fLc, fSeqI, fRange1, fRange2, fEnum, fZip, overSeq, overEnum, overZip, away, wipeE, back, forGo, fFor, List.length_cons, List.length_nil, List.getElem?_cons_zero, List.getElem?_cons_succ, List.getElem?_nil, List.set_cons_zero, List.set_cons_succ, List.set_nil, List.map_cons, List.map_nil, List.cons_append, List.nil_append, List.replicate, List.getD_cons_zero, List.getD_cons_succ, List.getD_nil, List.any_cons, List.any_nil, true_and, and_true, Bool.false_eq_true, if_true, if_false, ite_true, ite_false, Nat.le_refl, Bool.or_false, Bool.false_or, Bool.or_true, Bool.true_or, Bool.not_true, Bool.not_false, Bool.and_true, Bool.true_and, Bool.and_self, ixN, Option.some.injEq, exists_eq_left, exists_eq_left', Int.reduceToNat, Int.reduceLE, Int.reduceLT, Int.reduceNeg, Int.reduceAdd, Int.reduceSub, Nat.reduceAdd, Nat.reduceLeDiff, reduceIte, reduceCtorEq, decide_true, decide_false, Nat.reduceSub, Int.reducePow, Int.reduceMul, Int.natCast_add, Int.cast_ofNat_Int, Int.natCast_zero, List.contains_nil, List.contains_cons, Nat.reduceBEq, Nat.reduceEqDiff, refr, ap1_eq, ap2_eq, apN_eq, ovr_eq, ovr2_eq, unpk_t, unpk_l, oSlA, oStpA, apP_eq, apF_eq, apL_eq, isScr_map]
    refine ⟨Nat.zero_le _, by decide, by decide, ?_⟩
    show k.nx _
    exact hk acc x hp (by rw [← this]; exact hx)
  | succ m ih =>
    intro left acc x hm hp hx
    obtain ⟨xd, rfl⟩ := hx.ex
    have hll := hp.length_eq
    rw [List.length_append] at hll
    have hs : shp (.list left) := dep_shp (n := 61) (List.all_eq_true.mpr fun e he => hd e (hp.subset (List.mem_append_left _ he))) (by decide)
    have hz : (2 : Nat) ^ 20 < sizeLine := by decide
    match left, hm with
    | a :: left, hm =>
      have hlc : (a :: left).length = left.length + 1 := rfl
      have hne : PyData.eqv (.list (a :: left)) (.list []) = false := rfl
      rw [whGo]
      simp only [fSeq, fIfS, fTst, fOp1, fOp2, fOpN, fVar, fFz, fMv, fC, fAsg, fAsgO, fSetIx, fRet, fRetN, fNext, fDrop, fMth, fAug, fUnp, fPar, fNil, fCons, fBreak, fAnd, fOr, fNot, fAndV, fOrV, fNotV, fIf, fNoPart, fPart, fSl, fStp, fYes, startE, getC, sh, ow, okb_v, okb_b, Res.d_v, Res.d_b, flat, noB, dsOf, at1, at2, onOwn, isOwn, mAppend, ioC, defK, oGt, oLt, oGe, oLe, oSub, oAdd, oMulA, oMul, oDiv, oMod, oPow, oIx, oEq, oNe, oIsN, oNotN, oIsB, oNotB, oIn, oNotIn, oLst, oTup, oLen, oList, oTuple, oAbs, oToInt, oMax2, oMin2, oMax, oMin, oAll, oAny, oSorted, oIsi, oNeg, oSl, oStp, dInt0, dInt, dAdd, dMulA, dIx, dEq, dIsB, dNotB, dLen, dList, dTuple, dAbs, dToInt, dNeg, dSl, dStp, dB, atInt, dI, pick, pickI, pickC, ix, toEnv, gN, gT, gsNil, gsCons, setRes, fCall, fCallK, mkArgs, distinct, ioIx, putIos, permD, fLc, fSeqI, fRange1, fRange2, fEnum, fZip, overSeq, overEnum, overZip, away, wipeE, back, forGo, fFor, List.length_cons, List.length_nil, List.getElem?_cons_zero, List.getElem?_cons_succ, List.getElem?_nil, List.set_cons_zero, List.set_cons_succ, List.set_nil, List.map_cons, List.map_nil, List.cons_append, List.nil_append, List.replicate, List.getD_cons_zero, List.getD_cons_succ, List.getD_nil, List.any_cons, List.any_nil, true_and, and_true, Bool.false_eq_true, if_true, if_false, ite_true, ite_false, Nat.le_refl, Bool.or_false, Bool.false_or, Bool.or_true, Bool.true_or, Bool.not_true, Bool.not_false, Bool.and_true, Bool.true_and, Bool.and_self, ixN, Option.some.injEq, exists_eq_left, exists_eq_left', Int.reduceToNat, Int.reduceLE, Int.reduceLT, Int.reduceNeg, Int.reduceAdd, Int.reduceSub, Nat.reduceAdd, Nat.reduceLeDiff, reduceIte, reduceCtorEq, decide_true, decide_false, Nat.reduceSub, Int.reducePow, Int.reduceMul, Int.natCast_add, Int.cast_ofNat_Int, Int.natCast_zero, List.contains_nil, List.contains_cons, Nat.reduceBEq, Nat.reduceEqDiff, refr, ap1_eq, ap2_eq, apN_eq, ovr_eq, ovr2_eq, unpk_t, unpk_l, oSlA, oStpA, apP_eq, apF_eq, apL_eq, isScr_map]
      refine ⟨Nat.zero_le _, hs, by decide, ?_⟩
      rw [hne]
      simp only [fSeq, fIfS, fTst, fOp1, fOp2, fOpN, fVar, fFz, fMv, fC, fAsg, fAsgO, fSetIx, fRet, fRetN, fNext, fDrop, fMth, fAug, fUnp, fPar, fNil, fCons, fBreak, fAnd, fOr, fNot, fAndV, fOrV, fNotV, fIf, fNoPart, fPart, fSl, fStp, fYes, startE, getC, sh, ow, okb_v, okb_b, Res.d_v, Res.d_b, flat, noB, dsOf, at1, at2, onOwn, isOwn, mAppend, ioC, defK, oGt, oLt, oGe, oLe, oSub, oAdd, oMulA, oMul, oDiv, oMod, oPow, oIx, oEq, oNe, oIsN, oNotN, oIsB, oNotB, oIn, oNotIn, oLst, oTup, oLen, oList, oTuple, oAbs, oToInt, oMax2, oMin2, oMax, oMin, oAll, oAny, oSorted, oIsi, oNeg, oSl, oStp, dInt0, dInt, dAdd, dMulA, dIx, dEq, dIsB, dNotB, dLen, dList, dTuple, dAbs, dToInt, dNeg, dSl, dStp, dB, atInt, dI, pick, pickI, pickC, ix, toEnv, gN, gT, gsNil, gsCons, setRes, fCall, fCallK, mkArgs, distinct, ioIx, putIos, permD, fLc, fSeqI, fRange1, fRange2, fEnum, fZip, overSeq, overEnum, overZip, away, wipeE, back, forGo, fFor, List.length_cons, List.length_nil, List.getElem?_cons_zero, List.getElem?_cons_succ, List.getElem?_nil, List.set_cons_zero, List.set_cons_succ, List.set_nil, List.map_cons, List.map_nil, List.cons_append, List.nil_append, List.replicate, List.getD_cons_zero, List.getD_cons_succ, List.getD_nil, List.any_cons, List.any_nil, true_and, and_true, Bool.false_eq_true, if_true, if_false, ite_true, ite_false, Nat.le_refl, Bool.or_false, Bool.false_or, Bool.or_true, Bool.true_or, Bool.not_true, Bool.not_false, Bool.and_true, Bool.true_and, Bool.and_self, ixN, Option.some.injEq, exists_eq_left, exists_eq_left', Int.reduceToNat, Int.reduceLE, Int.reduceLT, Int.reduceNeg, Int.reduceAdd, Int.reduceSub, Nat.reduceAdd, Nat.reduceLeDiff, reduceIte, reduceCtorEq, decide_true, decide_false, Nat.reduceSub, Int.reducePow, Int.reduceMul, Int.natCast_add, Int.cast_ofNat_Int, Int.natCast_zero, List.contains_nil, List.contains_cons, Nat.reduceBEq, Nat.reduceEqDiff, refr, ap1_eq, ap2_eq, apN_eq, ovr_eq, ovr2_eq, unpk_t, unpk_l, oSlA, oStpA, apP_eq, apF_eq, apL_eq, isScr_map]
      refine ⟨N + acc.length, hx, by omega, by omega, by omega, fun t x' t0 t1 hx' => ?_⟩
      obtain ⟨xd', rfl⟩ := hx'.ex
      have ht : t.toNat < (a :: left).length := by rw [List.length_cons]; omega
      simp only [mPopAt]
      simp only [fSeq, fIfS, fTst, fOp1, fOp2, fOpN, fVar, fFz, fMv, fC, fAsg, fAsgO, fSetIx, fRet, fRetN, fNext, fDrop, fMth, fAug, fUnp, fPar, fNil, fCons, fBreak, fAnd, fOr, fNot, fAndV, fOrV, fNotV, fIf, fNoPart, fPart, fSl, fStp, fYes, startE, getC, sh, ow, okb_v, okb_b, Res.d_v, Res.d_b, flat, noB, dsOf, at1, at2, onOwn, isOwn, mAppend, ioC, defK, oGt, oLt, oGe, oLe, oSub, oAdd, oMulA, oMul, oDiv, oMod, oPow, oIx, oEq, oNe, oIsN, oNotN, oIsB, oNotB, oIn, oNotIn, oLst, oTup, oLen, oList, oTuple, oAbs, oToInt, oMax2, oMin2, oMax, oMin, oAll, oAny, oSorted, oIsi, oNeg, oSl, oStp, dInt0, dInt, dAdd, dMulA, dIx, dEq, dIsB, dNotB, dLen, dList, dTuple, dAbs, dToInt, dNeg, dSl, dStp, dB, atInt, dI, pick, pickI, pickC, ix, toEnv, gN, gT, gsNil, gsCons, setRes, fCall, fCallK, mkArgs, distinct, ioIx, putIos, permD, fLc, fSeqI, fRange1, fRange2, fEnum, fZip, overSeq, overEnum, overZip, away, wipeE, back, forGo, fFor, List.length_cons, List.length_nil, List.getElem?_cons_zero, List.getElem?_cons_succ, List.getElem?_nil, List.set_cons_zero, List.set_cons_succ, List.set_nil, List.map_cons, List.map_nil, List.cons_append, List.nil_append, List.replicate, List.getD_cons_zero, List.getD_cons_succ, List.getD_nil, List.any_cons, List.any_nil, true_and, and_true, Bool.false_eq_true, if_true, if_false, ite_true, ite_false, Nat.le_refl, Bool.or_false, Bool.false_or, Bool.or_true, Bool.true_or, Bool.not_true, Bool.not_false, Bool.and_true, Bool.true_and, Bool.and_self, ixN, Option.some.injEq, exists_eq_left, exists_eq_left', Int.reduceToNat, Int.reduceLE, Int.reduceLT, Int.reduceNeg, Int.reduceAdd, Int.reduceSub, Nat.reduceAdd, Nat.reduceLeDiff, reduceIte, reduceCtorEq, decide_true, decide_false, Nat.reduceSub, Int.reducePow, Int.reduceMul, Int.natCast_add, Int.cast_ofNat_Int, Int.natCast_zero, List.contains_nil, List.contains_cons, Nat.reduceBEq, Nat.reduceEqDiff, refr, ap1_eq, ap2_eq, apN_eq, ovr_eq, ovr2_eq, unpk_t, unpk_l, oSlA, oStpA, apP_eq, apF_eq, apL_eq, isScr_map]
      refine ⟨t.toNat, (a :: left)[t.toNat], six t0 t1, List.getElem?_eq_getElem ht, by omega, by omega, ?_⟩
      refine ih _ _ _ ?_ ?_ ?_
      · rw [List.length_eraseIdx_of_lt ht]; rw [List.length_cons] at hm ⊢; omega
      · refine List.Perm.trans ?_ hp
        have p1 : ((a :: left)[t.toNat] :: (a :: left).eraseIdx t.toNat).Perm (a :: left) := pop_perm _ _ _ (List.getElem?_eq_getElem ht)
        refine List.Perm.trans ?_ (p1.append_right acc)
        rw [← List.append_assoc]
        exact (List.perm_append_singleton _ _)
      · rw [List.length_append]; exact hx'
theorem vc__law_strewn (args R) (h : ph__law_strewn args R) : b__law_strewn (startE 4 args) (defK [true, false] R) := by
  obtain ⟨n, x, d, ds, rfl, hd, hx, hn, hl, hdep, hR⟩ := h
  have hz : (2 : Nat) ^ 20 < sizeLine := by decide
  obtain ⟨xd, rfl⟩ := hx.ex
  rcases hd with rfl | rfl
  all_goals
    simp only [b__law_strewn]
    simp only [fSeq, fIfS, fTst, fOp1, fOp2, fOpN, fVar, fFz, fMv, fC, fAsg, fAsgO, fSetIx, fRet, fRetN, fNext, fDrop, fMth, fAug, fUnp, fPar, fNil, fCons, fBreak, fAnd, fOr, fNot, fAndV, fOrV, fNotV, fIf, fNoPart, fPart, fSl, fStp, fYes, startE, getC, sh, ow, okb_v, okb_b, Res.d_v, Res.d_b, flat, noB, dsOf, at1, at2, onOwn, isOwn, mAppend, ioC, defK, oGt, oLt, oGe, oLe, oSub, oAdd, oMulA, oMul, oDiv, oMod, oPow, oIx, oEq, oNe, oIsN, oNotN, oIsB, oNotB, oIn, oNotIn, oLst, oTup, oLen, oList, oTuple, oAbs, oToInt, oMax2, oMin2, oMax, oMin, oAll, oAny, oSorted, oIsi, oNeg, oSl, oStp, dInt0, dInt, dAdd, dMulA, dIx, dEq, dIsB, dNotB, dLen, dList, dTuple, dAbs, dToInt, dNeg, dSl, dStp, dB, atInt, dI, pick, pickI, pickC, ix, toEnv, gN, gT, gsNil, gsCons, setRes, fCall, fCallK, mkArgs, distinct, ioIx, putIos, permD, fLc, fSeqI, fRange1, fRange2, fEnum, fZip, overSeq, overEnum, overZip, away, wipeE, back, forGo, fFor, List.length_cons, List.length_nil, List.getElem?_cons_zero, List.getElem?_cons_succ, List.getElem?_nil, List.set_cons_zero, List.set_cons_succ, List.set_nil, List.map_cons, List.map_nil, List.cons_append, List.nil_append, List.replicate, List.getD_cons_zero, List.getD_cons_succ, List.getD_nil, List.any_cons, List.any_nil, true_and, and_true, Bool.false_eq_true, if_true, if_false, ite_true, ite_false, Nat.le_refl, Bool.or_false, Bool.false_or, Bool.or_true, Bool.true_or, Bool.not_true, Bool.not_false, Bool.and_true, Bool.true_and, Bool.and_self, ixN, Option.some.injEq, exists_eq_left, exists_eq_left', Int.reduceToNat, Int.reduceLE, Int.reduceLT, Int.reduceNeg, Int.reduceAdd, Int.reduceSub, Nat.reduceAdd, Nat.reduceLeDiff, reduceIte, reduceCtorEq, decide_true, decide_false, Nat.reduceSub, Int.reducePow, Int.reduceMul, Int.natCast_add, Int.cast_ofNat_Int, Int.natCast_zero, List.contains_nil, List.contains_cons, Nat.reduceBEq, Nat.reduceEqDiff, refr, ap1_eq, ap2_eq, apN_eq, ovr_eq, ovr2_eq, unpk_t, unpk_l, oSlA, oStpA, apP_eq, apF_eq, apL_eq, isScr_map]
    refine ⟨Nat.zero_le _, ds.length + 1, ?_⟩
    refine strewn_go hn hl hdep (fun es x' hp hx' => ?_) ds.length ds [] _ rfl (by rw [List.append_nil]) hx
    obtain ⟨xd', rfl⟩ := hx'.ex
    simp only [fSeq, fIfS, fTst, fOp1, fOp2, fOpN, fVar, fFz, fMv, fC, fAsg, fAsgO, fSetIx, fRet, fRetN, fNext, fDrop, fMth, fAug, fUnp, fPar, fNil, fCons, fBreak, fAnd, fOr, fNot, fAndV, fOrV, fNotV, fIf, fNoPart, fPart, fSl, fStp, fYes, startE, getC, sh, ow, okb_v, okb_b, Res.d_v, Res.d_b, flat, noB, dsOf, at1, at2, onOwn, isOwn, mAppend, ioC, defK, oGt, oLt, oGe, oLe, oSub, oAdd, oMulA, oMul, oDiv, oMod, oPow, oIx, oEq, oNe, oIsN, oNotN, oIsB, oNotB, oIn, oNotIn, oLst, oTup, oLen, oList, oTuple, oAbs, oToInt, oMax2, oMin2, oMax, oMin, oAll, oAny, oSorted, oIsi, oNeg, oSl, oStp, dInt0, dInt, dAdd, dMulA, dIx, dEq, dIsB, dNotB, dLen, dList, dTuple, dAbs, dToInt, dNeg, dSl, dStp, dB, atInt, dI, pick, pickI, pickC, ix, toEnv, gN, gT, gsNil, gsCons, setRes, fCall, fCallK, mkArgs, distinct, ioIx, putIos, permD, fLc, fSeqI, fRange1, fRange2, fEnum, fZip, overSeq, overEnum, overZip, away, wipeE, back, forGo, fFor, List.length_cons, List.length_nil, List.getElem?_cons_zero, List.getElem?_cons_succ, List.getElem?_nil, List.set_cons_zero, List.set_cons_succ, List.set_nil, List.map_cons, List.map_nil, List.cons_append, List.nil_append, List.replicate, List.getD_cons_zero, List.getD_cons_succ, List.getD_nil, List.any_cons, List.any_nil, true_and, and_true, Bool.false_eq_true, if_true, if_false, ite_true, ite_false, Nat.le_refl, Bool.or_false, Bool.false_or, Bool.or_true, Bool.true_or, Bool.not_true, Bool.not_false, Bool.and_true, Bool.true_and, Bool.and_self, ixN, Option.some.injEq, exists_eq_left, exists_eq_left', Int.reduceToNat, Int.reduceLE, Int.reduceLT, Int.reduceNeg, Int.reduceAdd, Int.reduceSub, Nat.reduceAdd, Nat.reduceLeDiff, reduceIte, reduceCtorEq, decide_true, decide_false, Nat.reduceSub, Int.reducePow, Int.reduceMul, Int.natCast_add, Int.cast_ofNat_Int, Int.natCast_zero, List.contains_nil, List.contains_cons, Nat.reduceBEq, Nat.reduceEqDiff, refr, ap1_eq, ap2_eq, apN_eq, ovr_eq, ovr2_eq, unpk_t, unpk_l, oSlA, oStpA, apP_eq, apF_eq, apL_eq, isScr_map]
    exact hR _ _ hp hx'
-- CALLS
-- CALL call__law_strewn ddhh | es x' hes hx'
-- CALL call__law_strewnM ddhhh | es x' hes hx'
theorem call__law_strewn {xs : List Int} {m : Nat} {x : Cell} {d : D} {R : Cell → List Cell → Prop} (hd : Ints d xs) (hx : Bk m x) (h1 : Hold (xs.length ≤ m)) (h2 : Hold (xs.length ≤ 2 ^ 20)) (q : ∀ es x', List.Perm es xs → Bk (m - xs.length) (ow x') → R ⟨1, .list (es.map .int)⟩ [ow x']) : ph__law_strewn [x, ⟨0, d⟩] R := by
  obtain ⟨n, a, b⟩ := hx.get
  have h1' := h1.out
  have hl : (xs.map PyData.int).length = xs.length := List.length_map _
  exact ⟨n, x, d, _, rfl, hd, a, by omega, by rw [hl]; exact h2.out, fun e he => (by obtain ⟨i, _, rfl⟩ := List.mem_map.mp he; rfl), fun es x' p a3 => by
    obtain ⟨d, rfl⟩ := a3.ex
    obtain ⟨us, p', rfl⟩ := perm_map p
    exact q us d p' (.of a3 (by omega))⟩
theorem call__law_strewnM {α : Type} {inj : α → D} {xs : List α} {m : Nat} {x : Cell} {d : D} {R : Cell → List Cell → Prop} (hd : Sq d (xs.map inj)) (hx : Bk m x) (h1 : Hold (xs.length ≤ m)) (h2 : Hold (xs.length ≤ 2 ^ 20)) (h3 : Hold (∀ x ∈ xs, dep 60 (inj x) = true)) (q : ∀ es x', List.Perm es xs → Bk (m - xs.length) (ow x') → R ⟨1, .list (es.map inj)⟩ [ow x']) : ph__law_strewn [x, ⟨0, d⟩] R := by
  obtain ⟨n, a, b⟩ := hx.get
  have h1' := h1.out
  have hl : (xs.map inj).length = xs.length := List.length_map _
  exact ⟨n, x, d, _, rfl, hd, a, by omega, by rw [hl]; exact h2.out, fun e he => (by obtain ⟨i, hi, rfl⟩ := List.mem_map.mp he; exact h3.out i hi), fun es x' p a3 => by
    obtain ⟨d, rfl⟩ := a3.ex
    obtain ⟨us, p', rfl⟩ := perm_map p
    exact q us d p' (.of a3 (by omega))⟩

local macro_rules | `(tactic| row_room_at pv_call__law_take) => `(tactic| (refine apP_op (call__law_take (by row_room_at pv_sd) ?_ ?_ ?_ (fun t x' ht0 ht1 hx' => ?_)); (first | (focus row_room_at pv_hs) | rotate_left); (first | (focus row_room_at pv_hs) | rotate_left); (first | (focus row_room_at pv_hs) | rotate_left)))
local macro_rules | `(tactic| row_room_at pv_call__law_ofS) => `(tactic| (refine apP_op (call__law_ofS rfl (by row_room_at pv_sd) ?_ (fun b x' hx' => ?_)); (first | (focus row_room_at pv_hs) | rotate_left)))
local macro_rules | `(tactic| row_room_at pv_call__law_of) => `(tactic| (refine apP_op (call__law_of (by row_room_at pv_sd) (by row_room_at pv_sd) ?_ ?_ ?_ (fun i x' hi hx' => ?_)); (first | (focus row_room_at pv_hs) | rotate_left); (first | (focus row_room_at pv_hs) | rotate_left); (first | (focus row_room_at pv_hs) | rotate_left)))
local macro_rules | `(tactic| row_room_at pv_call__law_ofM) => `(tactic| (refine apP_op (call__law_ofM (by row_room_at pv_sd) (by row_room_at pv_sd) ?_ ?_ ?_ (fun y x' hy hx' => ?_)); (first | (focus row_room_at pv_hs) | rotate_left); (first | (focus row_room_at pv_hs) | rotate_left); (first | (focus row_room_at pv_hs) | rotate_left)))
local macro_rules | `(tactic| row_room_at pv_call__law_strewn) => `(tactic| (refine apP_op (call__law_strewn (by row_room_at pv_sd) (by row_room_at pv_sd) ?_ ?_ (fun es x' hes hx' => ?_)); (first | (focus row_room_at pv_hs) | rotate_left); (first | (focus row_room_at pv_hs) | rotate_left)))
local macro_rules | `(tactic| row_room_at pv_call__law_strewnM) => `(tactic| (refine apP_op (call__law_strewnM (by row_room_at pv_sd) (by row_room_at pv_sd) ?_ ?_ ?_ (fun es x' hes hx' => ?_)); (first | (focus row_room_at pv_hs) | rotate_left); (first | (focus row_room_at pv_hs) | rotate_left); (first | (focus row_room_at pv_hs) | rotate_left)))
local macro_rules | `(tactic| row_room_at pv_st__law_wire) => `(tactic| ((try (conv => whnf)); first | ((with_reducible show _ ∧ _); row_room_at pv_and) | ((with_reducible show ap2 _ _ _ _); row_room_at pv_op2) | ((with_reducible show apN _ _ _); row_room_at pv_opN) | ((with_reducible show ap1 _ _ _); row_room_at pv_op1) | ((with_reducible show ovr _ _); row_room_at pv_ov) | ((with_reducible show ovr2 _ _ _); row_room_at pv_ov2) | ((with_reducible show apP _ _ _); row_room_at pv_cl; first | row_room_at pv_call__law_take | row_room_at pv_call__law_ofS | row_room_at pv_call__law_of | row_room_at pv_call__law_ofM | row_room_at pv_call__law_strewn | row_room_at pv_call__law_strewnM) | ((with_reducible show apP _ _ _); row_room_at pv_cl; (first | (rw [sd_l]; first | row_room_at pv_call__law_take | row_room_at pv_call__law_ofS | row_room_at pv_call__law_of | row_room_at pv_call__law_ofM | row_room_at pv_call__law_strewn | row_room_at pv_call__law_strewnM) | (rw [sd_r]; first | row_room_at pv_call__law_take | row_room_at pv_call__law_ofS | row_room_at pv_call__law_of | row_room_at pv_call__law_ofM | row_room_at pv_call__law_strewn | row_room_at pv_call__law_strewnM))) | row_room_at pv_late))
local macro_rules | `(tactic| row_room_at pv_go__law_wire) => `(tactic| (repeat' row_room_at pv_st__law_wire))
local macro_rules | `(tactic| row_room_at pv_gox__law_wire) => `(tactic| (repeat' ((try (conv => whnf)); first | ((with_reducible show _ ∧ _); row_room_at pv_and) | ((with_reducible show ap2 _ _ _ _); row_room_at pv_op2) | ((with_reducible show apN _ _ _); row_room_at pv_opN) | ((with_reducible show ap1 _ _ _); row_room_at pv_op1) | ((with_reducible show ovr _ _); row_room_at pv_ov) | ((with_reducible show ovr2 _ _ _); row_room_at pv_ov2) | ((with_reducible show apP _ _ _); row_room_at pv_cl; first | row_room_at pv_call__law_take | row_room_at pv_call__law_ofS | row_room_at pv_call__law_of | row_room_at pv_call__law_ofM | row_room_at pv_call__law_strewn | row_room_at pv_call__law_strewnM) | ((with_reducible show apP _ _ _); row_room_at pv_cl; (first | (rw [sd_l]; first | row_room_at pv_call__law_take | row_room_at pv_call__law_ofS | row_room_at pv_call__law_of | row_room_at pv_call__law_ofM | row_room_at pv_call__law_strewn | row_room_at pv_call__law_strewnM) | (rw [sd_r]; first | row_room_at pv_call__law_take | row_room_at pv_call__law_ofS | row_room_at pv_call__law_of | row_room_at pv_call__law_ofM | row_room_at pv_call__law_strewn | row_room_at pv_call__law_strewnM))) | row_room_at pv_latex)))
local macro_rules | `(tactic| row_room_at pv_gou__law_wire) => `(tactic| (repeat' (first | (with_reducible refine apF_op ?_) | (with_reducible refine apL_op ?_) | row_room_at pv_st__law_wire)))

def b__law_wire : FS := (fSeq (fPar [2, 3] [false, false] (fCons (fOp2 oAdd (fC (.int 1)) (fCall [true, false] ph__law_take (fCons (fVar 0) (fCons (fVar 1) fNil)))) (fCons (fCall [true, false] ph__law_of (fCons (fVar 0) (fCons (fOpN oLst (fCons (fC (.int 1)) (fCons (fC (.int 1)) (fCons (fC (.int 3)) (fCons (fOp2 oPow (fC (.int 10)) (fC (.int 6))) (fCons (fOp2 oPow (fC (.int 10)) (fC (.int 10))) fNil)))))) fNil))) fNil))) (fSeq (fPar [4, 5] [false, true] (fCons (fCall [true, false] ph__law_of (fCons (fVar 0) (fCons (fOpN oLst (fCons (fC (.int 0)) (fCons (fC (.int 0)) (fCons (fC (.int 0)) (fCons (fOp2 oPow (fC (.int 10)) (fC (.int 11))) fNil))))) fNil))) (fCons (fOpN oLst fNil) fNil))) (fSeq (fFor (fRange1 (fCons (fVar 2) fNil)) (gN 6) (fSeq (fAsg 4 (fOp2 oAdd (fOp2 oAdd (fVar 4) (fC (.int 1))) (fCall [true, false] ph__law_take (fCons (fVar 0) (fCons (fVar 3) fNil))))) (fDrop (fMth 5 mAppend (fCons (fVar 4) fNil))))) (fSeq (fAsg 7 (fCall [true, false] ph__law_take (fCons (fVar 0) (fCons (fC (.int 8)) fNil)))) (fSeq (fIfS (fTst (fOp2 oLt (fVar 7) (fC (.int 2)))) (fRet (fOpN (at1 oTuple) (fCons (fStp (fVar 5) (fPart (fOp2 oIx (fOpN oLst (fCons (fC (.int 1)) (fCons (fOp1 oNeg (fC (.int 1))) fNil))) (fVar 7)))) fNil))) fNext) (fRet (fOpN (at1 oTuple) (fCons (fCall [true, false] ph__law_strewn (fCons (fVar 0) (fCons (fFz 5) fNil))) fNil))))))))

@[irreducible] def ph__law_wire : Phi := fun args R => ∃ (m : Nat) (xd : D) (s : Int), args = [ow xd, sh (.int s)] ∧ (Bk m (ow xd)) ∧ (300 ≤ m) ∧ (1 ≤ s) ∧ (s ≤ 100) ∧ ∀ (ws : List Int) (x' : D), (wireOk s ws) → (0 < ws.length) → ((ws.length : Int) ≤ s) → (Bk (m - 300) (ow x')) → R (sh (.tuple (ws.map .int))) [ow x']
theorem call__law_wire {m : Nat}{xd : D}{s : Int} {R : Cell → List Cell → Prop} (hx : Bk m (ow xd)) (hm : Hold (300 ≤ m)) (hs : Hold (1 ≤ s)) (hs2 : Hold (s ≤ 100)) (q : ∀ (ws : List Int) (x' : D), (wireOk s ws) → (0 < ws.length) → ((ws.length : Int) ≤ s) → (Bk (m - 300) (ow x')) → R (sh (.tuple (ws.map .int))) [ow x']) : ph__law_wire [ow xd, sh (.int s)] R := by
  unfold ph__law_wire
  exact ⟨m, xd, s, rfl, hx, hm.out, hs.out, hs2.out, q⟩
theorem vc__law_wire (args R) (h : ph__law_wire args R) : b__law_wire (startE 8 args) (defK [true, false] R) := by
  unfold ph__law_wire at h
  obtain ⟨m, xd, s, rfl, hx, hm, hs, hs2, hR⟩ := h
  (row_room_at pv_go__law_wire; row_room_at pv_end)
  rename_i xa hxa gap xb hgap hxb
  have hg : 1 ≤ gap ∧ gap ≤ 10000000000 := by
    rw [show (10 : Int) ^ Int.toNat 6 = 1000000 by decide, show (10 : Int) ^ Int.toNat 10 = 10000000000 by decide] at hgap
    simp only [List.mem_cons, List.not_mem_nil, or_false] at hgap
    omega
  have hi0 : 0 ≤ i ∧ i ≤ 100000000000 := by
    rw [show (10 : Int) ^ Int.toNat 11 = 100000000000 by decide] at hi
    simp only [List.mem_cons, List.not_mem_nil, or_false] at hi
    omega
  refine for_st .int (fun xs E e => ∃ (z : D) (vs : List Int) (deep : Int) (o6 : Option Cell), Bk (xs.length + (m - 150)) (ow z) ∧ (vs.length : Int) + xs.length = 1 + t ∧ vs.Pairwise (· < ·) ∧ (∀ v ∈ vs, 1 ≤ v ∧ v ≤ deep) ∧ 0 ≤ deep ∧ deep ≤ 100000000000 + (vs.length : Int) * 10000000000 ∧
    e = ((((E.set 0 (some (ow z))).set 4 (some (sh (.int deep)))).set 5 (some (ow (.list (vs.map .int))))).set 6 o6)) ⟨_, [], i, _, Bk.le hx' (by rw [irange_len]; omega), by rw [irange_len]; simp; omega, List.Pairwise.nil, (fun v hv => by cases hv), hi0.1, by simpa using hi0.2, rfl⟩ (fun x xs e N hI hN => ?_) (fun e hI => ?_)
  · obtain ⟨z, vs, deep, o6, e1, e2, e3, e4, e5, e6, rfl⟩ := hI
    rw [List.length_cons] at e1 e2
    clear hR hx hxa hxb hx'
    row_room_at pv_cl
    (row_room_at pv_go__law_wire; row_room_at pv_end)
    refine hN _ ⟨x', vs ++ [deep + 1 + t], deep + 1 + t, some (sh (.int x)), Bk.le hx' (by omega), ?_, ?_, ?_, ?_, ?_, ?_⟩
    · rw [List.length_append, List.length_singleton]; omega
    · rw [List.pairwise_append]
      exact ⟨e3, List.pairwise_singleton _ _, fun a ha b hb => by have := e4 a ha; rw [List.mem_singleton.mp hb]; omega⟩
    · intro v hv
      rcases List.mem_append.mp hv with h | h
      · have := e4 v h; omega
      · rw [List.mem_singleton.mp h]; omega
    · omega
    · rw [List.length_append, List.length_singleton]; omega
    · rw [List.map_append]; rfl
  · obtain ⟨z, vs, deep, o6, e1, e2, e3, e4, e5, e6, rfl⟩ := hI
    rw [List.length_nil] at e1 e2
    have hvl : vs.length ≤ 100 := by omega
    have ok : wireOk s vs := ⟨by omega, by omega, nodup_lt e3, fun w hw => by have := e4 w hw; omega⟩
    clear hx hxa hxb hx'
    row_room_at pv_cl
    (row_room_at pv_go__law_wire; row_room_at pv_end)
    · refine ⟨⟨Nat.le_refl 1, .inl hc⟩, ?_⟩
      (row_room_at pv_go__law_wire; row_room_at pv_end)
      exact hR vs _ ok ok.1 ok.2.1 (Bk.le hx' (by omega))
    · have ht : t = 1 := by
        have : t = 0 ∨ t = 1 := by omega
        rcases this with h | h
        · subst h; exact absurd rfl hc
        · exact h
      subst ht
      refine ⟨⟨Nat.le_refl 1, .inr rfl⟩, ?_⟩
      (row_room_at pv_go__law_wire; row_room_at pv_end)
      rw [← List.map_reverse]
      have ok2 := ok.of (List.reverse_perm vs)
      exact hR vs.reverse _ ok2 ok2.1 ok2.2.1 (Bk.le hx' (by omega))
    · have ok2 := ok.of hes
      exact hR es _ ok2 ok2.1 ok2.2.1 (Bk.le hx' (by omega))

local macro_rules | `(tactic| row_room_at pv_st__law_power) => `(tactic| ((try (conv => whnf)); first | ((with_reducible show _ ∧ _); row_room_at pv_and) | ((with_reducible show ap2 _ _ _ _); row_room_at pv_op2) | ((with_reducible show apN _ _ _); row_room_at pv_opN) | ((with_reducible show ap1 _ _ _); row_room_at pv_op1) | ((with_reducible show ovr _ _); row_room_at pv_ov) | ((with_reducible show ovr2 _ _ _); row_room_at pv_ov2) | ((with_reducible show apP _ _ _); row_room_at pv_cl; first | row_room_at pv_call__law_ofS | row_room_at pv_call__law_of | row_room_at pv_call__law_ofM) | ((with_reducible show apP _ _ _); row_room_at pv_cl; (first | (rw [sd_l]; first | row_room_at pv_call__law_ofS | row_room_at pv_call__law_of | row_room_at pv_call__law_ofM) | (rw [sd_r]; first | row_room_at pv_call__law_ofS | row_room_at pv_call__law_of | row_room_at pv_call__law_ofM))) | row_room_at pv_late))
local macro_rules | `(tactic| row_room_at pv_go__law_power) => `(tactic| (repeat' row_room_at pv_st__law_power))
local macro_rules | `(tactic| row_room_at pv_gox__law_power) => `(tactic| (repeat' ((try (conv => whnf)); first | ((with_reducible show _ ∧ _); row_room_at pv_and) | ((with_reducible show ap2 _ _ _ _); row_room_at pv_op2) | ((with_reducible show apN _ _ _); row_room_at pv_opN) | ((with_reducible show ap1 _ _ _); row_room_at pv_op1) | ((with_reducible show ovr _ _); row_room_at pv_ov) | ((with_reducible show ovr2 _ _ _); row_room_at pv_ov2) | ((with_reducible show apP _ _ _); row_room_at pv_cl; first | row_room_at pv_call__law_ofS | row_room_at pv_call__law_of | row_room_at pv_call__law_ofM) | ((with_reducible show apP _ _ _); row_room_at pv_cl; (first | (rw [sd_l]; first | row_room_at pv_call__law_ofS | row_room_at pv_call__law_of | row_room_at pv_call__law_ofM) | (rw [sd_r]; first | row_room_at pv_call__law_ofS | row_room_at pv_call__law_of | row_room_at pv_call__law_ofM))) | row_room_at pv_latex)))
local macro_rules | `(tactic| row_room_at pv_gou__law_power) => `(tactic| (repeat' (first | (with_reducible refine apF_op ?_) | (with_reducible refine apL_op ?_) | row_room_at pv_st__law_power)))

def b__law_power : FS := (fRet (fOpN (at2 oMax2) (fCons (fC (.int 1)) (fCons (fOp2 oAdd (fCall [true, false] ph__law_of (fCons (fVar 0) (fCons (fOp2 oAdd (fOpN (at1 oList) (fCons (fVar 1) fNil)) (fOpN oLst (fCons (fC (.int 1)) (fCons (fOp2 oAdd (fOpN (at1 oMax) (fCons (fVar 1) fNil)) (fC (.int 1))) fNil)))) fNil))) (fCall [true, false] ph__law_of (fCons (fVar 0) (fCons (fOpN oLst (fCons (fC (.int 0)) (fCons (fC (.int 0)) (fCons (fC (.int 0)) (fCons (fC (.int 1)) (fCons (fOp1 oNeg (fC (.int 1))) fNil)))))) fNil)))) fNil))))

@[irreducible] def ph__law_power : Phi := fun args R => ∃ (d : D) (ws : List Int) (kk : Int) (m : Nat) (xd : D), args = [ow xd, sh d] ∧ (Ints d ws) ∧ (Bk m (ow xd)) ∧ (10 ≤ m) ∧ (wireOkP kk ws) ∧ (kk ≤ 100) ∧ ∀ (s : Int) (x' : D), (1 ≤ s) → (s < 2 ^ 61) → (Bk (m - 10) (ow x')) → R (sh (.int s)) [ow x']
theorem call__law_power {d : D}{ws : List Int}{kk : Int}{m : Nat}{xd : D} {R : Cell → List Cell → Prop} (hd : Ints d ws) (hx : Bk m (ow xd)) (hm : Hold (10 ≤ m)) (hw : wireOkP kk ws) (hk : Hold (kk ≤ 100)) (q : ∀ (s : Int) (x' : D), (1 ≤ s) → (s < 2 ^ 61) → (Bk (m - 10) (ow x')) → R (sh (.int s)) [ow x']) : ph__law_power [ow xd, sh d] R := by
  unfold ph__law_power
  exact ⟨d, ws, kk, m, xd, rfl, hd, hx, hm.out, hw, hk.out, q⟩
theorem vc__law_power (args R) (h : ph__law_power args R) : b__law_power (startE 2 args) (defK [true, false] R) := by
  unfold ph__law_power at h
  obtain ⟨d, ws, kk, m, xd, rfl, hd, hx, hm, hw, hk, hR⟩ := h
  have hl0 := hw.1
  have hl1 := hw.2.1
  (row_room_at pv_go__law_power; row_room_at pv_end)
  rename_i j xa hj hxa
  have hmx := hw.2.2.2 _ (mx_mem hl0)
  have h1 : 1 ≤ j ∧ j < 2 ^ 60 + 1 := by
    rcases List.mem_append.mp hj with h | h
    · have := hw.2.2.2 j h; omega
    · simp only [List.mem_cons, List.not_mem_nil, or_false] at h; omega
  simp only [List.mem_cons, List.not_mem_nil, or_false] at hi
  exact hR _ _ (by omega) (by omega) (Bk.le hx' (by omega))

local macro_rules | `(tactic| row_room_at pv_st__law_ends) => `(tactic| ((try (conv => whnf)); first | ((with_reducible show _ ∧ _); row_room_at pv_and) | ((with_reducible show ap2 _ _ _ _); row_room_at pv_op2) | ((with_reducible show apN _ _ _); row_room_at pv_opN) | ((with_reducible show ap1 _ _ _); row_room_at pv_op1) | ((with_reducible show ovr _ _); row_room_at pv_ov) | ((with_reducible show ovr2 _ _ _); row_room_at pv_ov2) | row_room_at pv_late))
local macro_rules | `(tactic| row_room_at pv_go__law_ends) => `(tactic| (repeat' row_room_at pv_st__law_ends))
local macro_rules | `(tactic| row_room_at pv_gox__law_ends) => `(tactic| (repeat' ((try (conv => whnf)); first | ((with_reducible show _ ∧ _); row_room_at pv_and) | ((with_reducible show ap2 _ _ _ _); row_room_at pv_op2) | ((with_reducible show apN _ _ _); row_room_at pv_opN) | ((with_reducible show ap1 _ _ _); row_room_at pv_op1) | ((with_reducible show ovr _ _); row_room_at pv_ov) | ((with_reducible show ovr2 _ _ _); row_room_at pv_ov2) | row_room_at pv_latex)))
local macro_rules | `(tactic| row_room_at pv_gou__law_ends) => `(tactic| (repeat' (first | (with_reducible refine apF_op ?_) | (with_reducible refine apL_op ?_) | row_room_at pv_st__law_ends)))

def b__law_ends : FS := (fSeq (fAsgO 4 (fOpN oLst fNil)) (fSeq (fFor (fSeqI (fStp (fVar 0) (fPart (fIf (fTst (fOp2 oEq (fVar 1) (fC (.str "right")))) (fOp1 oNeg (fC (.int 1))) (fC (.int 1)))))) (gN 5) (fIfS (fAnd (fTst (fOp2 oGe (fVar 5) (fVar 2))) (fTst (fOp2 oLt (fOpN (at1 oLen) (fCons (fVar 4) fNil)) (fVar 3)))) (fDrop (fMth 4 mAppend (fCons (fVar 5) fNil))) fNext)) (fRet (fMv 4))))

@[irreducible] def ph__law_ends : Phi := fun args R => ∃ (d : D) (ws : List Int) (b : Bool) (s : Int) (m : Nat), args = [sh d, sh (.str (sideS b)), sh (.int s), sh (.int m)] ∧ (Ints d ws) ∧ (ws.length ≤ 1000) ∧ (m ≤ 1000) ∧ R (ow (.list ((endsL ws b s m).map .int))) []
theorem call__law_ends {d : D}{ws : List Int}{b : Bool}{s : Int}{m : Nat} {R : Cell → List Cell → Prop} (hd : Ints d ws) (hn : Hold (ws.length ≤ 1000)) (hm : Hold (m ≤ 1000)) (q : R (ow (.list ((endsL ws b s m).map .int))) []) : ph__law_ends [sh d, sh (.str (sideS b)), sh (.int s), sh (.int m)] R := by
  unfold ph__law_ends
  exact ⟨d, ws, b, s, m, rfl, hd, hn.out, hm.out, q⟩
theorem ends_go {w : Int} {us acc : List Int} {s : Int} {m : Nat} : ((acc ++ ((w :: us).filter fun w => decide (s ≤ w))).take m) = ((if s ≤ w ∧ acc.length < m then acc ++ [w] else acc) ++ (us.filter fun w => decide (s ≤ w))).take m := by
  rw [List.filter_cons]
  by_cases h : s ≤ w
  · rw [if_pos (decide_eq_true h)]
    by_cases h2 : acc.length < m
    · rw [if_pos ⟨h, h2⟩]; simp
    · rw [if_neg (fun hc => h2 hc.2), List.take_append_of_le_length (by omega), List.take_append_of_le_length (by omega)]
  · rw [if_neg (by simpa using h), if_neg (fun hc => h hc.1)]
theorem vc__law_ends (args R) (h : ph__law_ends args R) : b__law_ends (startE 6 args) (defK [false, false, false, false] R) := by
  unfold ph__law_ends at h
  obtain ⟨d, ws, b, s, m, rfl, hd, hn, hm, hR⟩ := h
  rcases hd with rfl | rfl <;> cases b
  all_goals (row_room_at pv_go__law_ends; row_room_at pv_end)
  all_goals
    first
      | refine for_st .int (fun xs E e => ∃ (acc : List Int) (o : Option Cell), (acc ++ xs.filter fun w => decide (s ≤ w)).take m = endsL ws false s m ∧ acc.length ≤ m ∧ e = [_, _, some (sh (.int s)), some (sh (.int m)), some (ow (.list (acc.map .int))), o]) ⟨[], none, rfl, Nat.zero_le _, rfl⟩ (fun w xs e N hI hN => ?_) (fun e hI => ?_)
      | refine for_st .int (fun xs E e => ∃ (acc : List Int) (o : Option Cell), (acc ++ xs.filter fun w => decide (s ≤ w)).take m = endsL ws true s m ∧ acc.length ≤ m ∧ e = [_, _, some (sh (.int s)), some (sh (.int m)), some (ow (.list (acc.map .int))), o]) ⟨[], none, rfl, Nat.zero_le _, rfl⟩ (fun w xs e N hI hN => ?_) (fun e hI => ?_)
    · obtain ⟨acc, o, e1, e2, rfl⟩ := hI
      rw [ends_go] at e1
      by_cases h1 : s ≤ w
      · by_cases h2 : acc.length < m
        · rw [if_pos ⟨h1, h2⟩] at e1
          have h3 : (acc.length : Int) < m := by omega
          row_room_at pv_cl
          (row_room_at pv_go__law_ends; row_room_at pv_end)
          exact hN _ ⟨_, _, e1, by rw [List.length_append, List.length_singleton]; omega, by rw [List.map_append]; rfl⟩
        · rw [if_neg (fun hc => h2 hc.2)] at e1
          have h3 : ¬ (acc.length : Int) < m := by omega
          row_room_at pv_cl
          (row_room_at pv_go__law_ends; row_room_at pv_end)
          exact hN _ ⟨_, _, e1, e2, rfl⟩
      · rw [if_neg (fun hc => h1 hc.1)] at e1
        row_room_at pv_cl
        (row_room_at pv_go__law_ends; row_room_at pv_end)
        exact hN _ ⟨_, _, e1, e2, rfl⟩
    · obtain ⟨acc, o, e1, e2, rfl⟩ := hI
      rw [List.filter_nil, List.append_nil, List.take_of_length_le e2] at e1
      rw [← e1] at hR
      row_room_at pv_cl
      (row_room_at pv_go__law_ends; row_room_at pv_end)

local macro_rules | `(tactic| row_room_at pv_call_ends) => `(tactic| (refine apP_op (call_ends (by row_room_at pv_sd) ?_ ?_ ?_); (first | (focus row_room_at pv_hs) | rotate_left); (first | (focus row_room_at pv_hs) | rotate_left)))
local macro_rules | `(tactic| row_room_at pv_call__law_same) => `(tactic| (refine apP_op (call__law_same ?_ ?_ ?_); (first | (focus row_room_at pv_hs) | rotate_left); (first | (focus row_room_at pv_hs) | rotate_left)))
local macro_rules | `(tactic| row_room_at pv_call__law_wire) => `(tactic| (refine apP_op (call__law_wire (by row_room_at pv_sd) ?_ ?_ ?_ (fun ws x' hw hw1 hw2 hx' => ?_)); (first | (focus row_room_at pv_hs) | rotate_left); (first | (focus row_room_at pv_hs) | rotate_left); (first | (focus row_room_at pv_hs) | rotate_left)))
local macro_rules | `(tactic| row_room_at pv_call__law_power) => `(tactic| (refine apP_op (call__law_power (by row_room_at pv_sd) (by row_room_at pv_sd) ?_ (by row_room_at pv_sd) ?_ (fun s x' hs hs2 hx' => ?_)); (first | (focus row_room_at pv_hs) | rotate_left); (first | (focus row_room_at pv_hs) | rotate_left)))
local macro_rules | `(tactic| row_room_at pv_call__law_ends) => `(tactic| (refine apP_op (call__law_ends (by row_room_at pv_sd) ?_ ?_ ?_); (first | (focus row_room_at pv_hs) | rotate_left); (first | (focus row_room_at pv_hs) | rotate_left)))
local macro_rules | `(tactic| row_room_at pv_st__law_right) => `(tactic| ((try (conv => whnf)); first | ((with_reducible show _ ∧ _); row_room_at pv_and) | ((with_reducible show ap2 _ _ _ _); row_room_at pv_op2) | ((with_reducible show apN _ _ _); row_room_at pv_opN) | ((with_reducible show ap1 _ _ _); row_room_at pv_op1) | ((with_reducible show ovr _ _); row_room_at pv_ov) | ((with_reducible show ovr2 _ _ _); row_room_at pv_ov2) | ((with_reducible show apP _ _ _); row_room_at pv_cl; first | row_room_at pv_call_ends | row_room_at pv_call__law_take | row_room_at pv_call__law_ofS | row_room_at pv_call__law_of | row_room_at pv_call__law_ofM | row_room_at pv_call__law_same | row_room_at pv_call__law_wire | row_room_at pv_call__law_power | row_room_at pv_call__law_ends) | ((with_reducible show apP _ _ _); row_room_at pv_cl; (first | (rw [sd_l]; first | row_room_at pv_call_ends | row_room_at pv_call__law_take | row_room_at pv_call__law_ofS | row_room_at pv_call__law_of | row_room_at pv_call__law_ofM | row_room_at pv_call__law_same | row_room_at pv_call__law_wire | row_room_at pv_call__law_power | row_room_at pv_call__law_ends) | (rw [sd_r]; first | row_room_at pv_call_ends | row_room_at pv_call__law_take | row_room_at pv_call__law_ofS | row_room_at pv_call__law_of | row_room_at pv_call__law_ofM | row_room_at pv_call__law_same | row_room_at pv_call__law_wire | row_room_at pv_call__law_power | row_room_at pv_call__law_ends))) | row_room_at pv_late))
local macro_rules | `(tactic| row_room_at pv_go__law_right) => `(tactic| (repeat' row_room_at pv_st__law_right))
local macro_rules | `(tactic| row_room_at pv_gox__law_right) => `(tactic| (repeat' ((try (conv => whnf)); first | ((with_reducible show _ ∧ _); row_room_at pv_and) | ((with_reducible show ap2 _ _ _ _); row_room_at pv_op2) | ((with_reducible show apN _ _ _); row_room_at pv_opN) | ((with_reducible show ap1 _ _ _); row_room_at pv_op1) | ((with_reducible show ovr _ _); row_room_at pv_ov) | ((with_reducible show ovr2 _ _ _); row_room_at pv_ov2) | ((with_reducible show apP _ _ _); row_room_at pv_cl; first | row_room_at pv_call_ends | row_room_at pv_call__law_take | row_room_at pv_call__law_ofS | row_room_at pv_call__law_of | row_room_at pv_call__law_ofM | row_room_at pv_call__law_same | row_room_at pv_call__law_wire | row_room_at pv_call__law_power | row_room_at pv_call__law_ends) | ((with_reducible show apP _ _ _); row_room_at pv_cl; (first | (rw [sd_l]; first | row_room_at pv_call_ends | row_room_at pv_call__law_take | row_room_at pv_call__law_ofS | row_room_at pv_call__law_of | row_room_at pv_call__law_ofM | row_room_at pv_call__law_same | row_room_at pv_call__law_wire | row_room_at pv_call__law_power | row_room_at pv_call__law_ends) | (rw [sd_r]; first | row_room_at pv_call_ends | row_room_at pv_call__law_take | row_room_at pv_call__law_ofS | row_room_at pv_call__law_of | row_room_at pv_call__law_ofM | row_room_at pv_call__law_same | row_room_at pv_call__law_wire | row_room_at pv_call__law_power | row_room_at pv_call__law_ends))) | row_room_at pv_latex)))
local macro_rules | `(tactic| row_room_at pv_gou__law_right) => `(tactic| (repeat' (first | (with_reducible refine apF_op ?_) | (with_reducible refine apL_op ?_) | row_room_at pv_st__law_right)))

def b__law_right : FS := (fSeq (fFor (fRange1 (fCons (fC (.int 4)) fNil)) (gN 1) (fSeq (fAsg 2 (fCall [true, false] ph__law_wire (fCons (fVar 0) (fCons (fC (.int 24)) fNil)))) (fSeq (fAsg 3 (fOpN oLst (fCons (fC (.int 1)) (fCons (fOpN (at1 oMin) (fCons (fVar 2) fNil)) (fCons (fOpN (at1 oMax) (fCons (fVar 2) fNil)) (fCons (fOp2 oAdd (fOpN (at1 oMax) (fCons (fVar 2) fNil)) (fC (.int 1))) (fCons (fCall [true, false] ph__law_power (fCons (fVar 0) (fCons (fVar 2) fNil))) (fCons (fCall [true, false] ph__law_power (fCons (fVar 0) (fCons (fVar 2) fNil))) fNil)))))))) (fFor (fSeqI (fOpN (at1 oSortedSet) (fCons (fVar 3) fNil))) (gN 4) (fFor (fSeqI (fOpN oTup (fCons (fC (.str "left")) (fCons (fC (.str "right")) fNil)))) (gN 5) (fSeq (fAsg 6 (fCall [true, false] ph__law_of (fCons (fVar 0) (fCons (fOpN oLst (fCons (fC (.int 0)) (fCons (fC (.int 1)) (fCons (fOpN (at1 oLen) (fCons (fVar 2) fNil)) (fCons (fC (.int 60)) (fCons (fCall [true, false] ph__law_take (fCons (fVar 0) (fCons (fOp2 oAdd (fOpN (at1 oLen) (fCons (fVar 2) fNil)) (fC (.int 2))) fNil))) fNil)))))) fNil)))) (fSeq (fAsg 7 (fCall [false, false, false, false] ph__law_ends (fCons (fVar 2) (fCons (fVar 5) (fCons (fVar 4) (fCons (fVar 6) fNil)))))) (fSeq (fAsgO 8 (fLst2 (fCons (fCall [false, false, false, false] ph_ends (fCons (fVar 2) (fCons (fVar 5) (fCons (fVar 4) (fCons (fVar 6) fNil))))) (fCons (fCallK 0 4 [3, 2, 1, 0] ph_ends fNil (fCons (fVar 6) (fCons (fVar 4) (fCons (fVar 5) (fCons (fOpN (at1 oList) (fCons (fVar 2) fNil)) fNil))))) fNil)))) (fSeq (fIfS (fLend 8 [0] (fNot (fTst (fCall [false, false] ph__law_same (fCons (fFz 8) (fCons (fOpN oLst (fCons (fVar 7) (fCons (fVar 7) fNil))) fNil)))))) (fRet (fC (.bool false))) fNext) (fSeq (fDrop (fApp2 8 0 (.str "more"))) (fSeq (fDrop (fRev2 8 0)) (fIfS (fNot (fTst (fCall [false, false] ph__law_same (fCons (fCall [false, false, false, false] ph_ends (fCons (fVar 2) (fCons (fVar 5) (fCons (fVar 4) (fCons (fVar 6) fNil))))) (fCons (fVar 7) fNil))))) (fRet (fC (.bool false))) fNext)))))))))))) (fRet (fC (.bool true))))

theorem ends_le {ws : List Int} {b : Bool} {s : Int} {m : Nat} : (endsL ws b s m).length ≤ m := by
  unfold endsL
  rw [List.length_take]
  exact Nat.min_le_left _ _
theorem vc__law_right (args R) (h : ph__law_right args R) : b__law_right (startE 9 args) (defK [true] R) := by
  obtain ⟨x, rfl, hx, hR⟩ := h
  obtain ⟨xd, rfl⟩ := hx.ex
  have hx : Bk (2 ^ 58) (ow xd) := .of hx (by decide)
  (row_room_at pv_go__law_right; row_room_at pv_end)
  refine for_sk .int (fun xs E e => ∃ (z : D) (o1 o2 o3 o4 o5 o6 o7 o8 : Option Cell), Bk (100000 * xs.length) (ow z) ∧ e = [some (ow z), o1, o2, o3, o4, o5, o6, o7, o8]) ⟨_, _, _, _, _, _, _, _, _, Bk.le hx (by rw [irange_len]; decide), rfl⟩ (fun i xs e kk hrt hbk hI hN => ?_) (fun e hI => ?_)
  · obtain ⟨z, o1, o2, o3, o4, o5, o6, o7, o8, e1, rfl⟩ := hI
    rw [List.length_cons] at e1
    clear hx
    row_room_at pv_cl
    (row_room_at pv_go__law_right; row_room_at pv_end)
    rename_i s1 _ _ _ _
    refine ⟨[1, mn ws, mx ws, mx ws + 1, s1, s], rfl, (show 6 ≤ 60 by decide), fun us hus hum hul => ?_⟩
    have hul : us.length ≤ 6 := hul
    (row_room_at pv_go__law_right; row_room_at pv_end)
    refine for_sk .int (fun ys E e => ∃ (z : D) (p4 p5 p6 p7 p8 : Option Cell), Bk (1000 * ys.length + (100000 * xs.length + 50)) (ow z) ∧ e = [some (ow z), some (sh (.int i)), some (sh (.tuple (ws.map .int))), some (sh (.list ([1, mn ws, mx ws, mx ws + 1, s1, s].map .int))), p4, p5, p6, p7, p8]) ⟨_, _, _, _, _, _, Bk.le hx' (by omega), rfl⟩ (fun y ys e k2 hrt2 hbk2 hJ hM => ?_) (fun e hJ => ?_)
    · obtain ⟨z, p4, p5, p6, p7, p8, f1, rfl⟩ := hJ
      rw [List.length_cons] at f1
      clear hN e1
      row_room_at pv_cl
      (row_room_at pv_go__law_right; row_room_at pv_end)
      rw [show [PyData.str (Str.ofString "left"), PyData.str (Str.ofString "right")] = [false, true].map (fun b => PyData.str (sideS b)) from rfl]
      refine for_sk (fun b => PyData.str (sideS b)) (xs0 := [false, true]) (fun bs E e => ∃ (z : D) (q5 q6 q7 q8 : Option Cell), Bk (10 * bs.length + (1000 * ys.length + (100000 * xs.length + 50))) (ow z) ∧ e = [some (ow z), some (sh (.int i)), some (sh (.tuple (ws.map .int))), some (sh (.list ([1, mn ws, mx ws, mx ws + 1, s1, s].map .int))), some (sh (.int y)), q5, q6, q7, q8]) ⟨_, _, _, _, _, Bk.le f1 (by simp; omega), rfl⟩ (fun b bs e k3 hrt3 hbk3 hK hP => ?_) (fun e hK => ?_)
      · obtain ⟨z, q5, q6, q7, q8, g1, rfl⟩ := hK
        rw [List.length_cons] at g1
        clear hM f1
        row_room_at pv_cl
        refine toEnv_go rfl ?_
        row_room_at pv_cl
        (row_room_at pv_go__law_right; row_room_at pv_end)
        have hi2 : 0 ≤ i ∧ i ≤ 60 := by
          skip
          simp only [List.mem_cons, List.not_mem_nil, or_false] at hi
          rcases hi with rfl | rfl | rfl | rfl | rfl <;> omega
        obtain ⟨cm, rfl⟩ := Int.eq_ofNat_of_zero_le hi2.1
        have hcm : cm ≤ 60 := by omega
        have hel := ends_le (ws := ws) (b := b) (s := y) (m := cm)
        clear hi hi2
        (row_room_at pv_go__law_right; row_room_at pv_end)
        refine ⟨⟨trivial, show 2 ≤ sizeLine by decide⟩, ?_⟩
        (row_room_at pv_go__law_right; row_room_at pv_end)
        · refine ⟨_, rfl, Nat.lt_of_le_of_lt (show _ ≤ 60 by rw [List.length_map]; omega) (by decide), ?_⟩
          row_room_at pv_cl
          (row_room_at pv_go__law_right; row_room_at pv_end)
          refine ⟨_, rfl, ?_⟩
          row_room_at pv_cl
          (row_room_at pv_go__law_right; row_room_at pv_end)
          · exact hP _ ⟨_, _, _, _, _, Bk.le hx' (by omega), rfl⟩
          all_goals exact .mk (by row_room_at pv_ok)
        all_goals exact .mk (by row_room_at pv_ok)
      · obtain ⟨z, q5, q6, q7, q8, g1, rfl⟩ := hK
        row_room_at pv_cl
        (row_room_at pv_go__law_right; row_room_at pv_end)
        exact hM _ ⟨_, _, _, _, _, _, Bk.le g1 (by simp), rfl⟩
    · obtain ⟨z, p4, p5, p6, p7, p8, f1, rfl⟩ := hJ
      row_room_at pv_cl
      (row_room_at pv_go__law_right; row_room_at pv_end)
      exact hN _ ⟨_, _, _, _, _, _, _, _, _, Bk.le f1 (by simp), rfl⟩
  · obtain ⟨z, o1, o2, o3, o4, o5, o6, o7, o8, e1, rfl⟩ := hI
    row_room_at pv_cl
    (row_room_at pv_go__law_right; row_room_at pv_end)

def b_law : FS := (fRet (fOpN (at1 oAll) (fCons (fLc [1] (fRange1 (fCons (fOp2 oAdd (fC (.int 1)) (fOpN (at2 oMin2) (fCons (fC (.int 3)) (fCons (fOpN (at1 oLen) (fCons (fVar 0) fNil)) fNil)))) fNil)) (gN 1) fYes (fCall [true] ph__law_right (fCons (fCall [false, false] ph__law_box (fCons (fVar 0) (fCons (fVar 1) fNil))) fNil))) fNil)))

def ph_law : Phi := fun args R => ∃ ns : List Int, args = [sh (scrD ns)] ∧ ns.length ≤ 63 ∧ R (sh (.bool true)) []
theorem vc_law (args R) (h : ph_law args R) : b_law (startE 2 args) (defK [false] R) := by
  obtain ⟨ns, rfl, hl, hR⟩ := h
  have hz : (2 : Nat) ^ 20 < sizeLine := by decide
  have hsl : ((ns.map fun n => (PyData.none, PyData.int n)).length : Nat) = ns.length := List.length_map _
  (row_room_at pv_ev; row_room_at pv_cl)
  refine ⟨by rw [hsl]; omega, ?_⟩
  (row_room_at pv_ev; row_room_at pv_cl)
  rw [rng_eq]
  refine lc_inv (fun i : Nat => PyData.int (0 + (i : Int))) (fun (xs : List Nat) acc e => ∃ (i k : Nat), xs = List.range' i k ∧ i + k ≤ 100 ∧ acc = (List.replicate i true).map .bool ∧ e = [some (sh (scrD ns)), none]) ?_ (fun i xs acc e N hI hN => ?_) (fun acc e hI => ?_) _ _ _
    ⟨0, _, rfl, ?_, rfl, rfl⟩
  · exact fun _ _ _ _ => trivial
  · obtain ⟨j, k, ex, hjk, rfl, rfl⟩ := hI
    match k, ex with
    | k + 1, ex =>
      rw [List.range'_succ] at ex
      obtain ⟨rfl, rfl⟩ := List.cons.inj ex
      (row_room_at pv_ev; row_room_at pv_cl)
      refine ⟨ns, _, rfl, by omega, by omega, fun x hx => ?_⟩
      obtain ⟨xd, rfl⟩ := hx.ex
      (row_room_at pv_ev; row_room_at pv_cl)
      refine ⟨_, rfl, hx, fun x' => ?_⟩
      (row_room_at pv_ev; row_room_at pv_cl)
      refine ⟨by show ((List.replicate i true).map PyData.bool).length < sizeLine; rw [List.length_map, List.length_replicate]; omega, hN _ _ ⟨i + 1, k, rfl, by omega, ?_, rfl⟩⟩
      rw [List.replicate_succ', List.map_append]
      rfl
  · obtain ⟨j, k, ex, hjk, rfl, rfl⟩ := hI
    (row_room_at pv_ev; row_room_at pv_cl)
    first | refine ⟨trivial, List.replicate j true, rfl, ?_⟩ | refine ⟨List.replicate j true, rfl, ?_⟩
    rw [all_true]
    (row_room_at pv_ev; row_room_at pv_cl)
    exact hR
  · rw [hsl]; omega
theorem law_sp {K : Fg} {H : Hp} {a : Addr} {ns : List Int} {Q : VK} {E : XK} (hS : SqL K H a (ns.map V.int)) (hl : ns.length ≤ 63) (hq : ∀ H', Q (.bl true) H') : spOf K [false] ph_law [.ref a] H Q E := sp_of_script hS ⟨ns, rfl, hl, rfl⟩ hq

structure Txt (K : PySem.W.Frag) (mg : Str → Option Value) : Prop where
  b_abs : mg "abs" = none
  b_all : mg "all" = none
  b_bool : mg "bool" = none
  b_int : mg "int" = none
  b_isinstance : mg "isinstance" = none
  b_len : mg "len" = none
  b_list : mg "list" = none
  b_max : mg "max" = none
  b_min : mg "min" = none
  b_range : mg "range" = none
  b_set : mg "set" = none
  b_sorted : mg "sorted" = none
  b_str : mg "str" = none
  b_tuple : mg "tuple" = none
  b_zip : mg "zip" = none
  g_RIGHT : ∃ t, mg "RIGHT" = some (.str "right" t)

section
variable {P : Program} {w : World} {K : PySem.W.Frag} {mg : Str → Option Value} {base : Heap}
abbrev s_ends : Stmt := topS 2
theorem sc_ends : FnScope ["channel", "side", "strength", "many", "found", "depth"] ["channel", "side", "strength", "many"] (defScope s_ends) := ⟨rfl, rfl, rfl, by decide +kernel, rfl, by decide +kernel, by decide +kernel⟩
theorem ok_ends {f : Addr} {fd : FuncData} (F : Fun K "ends" "ends" s_ends f fd) (T : Txt K mg) : FnG P w K mg base CX0 (1) f fd ["channel", "side", "strength", "many"] (spOf K [false, false, false, false] ph_ends) := by
  refine fnok_mk (k := 0) F sc_ends (b_ends) (fun cdv A outer s H E hr hG => ?_) (fun args R h => vc_ends args R h)
  have HN : (["channel", "side", "strength", "many", "found", "depth"] : List Str).Nodup := sc_ends.nd
  exact (ss_cons (ss_setLc (own := [("depth", 5)]) 4 rfl HN (sw_true rfl rfl rfl (by decide +kernel)) (si_seq (se_var 0)) (by exact blkOk_by (N := ["channel", "side", "strength", "many", "found", "depth"]) (sc := defScope s_ends) (own := [("depth", 5)]) (by decide +kernel)) (fun _ _ _ _ _ => (sg_name 5 HN)) (fun _ _ _ _ _ => (sf_one (st_ge (se_var 5) (se_var 2)))) (fun _ _ _ _ _ => (se_var 5))) (ss_one (ss_ret (se_sl (se_if (st_eq hr (se_var 1) (se_gstr T.g_RIGHT)) (se_stp (se_var 4) (sp_some (se_neg se_int))) (se_var 4)) sp_none (sp_some (se_var 3))))))

abbrev s__law_cell_at : Stmt := topS 4
theorem sc__law_cell_at : FnScope ["_law_script", "_law_k"] ["_law_script", "_law_k"] (defScope s__law_cell_at) := ⟨rfl, rfl, rfl, by decide +kernel, rfl, by decide +kernel, by decide +kernel⟩
theorem ok__law_cell_at {f : Addr} {fd : FuncData} (F : Fun K "_law_cell_at" "_law_cell_at" s__law_cell_at f fd) (T : Txt K mg) : FnG P w K mg base CX0 (1) f fd ["_law_script", "_law_k"] (spOf K [false, false] ph__law_cell_at) := by
  refine fnok_mk (k := 0) F sc__law_cell_at (b__law_cell_at) (fun cdv A outer s H E hr hG => ?_) (fun args R h => vc__law_cell_at args R h)
  have HN : (["_law_script", "_law_k"] : List Str).Nodup := sc__law_cell_at.nd
  exact (ss_cons (ss_if (st_lt (se_var 1) (se_len T.b_len (sa_cons (se_var 0) sa_nil))) (ss_one (ss_ret (se_ix (se_var 0) (se_var 1)))) ss_nil) (ss_one (ss_ret se_int)))

abbrev s__law_box : Stmt := topS 5
theorem sc__law_box : FnScope ["_law_script", "_law_k", "_law_core"] ["_law_script", "_law_k"] (defScope s__law_box) := ⟨rfl, rfl, rfl, by decide +kernel, rfl, by decide +kernel, by decide +kernel⟩
theorem ok__law_box {f : Addr} {fd : FuncData} (F : Fun K "_law_box" "_law_box" s__law_box f fd) (T : Txt K mg) (c__law_cell_at : Fnc P w K mg base 1 "_law_cell_at" [false, false] ph__law_cell_at) : FnG P w K mg base CX0 (2) f fd ["_law_script", "_law_k"] (spOf K [false, false] ph__law_box) := by
  refine fnok_mk (k := 1) F sc__law_box (b__law_box) (fun cdv A outer s H E hr hG => ?_) (fun args R h => vc__law_box args R h)
  have HN : (["_law_script", "_law_k", "_law_core"] : List Str).Nodup := sc__law_box.nd
  exact (ss_cons (ss_set 2 HN (se_call c__law_cell_at hr hG (sa_cons (se_var 0) (sa_cons (se_var 1) sa_nil)))) (ss_one (ss_ret (se_lst (sa_cons (se_mulA (se_abs T.b_abs (sa_cons (se_var 2) sa_nil)) (se_toInt T.b_int (sa_cons (se_ge (se_abs T.b_abs (sa_cons (se_var 2) sa_nil)) (se_pow se_int se_int)) sa_nil))) (sa_cons (se_add (se_add (se_mod (se_var 2) se_int) (se_mulA se_int (se_var 1))) se_int) (sa_cons se_int sa_nil)))))))

abbrev s__law_take : Stmt := topS 6
theorem sc__law_take : FnScope ["_law_box_here", "_law_span", "_law_found", "_law_once", "_law_twice"] ["_law_box_here", "_law_span"] (defScope s__law_take) := ⟨rfl, rfl, rfl, by decide +kernel, rfl, by decide +kernel, by decide +kernel⟩
theorem ok__law_take {f : Addr} {fd : FuncData} (F : Fun K "_law_take" "_law_take" s__law_take f fd) (T : Txt K mg) : FnG P w K mg base CX0 (1) f fd ["_law_box_here", "_law_span"] (spOf K [true, false] ph__law_take) := by
  refine fnok_mk (k := 0) F sc__law_take (b__law_take) (fun cdv A outer s H E hr hG => ?_) (fun args R h => vc__law_take args R h)
  have HN : (["_law_box_here", "_law_span", "_law_found", "_law_once", "_law_twice"] : List Str).Nodup := sc__law_take.nd
  exact (ss_cons (ss_if (st_gt (se_ix (se_var 0) se_int) se_int) (ss_cons (ss_set 2 HN (se_mod (se_ix (se_var 0) se_int) (se_var 1))) (ss_cons (ss_setIx 0 (se_div (se_ix (se_var 0) se_int) (se_var 1)) se_int) (ss_one (ss_ret (se_var 2))))) ss_nil) (ss_cons (ss_setIx 0 (se_add (se_ix (se_var 0) se_int) se_int) se_int) (ss_cons (ss_set 3 HN (se_mod (se_mulA (se_add (se_ix (se_var 0) se_int) (se_mulA se_int (se_ix (se_var 0) se_int))) (se_add se_int (se_ix (se_var 0) se_int))) se_int)) (ss_cons (ss_set 4 HN (se_mod (se_mulA (se_add (se_add (se_var 3) (se_ix (se_var 0) se_int)) (se_div (se_ix (se_var 0) se_int) se_int)) (se_add (se_mod (se_var 3) se_int) se_int)) se_int)) (ss_one (ss_ret (se_mod (se_div (se_mod (se_add (se_mulA (se_var 4) se_int) (se_var 3)) se_int) se_int) (se_var 1))))))))

abbrev s__law_of : Stmt := topS 7
theorem sc__law_of : FnScope ["_law_box_here", "_law_some"] ["_law_box_here", "_law_some"] (defScope s__law_of) := ⟨rfl, rfl, rfl, by decide +kernel, rfl, by decide +kernel, by decide +kernel⟩
theorem ok__law_of {f : Addr} {fd : FuncData} (F : Fun K "_law_of" "_law_of" s__law_of f fd) (T : Txt K mg) (c__law_take : Fnc P w K mg base 1 "_law_take" [true, false] ph__law_take) : FnG P w K mg base CX0 (2) f fd ["_law_box_here", "_law_some"] (spOf K [true, false] ph__law_of) := by
  refine fnok_mk (k := 1) F sc__law_of (b__law_of) (fun cdv A outer s H E hr hG => ?_) (fun args R h => vc__law_of args R h)
  have HN : (["_law_box_here", "_law_some"] : List Str).Nodup := sc__law_of.nd
  exact (ss_one (ss_ret (se_ix (se_var 1) (se_call c__law_take hr hG (sa_cons (se_var 0) (sa_cons (se_len T.b_len (sa_cons (se_var 1) sa_nil)) sa_nil))))))

abbrev s__law_same : Stmt := topS 8
theorem sc__law_same : FnScope ["_law_found", "_law_due", "_law_a", "_law_b"] ["_law_found", "_law_due"] (defScope s__law_same) := ⟨rfl, rfl, rfl, by decide +kernel, rfl, by decide +kernel, by decide +kernel⟩
theorem ok__law_same {f : Addr} {fd : FuncData} (F : Fun K "_law_same" "_law_same" s__law_same f fd) (T : Txt K mg) {j : Nat} {φ ψ : Phi} (vc : ∀ args R, ψ args R → b__law_same φ (startE 4 args) (defK [false, false] R)) (c__law_same : Fnc P w K mg base (j + 1) "_law_same" [false, false] φ) : FnG P w K mg base CX0 (j + 1 + 1) f fd ["_law_found", "_law_due"] (spOf K [false, false] ψ) := by
  refine fnok_mk (k := j + 1) F sc__law_same (b__law_same φ) (fun cdv A outer s H E hr hG => ?_) (fun args R h => vc args R h)
  have HN : (["_law_found", "_law_due", "_law_a", "_law_b"] : List Str).Nodup := sc__law_same.nd
  exact (ss_cons (ss_if (st_val (se_isiT ["list", "tuple"] T.b_isinstance (se_var 1) (pa_tyC (pa_tyC pa_ty0 T.b_tuple) T.b_list) (fun _ _ _ h => h))) (ss_cons (ss_if (st_of (st_or (st_ne hr (se_isi "list" T.b_isinstance T.b_list (se_var 0)) (se_isi "list" T.b_isinstance T.b_list (se_var 1))) (st_or1 (st_ne hr (se_isi "tuple" T.b_isinstance T.b_tuple (se_var 0)) (se_isi "tuple" T.b_isinstance T.b_tuple (se_var 1)))))) (ss_one (ss_ret se_bl)) ss_nil) (ss_one (ss_ret (se_and (se_eq hr (se_len T.b_len (sa_cons (se_var 0) sa_nil)) (se_len T.b_len (sa_cons (se_var 1) sa_nil))) (se_one (se_all rfl T.b_all (sa_cons (se_lc (own := [("_law_a", 2), ("_law_b", 3)]) rfl HN (si_zip T.b_zip (sa_cons (se_var 0) (sa_cons (se_var 1) sa_nil))) (by exact blkOk_by (N := ["_law_found", "_law_due", "_law_a", "_law_b"]) (sc := defScope s__law_same) (own := [("_law_a", 2), ("_law_b", 3)]) (by decide +kernel)) (fun _ _ _ _ _ => (sg_tup rfl (sgs_cons (sg_name 2 HN) (sgs_cons (sg_name 3 HN) sgs_nil)))) (fun _ _ _ _ _ => sf_nil) (fun _ _ _ _ _ => (se_call (hk := Nat.le_refl _) c__law_same hr hG (sa_cons (se_var 2) (sa_cons (se_var 3) sa_nil))))) sa_nil))))))) ss_nil) (ss_cons (ss_if (st_of (st_or (st_isN (se_var 1) se_non) (st_or1 (st_val (se_isiT ["bool", "str"] T.b_isinstance (se_var 1) (pa_tyC (pa_tyC pa_ty0 T.b_str) T.b_bool) (fun _ _ _ h => h)))))) (ss_one (ss_ret (se_and (se_eq hr (se_var 0) (se_var 1)) (se_and (se_eq hr (se_isi "bool" T.b_isinstance T.b_bool (se_var 0)) (se_isi "bool" T.b_isinstance T.b_bool (se_var 1))) (se_one (se_eq hr (se_isN (se_var 0) se_non) (se_isN (se_var 1) se_non))))))) ss_nil) (ss_one (ss_ret (se_and (se_isi "int" T.b_isinstance T.b_int (se_var 0)) (se_and (se_not (se_isi "bool" T.b_isinstance T.b_bool (se_var 0))) (se_one (se_eq hr (se_var 0) (se_var 1)))))))))

abbrev s__law_strewn : Stmt := topS 9
theorem sc__law_strewn : FnScope ["_law_box_here", "_law_some", "_law_left", "_law_found"] ["_law_box_here", "_law_some"] (defScope s__law_strewn) := ⟨rfl, rfl, rfl, by decide +kernel, rfl, by decide +kernel, by decide +kernel⟩
theorem ok__law_strewn {f : Addr} {fd : FuncData} (F : Fun K "_law_strewn" "_law_strewn" s__law_strewn f fd) (T : Txt K mg) (c__law_take : Fnc P w K mg base 1 "_law_take" [true, false] ph__law_take) : FnG P w K mg base CX0 (2) f fd ["_law_box_here", "_law_some"] (spOf K [true, false] ph__law_strewn) := by
  refine fnok_mk (k := 1) F sc__law_strewn (b__law_strewn) (fun cdv A outer s H E hr hG => ?_) (fun args R h => vc__law_strewn args R h)
  have HN : (["_law_box_here", "_law_some", "_law_left", "_law_found"] : List Str).Nodup := sc__law_strewn.nd
  exact (ss_cons (ss_par2 2 3 [true, true] rfl HN (sa_cons (se_list T.b_list (sa_cons (se_var 1) sa_nil)) (sa_cons (se_lst sa_nil) sa_nil)) (by rfl)) (ss_cons (ss_while PassesOwn.never (st_ne hr (se_var 2) (se_lst sa_nil)) (ss_one (ss_expr (se_append 3 (sa_cons (se_popAt 2 (sa_cons (se_call c__law_take hr hG (sa_cons (se_var 0) (sa_cons (se_len T.b_len (sa_cons (se_var 2) sa_nil)) sa_nil))) sa_nil)) sa_nil))))) (ss_one (ss_ret (se_mv 3)))))

abbrev s__law_wire : Stmt := topS 10
theorem sc__law_wire : FnScope ["_law_box_here", "_law_size", "_law_count", "_law_gap", "_law_deep", "_law_depths", "_law_rank", "_law_sort"] ["_law_box_here", "_law_size"] (defScope s__law_wire) := ⟨rfl, rfl, rfl, by decide +kernel, rfl, by decide +kernel, by decide +kernel⟩
theorem ok__law_wire {f : Addr} {fd : FuncData} (F : Fun K "_law_wire" "_law_wire" s__law_wire f fd) (T : Txt K mg) (c__law_take : Fnc P w K mg base 1 "_law_take" [true, false] ph__law_take) (c__law_of : Fnc P w K mg base 2 "_law_of" [true, false] ph__law_of) (c__law_strewn : Fnc P w K mg base 2 "_law_strewn" [true, false] ph__law_strewn) : FnG P w K mg base CX0 (3) f fd ["_law_box_here", "_law_size"] (spOf K [true, false] ph__law_wire) := by
  refine fnok_mk (k := 2) F sc__law_wire (b__law_wire) (fun cdv A outer s H E hr hG => ?_) (fun args R h => vc__law_wire args R h)
  have HN : (["_law_box_here", "_law_size", "_law_count", "_law_gap", "_law_deep", "_law_depths", "_law_rank", "_law_sort"] : List Str).Nodup := sc__law_wire.nd
  exact (ss_cons (ss_par2 2 3 [false, false] rfl HN (sa_cons (se_add se_int (se_call c__law_take hr hG (sa_cons (se_var 0) (sa_cons (se_var 1) sa_nil)))) (sa_cons (se_call c__law_of hr hG (sa_cons (se_var 0) (sa_cons (se_lst (sa_cons se_int (sa_cons se_int (sa_cons se_int (sa_cons (se_pow se_int se_int) (sa_cons (se_pow se_int se_int) sa_nil)))))) sa_nil))) sa_nil)) (by rfl)) (ss_cons (ss_par2 4 5 [false, true] rfl HN (sa_cons (se_call c__law_of hr hG (sa_cons (se_var 0) (sa_cons (se_lst (sa_cons se_int (sa_cons se_int (sa_cons se_int (sa_cons (se_pow se_int se_int) sa_nil))))) sa_nil))) (sa_cons (se_lst sa_nil) sa_nil)) (by rfl)) (ss_cons (ss_for PassesOwn.never rfl (si_range1 T.b_range (sa_cons (se_var 2) sa_nil)) (sg_name 6 HN) (ss_cons (ss_set 4 HN (se_add (se_add (se_var 4) se_int) (se_call c__law_take hr hG (sa_cons (se_var 0) (sa_cons (se_var 3) sa_nil))))) (ss_one (ss_expr (se_append 5 (sa_cons (se_var 4) sa_nil)))))) (ss_cons (ss_set 7 HN (se_call c__law_take hr hG (sa_cons (se_var 0) (sa_cons se_int sa_nil)))) (ss_cons (ss_if (st_lt (se_var 7) se_int) (ss_one (ss_ret (se_tuple T.b_tuple (sa_cons (se_stp (se_var 5) (sp_some (se_ix (se_lst (sa_cons se_int (sa_cons (se_neg se_int) sa_nil))) (se_var 7)))) sa_nil)))) ss_nil) (ss_one (ss_ret (se_tuple T.b_tuple (sa_cons (se_call c__law_strewn hr hG (sa_cons (se_var 0) (sa_cons (se_fz 5) sa_nil))) sa_nil)))))))))

abbrev s__law_power : Stmt := topS 11
theorem sc__law_power : FnScope ["_law_box_here", "_law_wire_here"] ["_law_box_here", "_law_wire_here"] (defScope s__law_power) := ⟨rfl, rfl, rfl, by decide +kernel, rfl, by decide +kernel, by decide +kernel⟩
theorem ok__law_power {f : Addr} {fd : FuncData} (F : Fun K "_law_power" "_law_power" s__law_power f fd) (T : Txt K mg) (c__law_of : Fnc P w K mg base 2 "_law_of" [true, false] ph__law_of) : FnG P w K mg base CX0 (3) f fd ["_law_box_here", "_law_wire_here"] (spOf K [true, false] ph__law_power) := by
  refine fnok_mk (k := 2) F sc__law_power (b__law_power) (fun cdv A outer s H E hr hG => ?_) (fun args R h => vc__law_power args R h)
  have HN : (["_law_box_here", "_law_wire_here"] : List Str).Nodup := sc__law_power.nd
  exact (ss_one (ss_ret (se_max2 rfl T.b_max (sa_cons se_int (sa_cons (se_add (se_call c__law_of hr hG (sa_cons (se_var 0) (sa_cons (se_add (se_list T.b_list (sa_cons (se_var 1) sa_nil)) (se_lst (sa_cons se_int (sa_cons (se_add (se_max rfl hr T.b_max (sa_cons (se_var 1) sa_nil)) se_int) sa_nil)))) sa_nil))) (se_call c__law_of hr hG (sa_cons (se_var 0) (sa_cons (se_lst (sa_cons se_int (sa_cons se_int (sa_cons se_int (sa_cons se_int (sa_cons (se_neg se_int) sa_nil)))))) sa_nil)))) sa_nil)))))

abbrev s__law_ends : Stmt := topS 12
theorem sc__law_ends : FnScope ["_law_wire_here", "_law_way", "_law_power_here", "_law_count", "_law_found", "_law_deep"] ["_law_wire_here", "_law_way", "_law_power_here", "_law_count"] (defScope s__law_ends) := ⟨rfl, rfl, rfl, by decide +kernel, rfl, by decide +kernel, by decide +kernel⟩
theorem ok__law_ends {f : Addr} {fd : FuncData} (F : Fun K "_law_ends" "_law_ends" s__law_ends f fd) (T : Txt K mg) : FnG P w K mg base CX0 (1) f fd ["_law_wire_here", "_law_way", "_law_power_here", "_law_count"] (spOf K [false, false, false, false] ph__law_ends) := by
  refine fnok_mk (k := 0) F sc__law_ends (b__law_ends) (fun cdv A outer s H E hr hG => ?_) (fun args R h => vc__law_ends args R h)
  have HN : (["_law_wire_here", "_law_way", "_law_power_here", "_law_count", "_law_found", "_law_deep"] : List Str).Nodup := sc__law_ends.nd
  exact (ss_cons (ss_setO 4 HN (se_lst sa_nil)) (ss_cons (ss_for PassesOwn.never rfl (si_seq (se_stp (se_var 0) (sp_some (se_if (st_eq hr (se_var 1) se_str) (se_neg se_int) se_int)))) (sg_name 5 HN) (ss_one (ss_if (st_of (st_and (st_ge (se_var 5) (se_var 2)) (st_and1 (st_lt (se_len T.b_len (sa_cons (se_var 4) sa_nil)) (se_var 3))))) (ss_one (ss_expr (se_append 4 (sa_cons (se_var 5) sa_nil)))) ss_nil))) (ss_one (ss_ret (se_mv 4)))))

abbrev s__law_right : Stmt := topS 13
theorem sc__law_right : FnScope ["_law_box_here", "_law_turn", "_law_wire_here", "_law_powers", "_law_power_here", "_law_way", "_law_count", "_law_due", "_law_found"] ["_law_box_here"] (defScope s__law_right) := ⟨rfl, rfl, rfl, by decide +kernel, rfl, by decide +kernel, by decide +kernel⟩
theorem ok__law_right {f : Addr} {fd : FuncData} (F : Fun K "_law_right" "_law_right" s__law_right f fd) (T : Txt K mg) (c_ends : Fnc P w K mg base 1 "ends" [false, false, false, false] ph_ends) (c__law_take : Fnc P w K mg base 1 "_law_take" [true, false] ph__law_take) (c__law_of : Fnc P w K mg base 2 "_law_of" [true, false] ph__law_of) (c__law_same : Fnc P w K mg base 9 "_law_same" [false, false] ph__law_same) (c__law_wire : Fnc P w K mg base 3 "_law_wire" [true, false] ph__law_wire) (c__law_power : Fnc P w K mg base 3 "_law_power" [true, false] ph__law_power) (c__law_ends : Fnc P w K mg base 1 "_law_ends" [false, false, false, false] ph__law_ends) (k_ends_3_2_1_0_0 : FncK P w K mg base 1 "ends" 4 0 ["many", "strength", "side", "channel"] [3, 2, 1, 0] ph_ends) : FnG P w K mg base CX0 (10) f fd ["_law_box_here"] (spOf K [true] ph__law_right) := by
  refine fnok_mk (k := 9) F sc__law_right (b__law_right) (fun cdv A outer s H E hr hG => ?_) (fun args R h => vc__law_right args R h)
  have HN : (["_law_box_here", "_law_turn", "_law_wire_here", "_law_powers", "_law_power_here", "_law_way", "_law_count", "_law_due", "_law_found"] : List Str).Nodup := sc__law_right.nd
  exact (ss_cons (ss_for PassesOwn.never rfl (si_range1 T.b_range (sa_cons se_int sa_nil)) (sg_name 1 HN) (ss_cons (ss_set 2 HN (se_call c__law_wire hr hG (sa_cons (se_var 0) (sa_cons se_int sa_nil)))) (ss_cons (ss_set 3 HN (se_lst (sa_cons se_int (sa_cons (se_min rfl hr T.b_min (sa_cons (se_var 2) sa_nil)) (sa_cons (se_max rfl hr T.b_max (sa_cons (se_var 2) sa_nil)) (sa_cons (se_add (se_max rfl hr T.b_max (sa_cons (se_var 2) sa_nil)) se_int) (sa_cons (se_call c__law_power hr hG (sa_cons (se_var 0) (sa_cons (se_var 2) sa_nil))) (sa_cons (se_call c__law_power hr hG (sa_cons (se_var 0) (sa_cons (se_var 2) sa_nil))) sa_nil)))))))) (ss_one (ss_for PassesOwn.never rfl (si_seq (se_sortedSet rfl T.b_sorted T.b_set (sa_cons (se_var 3) sa_nil))) (sg_name 4 HN) (ss_one (ss_for PassesOwn.never rfl (si_seq (se_tup (sa_cons se_str (sa_cons se_str sa_nil)))) (sg_name 5 HN) (ss_cons (ss_set 6 HN (se_call c__law_of hr hG (sa_cons (se_var 0) (sa_cons (se_lst (sa_cons se_int (sa_cons se_int (sa_cons (se_len T.b_len (sa_cons (se_var 2) sa_nil)) (sa_cons se_int (sa_cons (se_call c__law_take hr hG (sa_cons (se_var 0) (sa_cons (se_add (se_len T.b_len (sa_cons (se_var 2) sa_nil)) se_int) sa_nil))) sa_nil)))))) sa_nil)))) (ss_cons (ss_set 7 HN (se_call c__law_ends hr hG (sa_cons (se_var 2) (sa_cons (se_var 5) (sa_cons (se_var 4) (sa_cons (se_var 6) sa_nil)))))) (ss_cons (ss_setO 8 HN (se_lst2 (sa_cons (se_call c_ends hr hG (sa_cons (se_var 2) (sa_cons (se_var 5) (sa_cons (se_var 4) (sa_cons (se_var 6) sa_nil))))) (sa_cons (se_callK0 k_ends_3_2_1_0_0 hr hG (sk_cons (se_var 6) (sk_cons (se_var 4) (sk_cons (se_var 5) (sk_cons (se_list T.b_list (sa_cons (se_var 2) sa_nil)) sk_nil))))) sa_nil)))) (ss_cons (ss_if (st_lend 8 [0] (st_not (st_val (se_call c__law_same hr hG (sa_cons (se_fz 8) (sa_cons (se_lst (sa_cons (se_var 7) (sa_cons (se_var 7) sa_nil))) sa_nil)))))) (ss_one (ss_ret se_bl)) ss_nil) (ss_cons (ss_expr (se_app2 8 0)) (ss_cons (ss_expr (se_rev2 8 0)) (ss_one (ss_if (st_not (st_val (se_call c__law_same hr hG (sa_cons (se_call c_ends hr hG (sa_cons (se_var 2) (sa_cons (se_var 5) (sa_cons (se_var 4) (sa_cons (se_var 6) sa_nil))))) (sa_cons (se_var 7) sa_nil))))) (ss_one (ss_ret se_bl)) ss_nil))))))))))))))) (ss_one (ss_ret se_bl)))

abbrev s_law : Stmt := topS 14
theorem sc_law : FnScope ["_law_script", "_law_k"] ["_law_script"] (defScope s_law) := ⟨rfl, rfl, rfl, by decide +kernel, rfl, by decide +kernel, by decide +kernel⟩
theorem ok_law {f : Addr} {fd : FuncData} (F : Fun K "law" "law" s_law f fd) (T : Txt K mg) (c__law_box : Fnc P w K mg base 2 "_law_box" [false, false] ph__law_box) (c__law_right : Fnc P w K mg base 10 "_law_right" [true] ph__law_right) : FnG P w K mg base CX0 (11) f fd ["_law_script"] (spOf K [false] ph_law) := by
  refine fnok_mk (k := 10) F sc_law (b_law) (fun cdv A outer s H E hr hG => ?_) (fun args R h => vc_law args R h)
  have HN : (["_law_script", "_law_k"] : List Str).Nodup := sc_law.nd
  exact (ss_one (ss_ret (se_all rfl T.b_all (sa_cons (se_lc (own := [("_law_k", 1)]) rfl HN (si_range1 T.b_range (sa_cons (se_add se_int (se_min2 rfl T.b_min (sa_cons se_int (sa_cons (se_len T.b_len (sa_cons (se_var 0) sa_nil)) sa_nil)))) sa_nil)) (by exact blkOk_by (N := ["_law_script", "_law_k"]) (sc := defScope s_law) (own := [("_law_k", 1)]) (by decide +kernel)) (fun _ _ _ _ _ => (sg_name 1 HN)) (fun _ _ _ _ _ => sf_nil) (fun _ _ _ _ _ => (se_call c__law_right hr hG (sa_cons (se_call c__law_box hr hG (sa_cons (se_var 0) (sa_cons (se_var 1) sa_nil))) sa_nil)))) sa_nil))))

end
theorem all_mk {l : PySem.W.OpenLaw} {w : World} {K : PySem.W.Frag} {h : Heap} {mg : Str → Option Value} {fa : Addr} (X : K.In h) (G : h.Ns mainGlobals mg) (hfa : mg "law" = some (.ref fa))
    {f0 : Addr} {od0 an0 : Option Addr} {sl0 : Array (Option Value)} {oc0 kV0 dc0 pm0 cd0 ct0 : Value}
    (a0 : PySem.W.nsIn K mainGlobals "ends" = some (some (.ref f0))) (l0 : K.lookup f0 = some ⟨oc0, od0, .func (PySem.W.fnOf "ends" "ends" (defArgs s_ends) (defBody s_ends) (defScope s_ends) .none kV0 dc0 pm0 an0 cd0 ct0), sl0⟩) (c0 : PySem.W.codeIn K cd0 "ends" = true) (k0 : PySem.W.keepIn K (.ref f0) = true)
    {f1 : Addr} {od1 an1 : Option Addr} {sl1 : Array (Option Value)} {oc1 kV1 dc1 pm1 cd1 ct1 : Value}
    (a1 : PySem.W.nsIn K mainGlobals "_law_cell_at" = some (some (.ref f1))) (l1 : K.lookup f1 = some ⟨oc1, od1, .func (PySem.W.fnOf "_law_cell_at" "_law_cell_at" (defArgs s__law_cell_at) (defBody s__law_cell_at) (defScope s__law_cell_at) .none kV1 dc1 pm1 an1 cd1 ct1), sl1⟩) (c1 : PySem.W.codeIn K cd1 "_law_cell_at" = true) (k1 : PySem.W.keepIn K (.ref f1) = true)
    {f2 : Addr} {od2 an2 : Option Addr} {sl2 : Array (Option Value)} {oc2 kV2 dc2 pm2 cd2 ct2 : Value}
    (a2 : PySem.W.nsIn K mainGlobals "_law_box" = some (some (.ref f2))) (l2 : K.lookup f2 = some ⟨oc2, od2, .func (PySem.W.fnOf "_law_box" "_law_box" (defArgs s__law_box) (defBody s__law_box) (defScope s__law_box) .none kV2 dc2 pm2 an2 cd2 ct2), sl2⟩) (c2 : PySem.W.codeIn K cd2 "_law_box" = true) (k2 : PySem.W.keepIn K (.ref f2) = true)
    {f3 : Addr} {od3 an3 : Option Addr} {sl3 : Array (Option Value)} {oc3 kV3 dc3 pm3 cd3 ct3 : Value}
    (a3 : PySem.W.nsIn K mainGlobals "_law_take" = some (some (.ref f3))) (l3 : K.lookup f3 = some ⟨oc3, od3, .func (PySem.W.fnOf "_law_take" "_law_take" (defArgs s__law_take) (defBody s__law_take) (defScope s__law_take) .none kV3 dc3 pm3 an3 cd3 ct3), sl3⟩) (c3 : PySem.W.codeIn K cd3 "_law_take" = true) (k3 : PySem.W.keepIn K (.ref f3) = true)
    {f4 : Addr} {od4 an4 : Option Addr} {sl4 : Array (Option Value)} {oc4 kV4 dc4 pm4 cd4 ct4 : Value}
    (a4 : PySem.W.nsIn K mainGlobals "_law_of" = some (some (.ref f4))) (l4 : K.lookup f4 = some ⟨oc4, od4, .func (PySem.W.fnOf "_law_of" "_law_of" (defArgs s__law_of) (defBody s__law_of) (defScope s__law_of) .none kV4 dc4 pm4 an4 cd4 ct4), sl4⟩) (c4 : PySem.W.codeIn K cd4 "_law_of" = true) (k4 : PySem.W.keepIn K (.ref f4) = true)
    {f5 : Addr} {od5 an5 : Option Addr} {sl5 : Array (Option Value)} {oc5 kV5 dc5 pm5 cd5 ct5 : Value}
    (a5 : PySem.W.nsIn K mainGlobals "_law_same" = some (some (.ref f5))) (l5 : K.lookup f5 = some ⟨oc5, od5, .func (PySem.W.fnOf "_law_same" "_law_same" (defArgs s__law_same) (defBody s__law_same) (defScope s__law_same) .none kV5 dc5 pm5 an5 cd5 ct5), sl5⟩) (c5 : PySem.W.codeIn K cd5 "_law_same" = true) (k5 : PySem.W.keepIn K (.ref f5) = true)
    {f6 : Addr} {od6 an6 : Option Addr} {sl6 : Array (Option Value)} {oc6 kV6 dc6 pm6 cd6 ct6 : Value}
    (a6 : PySem.W.nsIn K mainGlobals "_law_strewn" = some (some (.ref f6))) (l6 : K.lookup f6 = some ⟨oc6, od6, .func (PySem.W.fnOf "_law_strewn" "_law_strewn" (defArgs s__law_strewn) (defBody s__law_strewn) (defScope s__law_strewn) .none kV6 dc6 pm6 an6 cd6 ct6), sl6⟩) (c6 : PySem.W.codeIn K cd6 "_law_strewn" = true) (k6 : PySem.W.keepIn K (.ref f6) = true)
    {f7 : Addr} {od7 an7 : Option Addr} {sl7 : Array (Option Value)} {oc7 kV7 dc7 pm7 cd7 ct7 : Value}
    (a7 : PySem.W.nsIn K mainGlobals "_law_wire" = some (some (.ref f7))) (l7 : K.lookup f7 = some ⟨oc7, od7, .func (PySem.W.fnOf "_law_wire" "_law_wire" (defArgs s__law_wire) (defBody s__law_wire) (defScope s__law_wire) .none kV7 dc7 pm7 an7 cd7 ct7), sl7⟩) (c7 : PySem.W.codeIn K cd7 "_law_wire" = true) (k7 : PySem.W.keepIn K (.ref f7) = true)
    {f8 : Addr} {od8 an8 : Option Addr} {sl8 : Array (Option Value)} {oc8 kV8 dc8 pm8 cd8 ct8 : Value}
    (a8 : PySem.W.nsIn K mainGlobals "_law_power" = some (some (.ref f8))) (l8 : K.lookup f8 = some ⟨oc8, od8, .func (PySem.W.fnOf "_law_power" "_law_power" (defArgs s__law_power) (defBody s__law_power) (defScope s__law_power) .none kV8 dc8 pm8 an8 cd8 ct8), sl8⟩) (c8 : PySem.W.codeIn K cd8 "_law_power" = true) (k8 : PySem.W.keepIn K (.ref f8) = true)
    {f9 : Addr} {od9 an9 : Option Addr} {sl9 : Array (Option Value)} {oc9 kV9 dc9 pm9 cd9 ct9 : Value}
    (a9 : PySem.W.nsIn K mainGlobals "_law_ends" = some (some (.ref f9))) (l9 : K.lookup f9 = some ⟨oc9, od9, .func (PySem.W.fnOf "_law_ends" "_law_ends" (defArgs s__law_ends) (defBody s__law_ends) (defScope s__law_ends) .none kV9 dc9 pm9 an9 cd9 ct9), sl9⟩) (c9 : PySem.W.codeIn K cd9 "_law_ends" = true) (k9 : PySem.W.keepIn K (.ref f9) = true)
    {f10 : Addr} {od10 an10 : Option Addr} {sl10 : Array (Option Value)} {oc10 kV10 dc10 pm10 cd10 ct10 : Value}
    (a10 : PySem.W.nsIn K mainGlobals "_law_right" = some (some (.ref f10))) (l10 : K.lookup f10 = some ⟨oc10, od10, .func (PySem.W.fnOf "_law_right" "_law_right" (defArgs s__law_right) (defBody s__law_right) (defScope s__law_right) .none kV10 dc10 pm10 an10 cd10 ct10), sl10⟩) (c10 : PySem.W.codeIn K cd10 "_law_right" = true) (k10 : PySem.W.keepIn K (.ref f10) = true)
    {f11 : Addr} {od11 an11 : Option Addr} {sl11 : Array (Option Value)} {oc11 kV11 dc11 pm11 cd11 ct11 : Value}
    (a11 : PySem.W.nsIn K mainGlobals "law" = some (some (.ref f11))) (l11 : K.lookup f11 = some ⟨oc11, od11, .func (PySem.W.fnOf "law" "law" (defArgs s_law) (defBody s_law) (defScope s_law) .none kV11 dc11 pm11 an11 cd11 ct11), sl11⟩) (c11 : PySem.W.codeIn K cd11 "law" = true) (k11 : PySem.W.keepIn K (.ref f11) = true)
    (z_abs : PySem.W.nsIn K mainGlobals "abs" = some none)
    (z_all : PySem.W.nsIn K mainGlobals "all" = some none)
    (z_bool : PySem.W.nsIn K mainGlobals "bool" = some none)
    (z_int : PySem.W.nsIn K mainGlobals "int" = some none)
    (z_isinstance : PySem.W.nsIn K mainGlobals "isinstance" = some none)
    (z_len : PySem.W.nsIn K mainGlobals "len" = some none)
    (z_list : PySem.W.nsIn K mainGlobals "list" = some none)
    (z_max : PySem.W.nsIn K mainGlobals "max" = some none)
    (z_min : PySem.W.nsIn K mainGlobals "min" = some none)
    (z_range : PySem.W.nsIn K mainGlobals "range" = some none)
    (z_set : PySem.W.nsIn K mainGlobals "set" = some none)
    (z_sorted : PySem.W.nsIn K mainGlobals "sorted" = some none)
    (z_str : PySem.W.nsIn K mainGlobals "str" = some none)
    (z_tuple : PySem.W.nsIn K mainGlobals "tuple" = some none)
    (z_zip : PySem.W.nsIn K mainGlobals "zip" = some none)
    {t_RIGHT : Tok} (g_RIGHT : PySem.W.nsIn K mainGlobals "RIGHT" = some (some (.str "right" t_RIGHT)))
    : ∃ fd : FuncData, (∀ (s : Shared) (v : Value), BindsTo s fd ⟨[v], []⟩ [("_law_script", v)]) ∧ ∀ base : Heap, K.In base → base.Ns mainGlobals mg → FnG l.prog w K mg base CX0 11 fa fd ["_law_script"] (spOf K [false] ph_law) := by
  have e := hfa.symm.trans (PySem.W.mg_of X G a11)
  cases e
  have T : Txt K mg := ⟨PySem.W.mg_none_of X G z_abs, PySem.W.mg_none_of X G z_all, PySem.W.mg_none_of X G z_bool, PySem.W.mg_none_of X G z_int, PySem.W.mg_none_of X G z_isinstance, PySem.W.mg_none_of X G z_len, PySem.W.mg_none_of X G z_list, PySem.W.mg_none_of X G z_max, PySem.W.mg_none_of X G z_min, PySem.W.mg_none_of X G z_range, PySem.W.mg_none_of X G z_set, PySem.W.mg_none_of X G z_sorted, PySem.W.mg_none_of X G z_str, PySem.W.mg_none_of X G z_tuple, PySem.W.mg_none_of X G z_zip, ⟨_, PySem.W.mg_of X G g_RIGHT⟩⟩
  have F0 := fun_mk (st := s_ends) l0 c0 k0
  have m0 := PySem.W.mg_of X G a0
  have b0 := F0.binds (ps := ["channel", "side", "strength", "many"]) fun _ _ _ _ _ _ us hl => match us, hl with | [_, _, _, _], _ => rfl
  have F1 := fun_mk (st := s__law_cell_at) l1 c1 k1
  have m1 := PySem.W.mg_of X G a1
  have b1 := F1.binds (ps := ["_law_script", "_law_k"]) fun _ _ _ _ _ _ us hl => match us, hl with | [_, _], _ => rfl
  have F2 := fun_mk (st := s__law_box) l2 c2 k2
  have m2 := PySem.W.mg_of X G a2
  have b2 := F2.binds (ps := ["_law_script", "_law_k"]) fun _ _ _ _ _ _ us hl => match us, hl with | [_, _], _ => rfl
  have F3 := fun_mk (st := s__law_take) l3 c3 k3
  have m3 := PySem.W.mg_of X G a3
  have b3 := F3.binds (ps := ["_law_box_here", "_law_span"]) fun _ _ _ _ _ _ us hl => match us, hl with | [_, _], _ => rfl
  have F4 := fun_mk (st := s__law_of) l4 c4 k4
  have m4 := PySem.W.mg_of X G a4
  have b4 := F4.binds (ps := ["_law_box_here", "_law_some"]) fun _ _ _ _ _ _ us hl => match us, hl with | [_, _], _ => rfl
  have F5 := fun_mk (st := s__law_same) l5 c5 k5
  have m5 := PySem.W.mg_of X G a5
  have b5 := F5.binds (ps := ["_law_found", "_law_due"]) fun _ _ _ _ _ _ us hl => match us, hl with | [_, _], _ => rfl
  have F6 := fun_mk (st := s__law_strewn) l6 c6 k6
  have m6 := PySem.W.mg_of X G a6
  have b6 := F6.binds (ps := ["_law_box_here", "_law_some"]) fun _ _ _ _ _ _ us hl => match us, hl with | [_, _], _ => rfl
  have F7 := fun_mk (st := s__law_wire) l7 c7 k7
  have m7 := PySem.W.mg_of X G a7
  have b7 := F7.binds (ps := ["_law_box_here", "_law_size"]) fun _ _ _ _ _ _ us hl => match us, hl with | [_, _], _ => rfl
  have F8 := fun_mk (st := s__law_power) l8 c8 k8
  have m8 := PySem.W.mg_of X G a8
  have b8 := F8.binds (ps := ["_law_box_here", "_law_wire_here"]) fun _ _ _ _ _ _ us hl => match us, hl with | [_, _], _ => rfl
  have F9 := fun_mk (st := s__law_ends) l9 c9 k9
  have m9 := PySem.W.mg_of X G a9
  have b9 := F9.binds (ps := ["_law_wire_here", "_law_way", "_law_power_here", "_law_count"]) fun _ _ _ _ _ _ us hl => match us, hl with | [_, _, _, _], _ => rfl
  have F10 := fun_mk (st := s__law_right) l10 c10 k10
  have m10 := PySem.W.mg_of X G a10
  have b10 := F10.binds (ps := ["_law_box_here"]) fun _ _ _ _ _ _ us hl => match us, hl with | [_], _ => rfl
  have F11 := fun_mk (st := s_law) l11 c11 k11
  have m11 := PySem.W.mg_of X G a11
  have b11 := F11.binds (ps := ["_law_script"]) fun _ _ _ _ _ _ us hl => match us, hl with | [_], _ => rfl
  refine ⟨PySem.W.fnOf "law" "law" (defArgs s_law) (defBody s_law) (defScope s_law) .none kV11 dc11 pm11 an11 cd11 ct11, fun s v => .of_eq rfl, fun base _ _ => ?_⟩
  have O0 := ok_ends (P := l.prog) (w := w) (base := base) F0 T  
  have C0 : Fnc l.prog w K mg base 1 "ends" [false, false, false, false] ph_ends := ⟨_, _, _, O0, m0, F0.kp, b0⟩
  have k_ends_3_2_1_0_0 : FncK l.prog w K mg base 1 "ends" 4 0 ["many", "strength", "side", "channel"] [3, 2, 1, 0] ph_ends := ⟨_, _, _, O0, m0, F0.kp, kwb_of F0 fun _ _ _ _ _ _ us ws h1 h2 => match us, ws, h1, h2 with | [], [_, _, _, _], _, _ => rfl⟩
  have O1 := ok__law_cell_at (P := l.prog) (w := w) (base := base) F1 T  
  have C1 : Fnc l.prog w K mg base 1 "_law_cell_at" [false, false] ph__law_cell_at := ⟨_, _, _, O1, m1, F1.kp, b1⟩
  have O2 := ok__law_box (P := l.prog) (w := w) (base := base) F2 T C1 
  have C2 : Fnc l.prog w K mg base 2 "_law_box" [false, false] ph__law_box := ⟨_, _, _, O2, m2, F2.kp, b2⟩
  have O3 := ok__law_take (P := l.prog) (w := w) (base := base) F3 T  
  have C3 : Fnc l.prog w K mg base 1 "_law_take" [true, false] ph__law_take := ⟨_, _, _, O3, m3, F3.kp, b3⟩
  have O4 := ok__law_of (P := l.prog) (w := w) (base := base) F4 T C3 
  have C4 : Fnc l.prog w K mg base 2 "_law_of" [true, false] ph__law_of := ⟨_, _, _, O4, m4, F4.kp, b4⟩
  have R0 : Fnc l.prog w K mg base 1 "_law_same" [false, false] noPhi := ⟨_, _, _, fnok_no F5 sc__law_same, m5, F5.kp, b5⟩
  have R1 : Fnc l.prog w K mg base 2 "_law_same" [false, false] (phSame 0) := ⟨_, _, _, ok__law_same F5 T (j := 0) vc__law_same0 R0  , m5, F5.kp, b5⟩
  have R2 : Fnc l.prog w K mg base 3 "_law_same" [false, false] (phSame 1) := ⟨_, _, _, ok__law_same F5 T (j := 1) (vc__law_same 0) R1  , m5, F5.kp, b5⟩
  have R3 : Fnc l.prog w K mg base 4 "_law_same" [false, false] (phSame 2) := ⟨_, _, _, ok__law_same F5 T (j := 2) (vc__law_same 1) R2  , m5, F5.kp, b5⟩
  have R4 : Fnc l.prog w K mg base 5 "_law_same" [false, false] (phSame 3) := ⟨_, _, _, ok__law_same F5 T (j := 3) (vc__law_same 2) R3  , m5, F5.kp, b5⟩
  have R5 : Fnc l.prog w K mg base 6 "_law_same" [false, false] (phSame 4) := ⟨_, _, _, ok__law_same F5 T (j := 4) (vc__law_same 3) R4  , m5, F5.kp, b5⟩
  have R6 : Fnc l.prog w K mg base 7 "_law_same" [false, false] (phSame 5) := ⟨_, _, _, ok__law_same F5 T (j := 5) (vc__law_same 4) R5  , m5, F5.kp, b5⟩
  have R7 : Fnc l.prog w K mg base 8 "_law_same" [false, false] (phSame 6) := ⟨_, _, _, ok__law_same F5 T (j := 6) (vc__law_same 5) R6  , m5, F5.kp, b5⟩
  have R8 : Fnc l.prog w K mg base 9 "_law_same" [false, false] (phSame 7) := ⟨_, _, _, ok__law_same F5 T (j := 7) (vc__law_same 6) R7  , m5, F5.kp, b5⟩
  have C5 : Fnc l.prog w K mg base 9 "_law_same" [false, false] ph__law_same := R8
  have O6 := ok__law_strewn (P := l.prog) (w := w) (base := base) F6 T C3 
  have C6 : Fnc l.prog w K mg base 2 "_law_strewn" [true, false] ph__law_strewn := ⟨_, _, _, O6, m6, F6.kp, b6⟩
  have O7 := ok__law_wire (P := l.prog) (w := w) (base := base) F7 T C3 C4 C6 
  have C7 : Fnc l.prog w K mg base 3 "_law_wire" [true, false] ph__law_wire := ⟨_, _, _, O7, m7, F7.kp, b7⟩
  have O8 := ok__law_power (P := l.prog) (w := w) (base := base) F8 T C4 
  have C8 : Fnc l.prog w K mg base 3 "_law_power" [true, false] ph__law_power := ⟨_, _, _, O8, m8, F8.kp, b8⟩
  have O9 := ok__law_ends (P := l.prog) (w := w) (base := base) F9 T  
  have C9 : Fnc l.prog w K mg base 1 "_law_ends" [false, false, false, false] ph__law_ends := ⟨_, _, _, O9, m9, F9.kp, b9⟩
  have O10 := ok__law_right (P := l.prog) (w := w) (base := base) F10 T C0 C3 C4 C5 C7 C8 C9 k_ends_3_2_1_0_0
  have C10 : Fnc l.prog w K mg base 10 "_law_right" [true] ph__law_right := ⟨_, _, _, O10, m10, F10.kp, b10⟩
  exact ok_law F11 T C2 C10 
end Lw
open PySem PySem.W PyProof.Rows in
set_option maxRecDepth 100000 in
set_option maxHeartbeats 0 in
theorem PySem.Challenge.cw_tiltpits_k43_ends_of_channels_holds : PySem.Challenge.rw_tiltpits_k43_ends_of_channels.Holds := by
  w_on; o_law; k_head; (case hw => w_witness2)
  k_fill
  refine Pv.walk_g (l := PySem.Challenge.rw_tiltpits_k43_ends_of_channels) (n := 63) (k := 11) (x := "_law_script") (spw := fun w => Pv.spOf _ [false] Lw.ph_law) rfl (by decide) rfl ⟨rfl, by decide, by decide⟩ (fun w h Y => PySem.W.kIn_of Y) ?F (fun _ _ a ns hl _ hS => Lw.law_sp hS hl fun _ => rfl)
  case F =>
    intro w mg fa h KX G hmg
    refine' Lw.all_mk KX G hmg ?a0 ?l0 ?c0 ?k0 ?a1 ?l1 ?c1 ?k1 ?a2 ?l2 ?c2 ?k2 ?a3 ?l3 ?c3 ?k3 ?a4 ?l4 ?c4 ?k4 ?a5 ?l5 ?c5 ?k5 ?a6 ?l6 ?c6 ?k6 ?a7 ?l7 ?c7 ?k7 ?a8 ?l8 ?c8 ?k8 ?a9 ?l9 ?c9 ?k9 ?a10 ?l10 ?c10 ?k10 ?a11 ?l11 ?c11 ?k11 ?z_abs ?z_all ?z_bool ?z_int ?z_isinstance ?z_len ?z_list ?z_max ?z_min ?z_range ?z_set ?z_sorted ?z_str ?z_tuple ?z_zip ?g_RIGHT
    (case a0 => k_is)
    (case l0 => k_is)
    (case c0 => k_is)
    (case k0 => k_is)
    (case a1 => k_is)
    (case l1 => k_is)
    (case c1 => k_is)
    (case k1 => k_is)
    (case a2 => k_is)
    (case l2 => k_is)
    (case c2 => k_is)
    (case k2 => k_is)
    (case a3 => k_is)
    (case l3 => k_is)
    (case c3 => k_is)
    (case k3 => k_is)
    (case a4 => k_is)
    (case l4 => k_is)
    (case c4 => k_is)
    (case k4 => k_is)
    (case a5 => k_is)
    (case l5 => k_is)
    (case c5 => k_is)
    (case k5 => k_is)
    (case a6 => k_is)
    (case l6 => k_is)
    (case c6 => k_is)
    (case k6 => k_is)
    (case a7 => k_is)
    (case l7 => k_is)
    (case c7 => k_is)
    (case k7 => k_is)
    (case a8 => k_is)
    (case l8 => k_is)
    (case c8 => k_is)
    (case k8 => k_is)
    (case a9 => k_is)
    (case l9 => k_is)
    (case c9 => k_is)
    (case k9 => k_is)
    (case a10 => k_is)
    (case l10 => k_is)
    (case c10 => k_is)
    (case k10 => k_is)
    (case a11 => k_is)
    (case l11 => k_is)
    (case c11 => k_is)
    (case k11 => k_is)
    (case z_abs => k_is)
    (case z_all => k_is)
    (case z_bool => k_is)
    (case z_int => k_is)
    (case z_isinstance => k_is)
    (case z_len => k_is)
    (case z_list => k_is)
    (case z_max => k_is)
    (case z_min => k_is)
    (case z_range => k_is)
    (case z_set => k_is)
    (case z_sorted => k_is)
    (case z_str => k_is)
    (case z_tuple => k_is)
    (case z_zip => k_is)
    (case g_RIGHT => k_is)
#print axioms PySem.Challenge.cw_tiltpits_k43_ends_of_channels_holds
