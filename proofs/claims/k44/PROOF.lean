import PyProof.Rows.All
import Wide.All
import OpenK.AllK
import Wide.FinOn
import HandS.ForMost
import HandS.Exc
import HandS.Lambda
import KE.KDictKeyed
import KE.KeyNested
import HandS.TupAny
import HandS.Wide
import HandS.Style
import HandS.Text
import KE.KRevSl
import HandS.Defaults
import HandS.Words
import HandS.Ends
import HandS.NoneIn
import HandS.Iter
import HandS.IsInst
import HandS.Deep
import HandS.Zip
import HandS.SortInts
import HandS.Sort
import HandS.TupMul
import KE.DataMinMax
import KE.GoesEnum
import HandS.Conv
import HandS.More
import KE.DatumOrd
import HandS.SortKw
import HandS.DictComp
import HandS.Small
import KE.KDictLaws
import HandS.SetFor
import HandS.Strs
import PyProof.Rows.SetFrom
import PyProof.SetRoads
import KE.DataFind
import KE.KUnpackStar
import HandS.ExcValue
import HandS.TryMany
import KE.KTryMore
import HandS.ExcInit
import HandS.FStr
import HandS.ExcField
import HandS.WordsExc
import HandS.ExcOwn
import KE.KExcIs
import HandS.ExcIs
import KE.KExcInit
import HandS.MakeKwOnly
import HandS.SlotsOwn
import OpenK.KOps
import PyProof.InstNe
import HandS.Finally
import PyProof.StrBlock2
import HandS.Flow
import PyProof.Rows.RegBound
import PyProof.StrLawsIn
import PyProof.StrLawsRepr
import KE.IntTextLaws
import HandS.Codes
import PySem.Challenge.RW_tiltpits_k44_channels_told_apart
set_option autoImplicit false
set_option hygiene false
set_option Elab.async false
set_option linter.all false
set_option maxRecDepth 100000
set_option maxHeartbeats 8000000
/-! Pv1: data over the abstract heap with owners. -/
namespace Pv
open PySem PySem.Spec PyProof.Rows L2

abbrev D := PyData
abbrev Fg := PySem.W.Frag
abbrev Sg := L2.St
/-- who may write at an address: nobody (it is read alone), somebody beyond this frame, the slot i (at a place of its tree), the t-th value in hand -/
inductive Ow where
  | shr | far | own (i : Nat) (p : List Nat) | tmp (t : Nat) (p : List Nat) | tab
  deriving DecidableEq
abbrev Om := Addr → Ow

def KL (K : Fg) (a : Addr) (xs : List V) : Prop :=
  ∃ (o : Obj) (its : Array Value) (n : Nat), K.lookup a = some o ∧ o.cls = .type "list" ∧ o.dict = none ∧ o.data = .seq its n ∧ its.size ≤ sizeLine ∧ Vals xs its.toList
def KT (K : Fg) (a : Addr) (xs : List V) : Prop :=
  ∃ (o : Obj) (its : Array Value) (n : Nat), K.lookup a = some o ∧ o.cls = .type "tuple" ∧ o.data = .seq its n ∧ its.size ≤ sizeLine ∧ Vals xs its.toList
def SL (ω : Om) (H : Hp) (a : Addr) (xs : List V) : Prop := H a = some (.lst xs) ∧ ω a = .shr
def SU (K : Fg) (ω : Om) (H : Hp) (a : Addr) (xs : List V) : Prop := (H a = some (.tup xs) ∧ ω a = .shr) ∨ KT K a xs
/-- the script: a list that is known, not tracked as a plain one; as data it's told by a form of its own -/
def SC (K : Fg) (ω : Om) (H : Hp) (a : Addr) (xs : List V) : Prop := (Rd H a (.lst xs) ∧ ω a = .shr) ∨ KL K a xs
def scrD (ns : List Int) : D := .dict (ns.map fun n => (PyData.none, PyData.int n))
def isScr (kvs : List (D × D)) : Bool := match kvs with
  | (.bool _, _) :: _ => false
  | _ => true
theorem isScr_map (ns : List Int) : isScr (ns.map fun n => (PyData.none, PyData.int n)) = true := by cases ns <;> rfl
/-- a dict whose keys are ints, told by a form of its own -/
def dctD (es : List (Int × D)) : D := .dict ((.bool true, .none) :: es.map fun p => (.int p.1, p.2))
/-- its values -/
inductive DVal (ω : Om) (H : Hp) : V → D → Prop
  | bl (b : Bool) : DVal ω H (.bl b) (.bool b)
  | int (i : Int) : DVal ω H (.int i) (.int i)
  | il {a : Addr} {ns : List Int} : SL ω H a (ns.map V.int) → DVal ω H (.ref a) (.list (ns.map PyData.int))
inductive DPs (ω : Om) (H : Hp) : List (Key × V) → List (Int × D) → Prop
  | nil : DPs ω H [] []
  | cons {i : Int} {v : V} {d : D} {kvs : List (Key × V)} {es : List (Int × D)} : DVal ω H v d → DPs ω H kvs es → DPs ω H ((.inl i, v) :: kvs) ((i, d) :: es)
/-! dicts whose keys are tuples of ints, None, such tuples -/
mutual
/-- a key as data -/
def kyD : NestedKey → D
  | .none => .none
  | .num i => .int i
  | .text x => .str x
  | .tup ks => .tuple (kyDs ks)
def kyDs : List NestedKey → List D
  | [] => []
  | k :: ks => kyD k :: kyDs ks
end
mutual
inductive KyR (K : Fg) (ω : Om) (H : Hp) : V → NestedKey → Prop
  | non : KyR K ω H .non .none
  | int (i : Int) : KyR K ω H (.int i) (.num i)
  | tup {a : Addr} {xs : List V} {ks : List NestedKey} : SU K ω H a xs → KyAll K ω H xs ks → KyR K ω H (.ref a) (.tup ks)
inductive KyAll (K : Fg) (ω : Om) (H : Hp) : List V → List NestedKey → Prop
  | nil : KyAll K ω H [] []
  | cons {v : V} {vs : List V} {k : NestedKey} {ks : List NestedKey} : KyR K ω H v k → KyAll K ω H vs ks → KyAll K ω H (v :: vs) (k :: ks)
end
def TV (x : NestedKey × Addr × V) (y : NestedKey × Addr × Value) : Prop := x.1 = y.1 ∧ x.2.1 = y.2.1 ∧ RelV x.2.2 y.2.2
/-- such a dict: its keys, where their tuples stand, its values (ints, truths) -/
def DtP (a : Addr) (xs : List (NestedKey × Addr × V)) (h : Heap) : Prop := (a == sysModules) = false ∧ ∃ (o : Obj) (es : Array DictEntry) (ep : Nat) (ys : List (NestedKey × Addr × Value)),
  Paired TV xs ys ∧ h.get? a = some o ∧ o.ExactDict ∧ o.data = .dict es ep ∧ (∀ w : World, es.toList = ys.map fun y => ⟨y.1.hash w, .ref y.2.1, y.2.2⟩) ∧ (ys.map (·.1)).Nodup ∧ (∀ y ∈ ys, y.1.depth ≤ 8) ∧ ys.length ≤ sizeLine
def DtO (a : Addr) (xs : List (NestedKey × Addr × V)) : HO := .ext (DtP a xs)
inductive TVal : V → D → Prop
  | bl (b : Bool) : TVal (.bl b) (.bool b)
  | int (i : Int) : TVal (.int i) (.int i)
inductive TPs (K : Fg) (ω : Om) (H : Hp) : List (NestedKey × Addr × V) → List (NestedKey × D) → Prop
  | nil : TPs K ω H [] []
  | cons {k : NestedKey} {b : Addr} {v : V} {d : D} {xs : List (NestedKey × Addr × V)} {es : List (NestedKey × D)} : KyR K ω H (.ref b) k → TVal v d → TPs K ω H xs es → TPs K ω H ((k, b, v) :: xs) ((k, d) :: es)
/-- a dict of either kind: what stands there, what it's told by -/
inductive DcR (K : Fg) (ω : Om) (H : Hp) (a : Addr) : HO → D × List (D × D) → Prop
  | int {kvs : List (Key × V)} {es : List (Int × D)} : DPs ω H kvs es → DcR K ω H a (.dK kvs) (.none, es.map fun p => (.int p.1, p.2))
  | tup {xs : List (NestedKey × Addr × V)} {es : List (NestedKey × D)} : TPs K ω H xs es → DcR K ω H a (DtO a xs) (.bool true, es.map fun p => (kyD p.1, p.2))
def dcD (q : D × List (D × D)) : D := .dict ((.bool true, q.1) :: q.2)
/-- a dict whose keys are tuples, told by a form of its own -/
def dtpD (es : List (NestedKey × D)) : D := dcD (.bool true, es.map fun p => (kyD p.1, p.2))
theorem dcD_int (es : List (Int × D)) : dctD es = dcD (.none, es.map fun p => (.int p.1, p.2)) := rfl
theorem SL.seq {K : Fg} {ω : Om} {H : Hp} {a : Addr} {xs : List V} (h : SL ω H a xs) : SqL K H a xs := .inl (.inl h.1)
theorem SU.seq {K : Fg} {ω : Om} {H : Hp} {a : Addr} {xs : List V} (h : SU K ω H a xs) : SqT K H a xs := h.elim (fun h => .inl (.inl h.1)) .inr
theorem SC.seq {K : Fg} {ω : Om} {H : Hp} {a : Addr} {xs : List V} (h : SC K ω H a xs) : SqL K H a xs := h.elim (fun h => .inl h.1) .inr

/-- an instance of an own class, its class's name, its fields; an exception -/
def insD (nm : Str) (fs : List (Str × D)) : D := .dict ((.bool false, .str nm) :: fs.map fun p => (.str p.1, p.2))
def excD (nm : Str) (fs : List (Str × D)) : D := .dict ((.bool false, .none) :: (.str nm, .none) :: fs.map fun p => (.str p.1, p.2))
/-- the class that a module's name stands for -/
def NmC (K : Fg) (nm : Str) (C : Addr) : Prop := PySem.W.nsIn K mainGlobals nm = some (some (.ref C))
theorem NmC.uniq {K : Fg} {nm : Str} {C C' : Addr} (h : NmC K nm C) (h' : NmC K nm C') : C = C' := by
  unfold NmC at h h'
  rw [h] at h'
  exact Value.ref.inj (Option.some.inj (Option.some.inj h'))
/-- an exception's object -/
def ExT (cls : Value) (d : Option Addr) (a : Addr) : HO := .ext fun h => ∃ (oe : Obj) (vs : Array Value), h.get? a = some oe ∧ L2.Zc cls d oe ∧ oe.data = .fields vs
/-- its fields: none, or one that is an int or a text -/
inductive XVal : V → D → Prop
  | int (i : Int) : XVal (.int i) (.int i)
  | str (x : Str) : XVal (.str x) (.str x)
def XFs (ω : Om) (H : Hp) (dd : Option Addr) (fs : List (Str × D)) : Prop := (fs = [] ∧ dd = none) ∨ ∃ (dx : Addr) (f : Str) (x : V) (d : D), dd = some dx ∧ fs = [(f, d)] ∧ H dx = some (.xd [(f, x)]) ∧ ω dx = .shr ∧ XVal x d
/-- a tuple with a list in it that may be written at, told by a form of its own -/
def otpD (ds : List D) : D := .dict ((.bool false, .bool true) :: ds.map fun d => (.none, d))
mutual
inductive Rp (K : Fg) (ω : Om) (H : Hp) : V → D → Prop
  | non : Rp K ω H .non .none
  | bl (b : Bool) : Rp K ω H (.bl b) (.bool b)
  | int (i : Int) : Rp K ω H (.int i) (.int i)
  | str (x : Str) : Rp K ω H (.str x) (.str x)
  | lst {a : Addr} {xs : List V} {ds : List D} : SL ω H a xs → RpAll K ω H xs ds → Rp K ω H (.ref a) (.list ds)
  | tup {a : Addr} {xs : List V} {ds : List D} : SU K ω H a xs → RpAll K ω H xs ds → Rp K ω H (.ref a) (.tuple ds)
  | scr {a : Addr} {ns : List Int} : SC K ω H a (ns.map V.int) → Rp K ω H (.ref a) (scrD ns)
  | dct {a : Addr} {u : HO} {q : D × List (D × D)} : H a = some u → ω a = .shr → DcR K ω H a u q → Rp K ω H (.ref a) (dcD q)
  | ins {a C dx : Addr} {gs : List (Str × V)} {nm : Str} {fs : List (Str × D)} : H a = some (.ins C dx gs) → ω a = .shr → H dx = some (.own a) → ω dx = .shr → NmC K nm C → RpFs K ω H gs fs → Rp K ω H (.ref a) (insD nm fs)
  | exc {a C : Addr} {dd : Option Addr} {nm : Str} {fs : List (Str × D)} : H a = some (ExT (.ref C) dd a) → ω a = .shr → NmC K nm C → XFs ω H dd fs → Rp K ω H (.ref a) (excD nm fs)
  | otp {a : Addr} {xs : List V} {ds : List D} : SU K ω H a xs → RpAll K ω H xs ds → Rp K ω H (.ref a) (otpD ds)
inductive RpAll (K : Fg) (ω : Om) (H : Hp) : List V → List D → Prop
  | nil : RpAll K ω H [] []
  | cons {v : V} {vs : List V} {d : D} {ds : List D} : Rp K ω H v d → RpAll K ω H vs ds → RpAll K ω H (v :: vs) (d :: ds)
inductive RpFs (K : Fg) (ω : Om) (H : Hp) : List (Str × V) → List (Str × D) → Prop
  | nil : RpFs K ω H [] []
  | cons {f : Str} {v : V} {gs : List (Str × V)} {d : D} {fs : List (Str × D)} : Rp K ω H v d → RpFs K ω H gs fs → RpFs K ω H ((f, v) :: gs) ((f, d) :: fs)
end
theorem fsD_inj : ∀ {fs fs' : List (Str × D)}, (fs.map fun p => (PyData.str p.1, p.2)) = (fs'.map fun p => (PyData.str p.1, p.2)) → fs = fs'
  | [], [], _ => rfl
  | [], _ :: _, e => by cases e
  | _ :: _, [], e => by cases e
  | (f, d) :: fs, (g, c) :: fs', e => by
    obtain ⟨h1, h2⟩ := List.cons.inj e
    have h3 := Prod.mk.inj h1
    rw [show f = g from PyData.str.inj h3.1, show d = c from h3.2, fsD_inj h2]
theorem insD_inj {nm nm' : Str} {fs fs' : List (Str × D)} (e : insD nm fs = insD nm' fs') : nm = nm' ∧ fs = fs' := by
  obtain ⟨h1, h2⟩ := List.cons.inj (PyData.dict.inj e)
  exact ⟨PyData.str.inj (Prod.mk.inj h1).2, fsD_inj h2⟩
/-- the head of a dict's data tells its kind -/
def headD : D → Option (D × D)
  | .dict kvs => kvs.head?
  | _ => none
theorem head_ins {nm : Str} {fs : List (Str × D)} : headD (insD nm fs) = some (.bool false, .str nm) := rfl
theorem head_exc {nm : Str} {fs : List (Str × D)} : headD (excD nm fs) = some (.bool false, .none) := rfl
theorem head_otp {ds : List D} : headD (otpD ds) = some (.bool false, .bool true) := rfl
theorem otpD_inj {ds ds' : List D} (e : otpD ds = otpD ds') : ds = ds' := by
  have h := (List.cons.inj (PyData.dict.inj e)).2
  have inj : ∀ (as bs : List D), (as.map fun d => (PyData.none, d)) = (bs.map fun d => (PyData.none, d)) → as = bs := by
    intro as
    induction as with
    | nil => intro bs q; cases bs with
      | nil => rfl
      | cons _ _ => cases q
    | cons a as ih => intro bs q; cases bs with
      | nil => cases q
      | cons b bs =>
        rw [List.map_cons, List.map_cons] at q
        rw [show a = b from (Prod.mk.inj (List.cons.inj q).1).2, ih bs (List.cons.inj q).2]
  exact inj _ _ h
theorem head_dct {q : D × List (D × D)} : headD (dcD q) = some (.bool true, q.1) := rfl
theorem head_scr {ns : List Int} {x : D × D} (h : headD (scrD ns) = some x) : x.1 = .none := by
  cases ns with
  | nil => cases h
  | cons n ns => cases h; rfl
theorem scr_not_ins {ns : List Int} {nm : Str} {fs : List (Str × D)} (e : scrD ns = insD nm fs) : False := by
  have := head_scr (ns := ns) (by rw [e, head_ins]); cases this
theorem dct_not_ins {q : D × List (D × D)} {nm : Str} {fs : List (Str × D)} (e : dcD q = insD nm fs) : False := by
  have := congrArg headD e
  rw [head_dct, head_ins] at this; cases this
theorem ins_not_exc {nm nm' : Str} {fs fs' : List (Str × D)} (e : insD nm fs = excD nm' fs') : False := by
  have := congrArg headD e
  rw [head_ins, head_exc] at this; cases this
theorem dct_not_otp {q : D × List (D × D)} {ds : List D} (e : dcD q = otpD ds) : False := by
  have := congrArg headD e
  rw [head_dct, head_otp] at this; cases this
theorem ins_not_otp {nm : Str} {fs : List (Str × D)} {ds : List D} (e : insD nm fs = otpD ds) : False := by
  have := congrArg headD e
  rw [head_ins, head_otp] at this; cases this
theorem exc_not_otp {nm : Str} {fs : List (Str × D)} {ds : List D} (e : excD nm fs = otpD ds) : False := by
  have := congrArg headD e
  rw [head_exc, head_otp] at this; cases this

/-- all that is tracked and no slot's own is kept (but the tables of code objects) -/
def Step (ω : Om) (H : Hp) (ω' : Om) (H' : Hp) : Prop := ∀ a o, H a = some o → ω a ≠ .tab → (∃ i p, ω a = .own i p) ∨ (H' a = some o ∧ ω' a = ω a)
/-- all that is tracked is kept -/
def Grow (ω : Om) (H : Hp) (ω' : Om) (H' : Hp) : Prop := ∀ a o, H a = some o → H' a = some o ∧ ω' a = ω a
/-- .. as far as it is read -/
def Sh (ω : Om) (H : Hp) (ω' : Om) (H' : Hp) : Prop := ∀ a o, H a = some o → ω a = .shr → H' a = some o ∧ ω' a = .shr
def Free (ω : Om) (T : Nat) : Prop := ∀ a t p, ω a = .tmp t p → t < T

theorem Step.refl {ω : Om} {H : Hp} : Step ω H ω H := fun _ _ h _ => .inr ⟨h, rfl⟩
theorem Grow.refl {ω : Om} {H : Hp} : Grow ω H ω H := fun _ _ h => ⟨h, rfl⟩
theorem Grow.step {ω ω' : Om} {H H' : Hp} (g : Grow ω H ω' H') : Step ω H ω' H' := fun a o h _ => .inr (g a o h)
theorem Step.sh {ω ω' : Om} {H H' : Hp} (g : Step ω H ω' H') : Sh ω H ω' H' := fun a o h e => by
  rcases g a o h (by rw [e]; exact nofun) with ⟨i, p, q⟩ | ⟨q, z⟩
  · rw [e] at q; cases q
  · exact ⟨q, z.trans e⟩
theorem Step.trans {ω ω1 ω2 : Om} {H H1 H2 : Hp} (a : Step ω H ω1 H1) (b : Step ω1 H1 ω2 H2) : Step ω H ω2 H2 := fun c o h n => by
  rcases a c o h n with q | ⟨q, z⟩
  · exact .inl q
  · rcases b c o q (by rw [z]; exact n) with ⟨i, p, r⟩ | ⟨r, y⟩
    · exact .inl ⟨i, p, z ▸ r⟩
    · exact .inr ⟨r, y.trans z⟩
theorem Grow.trans {ω ω1 ω2 : Om} {H H1 H2 : Hp} (a : Grow ω H ω1 H1) (b : Grow ω1 H1 ω2 H2) : Grow ω H ω2 H2 := fun c o h => by
  obtain ⟨q, z⟩ := a c o h
  obtain ⟨r, y⟩ := b c o q
  exact ⟨r, y.trans z⟩

section
variable {K : Fg} {ω ω' : Om} {H H' : Hp}
theorem SL.sh {a : Addr} {xs : List V} (h : SL ω H a xs) (g : Sh ω H ω' H') : SL ω' H' a xs := g a _ h.1 h.2
theorem SU.sh {a : Addr} {xs : List V} (h : SU K ω H a xs) (g : Sh ω H ω' H') : SU K ω' H' a xs := by
  rcases h with ⟨h, e⟩ | h
  · exact .inl (g a _ h e)
  · exact .inr h
theorem SC.sh {a : Addr} {xs : List V} (h : SC K ω H a xs) (g : Sh ω H ω' H') : SC K ω' H' a xs := by
  rcases h with ⟨h | ⟨o, h⟩, e⟩ | h
  · obtain ⟨q, z⟩ := g a _ h e
    exact .inl ⟨.inl q, z⟩
  · obtain ⟨q, z⟩ := g a _ h e
    exact .inl ⟨.inr ⟨o, q⟩, z⟩
  · exact .inr h
theorem DVal.sh (g : Sh ω H ω' H') {v : V} {d : D} (h : DVal ω H v d) : DVal ω' H' v d := by
  cases h with
  | bl b => exact .bl b
  | int i => exact .int i
  | il h => exact .il (h.sh g)
theorem DPs.sh (g : Sh ω H ω' H') : ∀ {kvs : List (Key × V)} {es : List (Int × D)}, DPs ω H kvs es → DPs ω' H' kvs es
  | _, _, .nil => .nil
  | _, _, .cons h t => .cons (h.sh g) (DPs.sh g t)
mutual
theorem KyR.sh (g : Sh ω H ω' H') : ∀ {v : V} {k : NestedKey}, KyR K ω H v k → KyR K ω' H' v k
  | _, _, .non => .non
  | _, _, .int i => .int i
  | _, _, .tup h t => .tup (h.sh g) (KyAll.sh g t)
theorem KyAll.sh (g : Sh ω H ω' H') : ∀ {vs : List V} {ks : List NestedKey}, KyAll K ω H vs ks → KyAll K ω' H' vs ks
  | _, _, .nil => .nil
  | _, _, .cons h t => .cons (KyR.sh g h) (KyAll.sh g t)
end
theorem TPs.sh (g : Sh ω H ω' H') : ∀ {xs : List (NestedKey × Addr × V)} {es : List (NestedKey × D)}, TPs K ω H xs es → TPs K ω' H' xs es
  | _, _, .nil => .nil
  | _, _, .cons h v t => .cons (h.sh g) v (TPs.sh g t)
theorem DcR.sh (g : Sh ω H ω' H') {a : Addr} {u : HO} {q : D × List (D × D)} (h : DcR K ω H a u q) : DcR K ω' H' a u q := by
  cases h with
  | int h => exact .int (h.sh g)
  | tup h => exact .tup (h.sh g)
theorem XFs.sh (g : Sh ω H ω' H') {dd : Option Addr} {fs : List (Str × D)} (h : XFs ω H dd fs) : XFs ω' H' dd fs := by
  rcases h with h | ⟨dx, f, x, d, e1, e2, h1, h2, h3⟩
  · exact .inl h
  · obtain ⟨q1, q2⟩ := g _ _ h1 h2
    exact .inr ⟨dx, f, x, d, e1, e2, q1, q2, h3⟩
mutual
theorem Rp.shI (g : Sh ω H ω' H') : ∀ {v : V} {d : D}, Rp K ω H v d → Rp K ω' H' v d
  | _, _, .non => .non
  | _, _, .bl b => .bl b
  | _, _, .int i => .int i
  | _, _, .str x => .str x
  | _, _, .lst hs ha => .lst (hs.sh g) (RpAll.shI g ha)
  | _, _, .tup hs ha => .tup (hs.sh g) (RpAll.shI g ha)
  | _, _, .scr hs => .scr (hs.sh g)
  | _, _, .dct h1 h2 h3 => .dct (g _ _ h1 h2).1 (g _ _ h1 h2).2 (h3.sh g)
  | _, _, .ins h1 h2 h3 h4 h5 h6 => .ins (g _ _ h1 h2).1 (g _ _ h1 h2).2 (g _ _ h3 h4).1 (g _ _ h3 h4).2 h5 (RpFs.shI g h6)
  | _, _, .exc h1 h2 h3 h4 => .exc (g _ _ h1 h2).1 (g _ _ h1 h2).2 h3 (h4.sh g)
  | _, _, .otp hs ha => .otp (hs.sh g) (RpAll.shI g ha)
theorem RpAll.shI (g : Sh ω H ω' H') : ∀ {vs : List V} {ds : List D}, RpAll K ω H vs ds → RpAll K ω' H' vs ds
  | _, _, .nil => .nil
  | _, _, .cons h t => .cons (Rp.shI g h) (RpAll.shI g t)
theorem RpFs.shI (g : Sh ω H ω' H') : ∀ {gs : List (Str × V)} {fs : List (Str × D)}, RpFs K ω H gs fs → RpFs K ω' H' gs fs
  | _, _, .nil => .nil
  | _, _, .cons h t => .cons (Rp.shI g h) (RpFs.shI g t)
end
theorem Rp.sh (g : Sh ω H ω' H') (d : D) (v : V) (h : Rp K ω H v d) : Rp K ω' H' v d := Rp.shI g h
theorem RpAll.sh (g : Sh ω H ω' H') (ds : List D) (vs : List V) (h : RpAll K ω H vs ds) : RpAll K ω' H' vs ds := RpAll.shI g h
theorem RpFs.get {f : Str} {d : D} : ∀ {gs : List (Str × V)} {fs : List (Str × D)}, RpFs K ω H gs fs → fs.lookup f = some d → ∃ v, gs.lookup f = some v ∧ Rp K ω H v d
  | _, _, .nil, e => by cases e
  | (g, v) :: gs, (_, c) :: fs, .cons h t, e => by
    rw [List.lookup_cons] at e ⊢
    cases hb : (f == g) with
    | true => rw [hb] at e; cases e; exact ⟨v, rfl, h⟩
    | false => rw [hb] at e; exact RpFs.get t e
theorem RpFs.keys : ∀ {gs : List (Str × V)} {fs : List (Str × D)}, RpFs K ω H gs fs → gs.map Prod.fst = fs.map Prod.fst
  | _, _, .nil => rfl
  | _, _, .cons h t => by rw [List.map_cons, List.map_cons, RpFs.keys t]
mutual
theorem Rp.dp : ∀ (d : D) (v : V), d.canLay0 = true → Rp K ω H v d → Dp K H v d
  | .none, _, _, h => by cases h; exact .non
  | .bool b, _, _, h => by cases h; exact .bl b
  | .int i, _, _, h => by cases h; exact .int i
  | .str x, _, _, h => by cases h; exact .str x
  | .list ds, _, z, h => by
    cases h with
    | lst hs ha => exact .lst hs.seq (RpAll.dp ds _ (by simpa [PyData.canLay0] using z) ha)
  | .tuple ds, _, z, h => by
    cases h with
    | tup hs ha => exact .tup hs.seq (RpAll.dp ds _ (by simpa [PyData.canLay0] using z) ha)
  | .dict _, _, z, h => by simp [PyData.canLay0] at z
theorem RpAll.dp : ∀ (ds : List D) (vs : List V), PyData.canLayAll0 ds = true → RpAll K ω H vs ds → DpAll K H vs ds
  | [], _, _, h => by cases h; exact .nil
  | d :: ds, _, z, h => by
    have z' : d.canLay0 = true ∧ PyData.canLayAll0 ds = true := by simpa [PyData.canLayAll0] using z
    cases h with
    | cons h1 h2 => exact .cons (Rp.dp d _ z'.1 h1) (RpAll.dp ds _ z'.2 h2)
end
theorem RpAll.length : ∀ {vs : List V} {ds : List D}, RpAll K ω H vs ds → vs.length = ds.length
  | [], [], _ => rfl
  | [], _ :: _, h => nomatch h
  | _ :: _, [], h => nomatch h
  | _ :: vs, _ :: ds, .cons _ h => by rw [List.length_cons, List.length_cons, RpAll.length h]
theorem RpAll.get : ∀ {vs : List V} {ds : List D} {i : Nat} {v : V} {d : D}, RpAll K ω H vs ds → vs[i]? = some v → ds[i]? = some d → Rp K ω H v d
  | _, _, 0, _, _, .cons h _, e1, e2 => by
    have e1' := Option.some.inj e1
    have e2' := Option.some.inj e2
    subst e1'; subst e2'; exact h
  | _, _, i + 1, _, _, .cons _ h, e1, e2 => RpAll.get (i := i) h (by simpa using e1) (by simpa using e2)
  | _, _, 0, _, _, .nil, e1, _ => by simp at e1
  | _, _, _ + 1, _, _, .nil, e1, _ => by simp at e1
theorem RpAll.of_get : ∀ {vs : List V} {ds : List D}, vs.length = ds.length → (∀ (i : Nat) (v : V) (d : D), vs[i]? = some v → ds[i]? = some d → Rp K ω H v d) → RpAll K ω H vs ds
  | [], [], _, _ => .nil
  | [], _ :: _, e, _ => by cases e
  | _ :: _, [], e, _ => by cases e
  | v :: vs, d :: ds, e, h => .cons (h 0 v d rfl rfl) (RpAll.of_get (Nat.succ.inj e) fun i w c e1 e2 => h (i + 1) w c (by simpa using e1) (by simpa using e2))
theorem RpAll.at_ {vs : List V} {ds : List D} {i : Nat} {d : D} (h : RpAll K ω H vs ds) (e : ds[i]? = some d) : ∃ v, vs[i]? = some v ∧ Rp K ω H v d := by
  have hl := h.length
  obtain ⟨q, _⟩ := List.getElem?_eq_some_iff.mp e
  have q' : i < vs.length := by omega
  exact ⟨vs[i], List.getElem?_eq_getElem q', h.get (List.getElem?_eq_getElem q') e⟩
theorem RpAll.append : ∀ {vs ws : List V} {ds es : List D}, RpAll K ω H vs ds → RpAll K ω H ws es → RpAll K ω H (vs ++ ws) (ds ++ es)
  | _, _, _, _, .nil, s => s
  | _, _, _, _, .cons h t, s => .cons h (RpAll.append t s)
theorem RpAll.take : ∀ {vs : List V} {ds : List D} (n : Nat), RpAll K ω H vs ds → RpAll K ω H (vs.take n) (ds.take n)
  | _, _, 0, _ => .nil
  | _, _, _ + 1, .nil => .nil
  | _, _, n + 1, .cons h t => .cons h (RpAll.take n t)
theorem RpAll.drop : ∀ {vs : List V} {ds : List D} (n : Nat), RpAll K ω H vs ds → RpAll K ω H (vs.drop n) (ds.drop n)
  | _, _, 0, h => h
  | _, _, _ + 1, .nil => .nil
  | _, _, n + 1, .cons _ t => RpAll.drop n t
theorem RpAll.reverse : ∀ {vs : List V} {ds : List D}, RpAll K ω H vs ds → RpAll K ω H vs.reverse ds.reverse
  | _, _, .nil => .nil
  | _, _, .cons h t => by
    rw [List.reverse_cons, List.reverse_cons]
    exact (RpAll.reverse t).append (.cons h .nil)
theorem RpAll.eraseIdx : ∀ {vs : List V} {ds : List D} (n : Nat), RpAll K ω H vs ds → RpAll K ω H (vs.eraseIdx n) (ds.eraseIdx n)
  | _, _, _, .nil => by rw [List.eraseIdx_nil, List.eraseIdx_nil]; exact .nil
  | _, _, 0, .cons _ t => t
  | _, _, n + 1, .cons h t => .cons h (RpAll.eraseIdx n t)
theorem RpAll.set {w : V} {c : D} (q : Rp K ω H w c) : ∀ {vs : List V} {ds : List D} (n : Nat), RpAll K ω H vs ds → RpAll K ω H (vs.set n w) (ds.set n c)
  | _, _, _, .nil => .nil
  | _, _, 0, .cons _ t => .cons q t
  | _, _, n + 1, .cons h t => .cons h (RpAll.set q n t)
theorem RpAll.ints : ∀ (ns : List Int), RpAll K ω H (ns.map V.int) (ns.map PyData.int)
  | [] => .nil
  | n :: ns => .cons (.int n) (RpAll.ints ns)
theorem RpAll.of_ints : ∀ {vs : List V} (ns : List Int), RpAll K ω H vs (ns.map PyData.int) → vs = ns.map V.int
  | _, [], h => by cases h; rfl
  | _, n :: ns, h => by
    cases h with
    | cons h1 h2 => cases h1; rw [RpAll.of_ints ns h2]; rfl
theorem RpAll.of_bools : ∀ {vs : List V} (ns : List Bool), RpAll K ω H vs (ns.map PyData.bool) → vs = ns.map V.bl
  | _, [], h => by cases h; rfl
  | _, n :: ns, h => by
    cases h with
    | cons h1 h2 => cases h1; rw [RpAll.of_bools ns h2]; rfl
end

/-! ### scalars, values that nobody may write at -/
mutual
/-- no list in it -/
def imm : D → Bool
  | .none => true | .bool _ => true | .int _ => true | .str _ => true
  | .list _ => false
  | .tuple ds => immAll ds
  | .dict _ => false
def immAll : List D → Bool
  | [] => true
  | d :: ds => imm d && immAll ds
end
/-- a tree of k levels of lists that one owner may write at; the rest is shared -/
def OwR (K : Fg) (ω : Om) (H : Hp) : Nat → (List Nat → Ow) → List Nat → V → D → Prop
  | 0, _, _, v, d => Rp K ω H v d
  | k + 1, o, p, v, d => (imm d = true ∧ Rp K ω H v d) ∨
      (∃ (a : Addr) (vs : List V) (ds : List D), v = .ref a ∧ d = .list ds ∧ H a = some (.lst vs) ∧ ω a = o p ∧ vs.length = ds.length ∧
        ∀ (j : Nat) (v' : V) (d' : D), vs[j]? = some v' → ds[j]? = some d' → OwR K ω H k o (p ++ [j]) v' d') ∨
      (∃ (a : Addr) (u : HO) (q : D × List (D × D)), v = .ref a ∧ d = dcD q ∧ H a = some u ∧ ω a = o p ∧ DcR K ω H a u q) ∨
      (∃ (a C dx : Addr) (gs : List (Str × V)) (nm : Str) (fs : List (Str × D)), v = .ref a ∧ d = insD nm fs ∧ H a = some (.ins C dx gs) ∧ ω a = o p ∧ H dx = some (.own a) ∧ ω dx = o p ∧ NmC K nm C ∧ gs.map Prod.fst = fs.map Prod.fst ∧
        ∀ (j : Nat) (v' : V) (d' : D), (gs.map Prod.snd)[j]? = some v' → (fs.map Prod.snd)[j]? = some d' → OwR K ω H k o (p ++ [j]) v' d') ∨
      ∃ (a : Addr) (vs : List V) (ds : List D), v = .ref a ∧ d = otpD ds ∧ SU K ω H a vs ∧ vs.length = ds.length ∧
        ∀ (j : Nat) (v' : V) (d' : D), vs[j]? = some v' → ds[j]? = some d' → OwR K ω H k o (p ++ [j]) v' d'
section
variable {K : Fg} {ω ω' : Om} {H H' : Hp}
/-- kept, under another map of owners -/
theorem OwR.go {o o' : List Nat → Ow} (g : Sh ω H ω' H') (h2 : ∀ a u p, H a = some u → ω a = o p → H' a = some u ∧ ω' a = o' p) : ∀ (k : Nat) (p : List Nat) (v : V) (d : D), OwR K ω H k o p v d → OwR K ω' H' k o' p v d
  | 0, _, v, d, h => Rp.sh g d v h
  | k + 1, p, v, d, h => by
    rcases h with ⟨i, h⟩ | ⟨a, vs, ds, e1, e2, h1, e3, el, hc⟩ | ⟨a, kvs, es, e1, e2, h1, e3, hp⟩ | ⟨a, C, dx, gs, nm, fs, e1, e2, h1, e3, h4, e4, hn, hk, hc⟩ | ⟨a, vs, ds, e1, e2, h1, el, hc⟩
    · exact .inl ⟨i, Rp.sh g d v h⟩
    · obtain ⟨q1, q2⟩ := h2 a _ p h1 e3
      exact .inr (.inl ⟨a, vs, ds, e1, e2, q1, q2, el, fun j v' d' z1 z2 => OwR.go g h2 k _ v' d' (hc j v' d' z1 z2)⟩)
    · obtain ⟨q1, q2⟩ := h2 a _ p h1 e3
      exact .inr (.inr (.inl ⟨a, kvs, es, e1, e2, q1, q2, hp.sh g⟩))
    · obtain ⟨q1, q2⟩ := h2 a _ p h1 e3
      obtain ⟨q3, q4⟩ := h2 dx _ p h4 e4
      exact .inr (.inr (.inr (.inl ⟨a, C, dx, gs, nm, fs, e1, e2, q1, q2, q3, q4, hn, hk, fun j v' d' z1 z2 => OwR.go g h2 k _ v' d' (hc j v' d' z1 z2)⟩)))
    · exact .inr (.inr (.inr (.inr ⟨a, vs, ds, e1, e2, h1.sh g, el, fun j v' d' z1 z2 => OwR.go g h2 k _ v' d' (hc j v' d' z1 z2)⟩)))
/-- given up: it is shared from then on -/
theorem RpFs.of_get : ∀ {gs : List (Str × V)} {fs : List (Str × D)}, gs.map Prod.fst = fs.map Prod.fst → (∀ (i : Nat) (v : V) (d : D), (gs.map Prod.snd)[i]? = some v → (fs.map Prod.snd)[i]? = some d → Rp K ω H v d) → RpFs K ω H gs fs
  | [], [], _, _ => .nil
  | [], _ :: _, e, _ => by cases e
  | _ :: _, [], e, _ => by cases e
  | (f, v) :: gs, (g, d) :: fs, e, h => by
    obtain ⟨e1, e2⟩ := List.cons.inj e
    have e1' : f = g := e1
    subst e1'
    exact .cons (h 0 v d rfl rfl) (RpFs.of_get e2 fun i w c z1 z2 => h (i + 1) w c z1 z2)
theorem OwR.fz {o : List Nat → Ow} (g : Sh ω H ω' H') (h2 : ∀ a u p, H a = some u → ω a = o p → H' a = some u ∧ ω' a = .shr) : ∀ (k : Nat) (p : List Nat) (v : V) (d : D), OwR K ω H k o p v d → Rp K ω' H' v d
  | 0, _, v, d, h => Rp.sh g d v h
  | k + 1, p, v, d, h => by
    rcases h with ⟨i, h⟩ | ⟨a, vs, ds, e1, e2, h1, e3, el, hc⟩ | ⟨a, kvs, es, e1, e2, h1, e3, hp⟩ | ⟨a, C, dx, gs, nm, fs, e1, e2, h1, e3, h4, e4, hn, hk, hc⟩ | ⟨a, vs, ds, e1, e2, h1, el, hc⟩
    · exact Rp.sh g d v h
    · obtain ⟨q1, q2⟩ := h2 a _ p h1 e3
      subst e1; subst e2
      exact .lst ⟨q1, q2⟩ (RpAll.of_get el fun j v' d' z1 z2 => OwR.fz g h2 k _ v' d' (hc j v' d' z1 z2))
    · obtain ⟨q1, q2⟩ := h2 a _ p h1 e3
      subst e1; subst e2
      exact .dct q1 q2 (hp.sh g)
    · obtain ⟨q1, q2⟩ := h2 a _ p h1 e3
      obtain ⟨q3, q4⟩ := h2 dx _ p h4 e4
      subst e1; subst e2
      exact .ins q1 q2 q3 q4 hn (RpFs.of_get hk fun j v' d' z1 z2 => OwR.fz g h2 k _ v' d' (hc j v' d' z1 z2))
    · subst e1; subst e2
      exact .otp (h1.sh g) (RpAll.of_get el fun j v' d' z1 z2 => OwR.fz g h2 k _ v' d' (hc j v' d' z1 z2))
theorem DpAll.of_get : ∀ {vs : List V} {ds : List D}, vs.length = ds.length → (∀ (i : Nat) (v : V) (d : D), vs[i]? = some v → ds[i]? = some d → Dp K H v d) → DpAll K H vs ds
  | [], [], _, _ => .nil
  | [], _ :: _, e, _ => by cases e
  | _ :: _, [], e, _ => by cases e
  | v :: vs, d :: ds, e, h => .cons (h 0 v d rfl rfl) (DpAll.of_get (Nat.succ.inj e) fun i w c e1 e2 => h (i + 1) w c (by simpa using e1) (by simpa using e2))
theorem canLay_all : ∀ {ds : List D} {i : Nat} {d : D}, PyData.canLayAll0 ds = true → ds[i]? = some d → d.canLay0 = true
  | [], _, _, _, e => by simp at e
  | c :: ds, 0, d, h, e => by
    have h' : c.canLay0 = true ∧ PyData.canLayAll0 ds = true := by simpa [PyData.canLayAll0] using h
    have e' := Option.some.inj e
    subst e'; exact h'.1
  | c :: ds, i + 1, d, h, e => by
    have h' : c.canLay0 = true ∧ PyData.canLayAll0 ds = true := by simpa [PyData.canLayAll0] using h
    exact canLay_all (i := i) h'.2 (by simpa using e)
theorem OwR.dp {o : List Nat → Ow} : ∀ (k : Nat) (p : List Nat) (v : V) (d : D), d.canLay0 = true → OwR K ω H k o p v d → Dp K H v d
  | 0, _, v, d, z, h => Rp.dp d v z h
  | k + 1, p, v, d, z, h => by
    rcases h with ⟨i, h⟩ | ⟨a, vs, ds, e1, e2, h1, e3, el, hc⟩ | ⟨a, kvs, es, e1, e2, h1, e3, hp⟩ | ⟨_, _, _, _, _, _, _, e2, _⟩ | ⟨_, _, _, _, e2, _⟩
    · exact Rp.dp d v z h
    · subst e1; subst e2
      exact .lst (.inl (.inl h1)) (DpAll.of_get el fun j v' d' z1 z2 => OwR.dp k _ v' d' (canLay_all (by simpa [PyData.canLay0] using z) z2) (hc j v' d' z1 z2))
    · subst e2; simp [dcD, PyData.canLay0] at z
    · subst e2; simp [insD, PyData.canLay0] at z
    · subst e2; simp [otpD, PyData.canLay0] at z
end

/-! ### what the slots hold -/
structure Cell where
  k : Nat
  d : D
abbrev Env := List (Option Cell)
abbrev sh (d : D) : Cell := ⟨0, d⟩
abbrev ow (d : D) : Cell := ⟨1, d⟩
/-- a value in hand: a new one of so many levels (0: shared), or the one of the slot i, which stays the slot's own -/
inductive Res where
  | v (k : Nat) (d : D)
  | b (i k : Nat) (d : D)
def Res.d : Res → D
  | .v _ d => d
  | .b _ _ d => d
/-- the tables of code objects that are watched: those of the defs that hand a lambda to a call by a keyword -/
def isLam : Keyword → Bool
  | ⟨_, .Lambda _ _ _ _, _⟩ => true
  | _ => false
def lamIn : Stmt → Bool
  | .Return (some (.Call _ _ kws _)) _ => kws.any isLam
  | .Assign _ (.Call _ _ kws _) _ => kws.any isLam
  | _ => false
def tabAt (K : Fg) (a : Addr) : List (Addr × Str) := match K.lookup a with
  | some ⟨_, _, .func fd, _⟩ => (match fd.body, fd.code with
    | .stmts b, .ref c => if b.any lamIn then (match K.lookup c with
      | some ⟨_, _, .fields vs, _⟩ => (match vs.toList.drop 11 with
        | .ref P :: _ => [(P, fd.qualname ++ ".<locals>." ++ "<lambda>")]
        | _ => [])
      | _ => []) else []
    | _, _ => [])
  | _ => []
def tabsOf (K : Fg) : List (Addr × Str) := K.flatMap fun p => tabAt K p.1
def TabW (ω : Om) (H : Hp) (P : Addr) (q : Str) : Prop := ω P = .tab ∧ ∃ ps : Array Value, H P = some (.tbl ps) ∧ TriplesOk ps.toList ∧ ∀ (pos : Pos) (cv : Value), codeAmong pos ps.toList = some cv → ∃ c, cv = .ref c ∧ H c = some (LamX.CodeO c q) ∧ ω c = .tab
def Tabs (K : Fg) (ω : Om) (H : Hp) : Prop := ∀ p ∈ tabsOf K, TabW ω H p.1 p.2
theorem Tabs.go {K : Fg} {ω ω' : Om} {H H' : Hp} (h : Tabs K ω H) (t : ∀ a o, H a = some o → ω a = .tab → H' a = some o ∧ ω' a = .tab) : Tabs K ω' H' := fun p hp => by
  obtain ⟨e1, ps, e2, e3, e4⟩ := h p hp
  obtain ⟨q1, q2⟩ := t _ _ e2 e1
  refine ⟨q2, ps, q1, e3, fun pos cv e => ?_⟩
  obtain ⟨c, z1, z2, z3⟩ := e4 pos cv e
  obtain ⟨y1, y2⟩ := t _ _ z2 z3
  exact ⟨c, z1, y1, y2⟩
theorem Tabs.grow {K : Fg} {ω ω' : Om} {H H' : Hp} (h : Tabs K ω H) (g : Grow ω H ω' H') : Tabs K ω' H' := h.go fun a o e1 e2 => ⟨(g a o e1).1, (g a o e1).2.trans e2⟩
structure Rel (K : Fg) (ω : Om) (env : Env) (σ : Sg) (H : Hp) : Prop where
  tab : Tabs K ω H
  len : σ.length = env.length
  cell : ∀ i c, env[i]? = some (some c) → ∃ v, σ[i]? = some (some v) ∧ OwR K ω H c.k (Ow.own i) [] v c.d
def ResR (K : Fg) (ω : Om) (H : Hp) (σ : Sg) (env : Env) (T : Nat) (v : V) : Res → Prop
  | .v k d => OwR K ω H k (Ow.tmp T) [] v d
  | .b i k d => env[i]? = some (some ⟨k, d⟩) ∧ σ[i]? = some (some v)
/-- a value that may be looked at: shared, or some owner's -/
def Vw (K : Fg) (ω : Om) (H : Hp) (v : V) (r : Res) : Prop := match r with
  | .v _ d => Rp K ω H v d
  | .b i k d => OwR K ω H k (Ow.own i) [] v d
theorem Vw.dp {K : Fg} {ω : Om} {H : Hp} {v : V} {r : Res} (h : Vw K ω H v r) (z : r.d.canLay0 = true) : Dp K H v r.d := by
  cases r with
  | v k d => exact Rp.dp d v z h
  | b i k d => exact OwR.dp k _ v d z h
section
variable {K : Fg} {ω ω' : Om} {H H' : Hp} {env : Env} {σ : Sg}
theorem Rel.grow (R : Rel K ω env σ H) (g : Grow ω H ω' H') : Rel K ω' env σ H' := by
  refine ⟨R.tab.grow g, R.len, fun i c e => ?_⟩
  obtain ⟨v, q, h⟩ := R.cell i c e
  refine ⟨v, q, OwR.go g.step.sh (fun a u p z1 z2 => ?_) _ _ _ _ h⟩
  obtain ⟨y1, y2⟩ := g a u z1
  exact ⟨y1, y2.trans z2⟩
theorem ResR.step {T T' : Nat} {v : V} {k : Nat} {d : D} (h : ResR K ω H σ env T v (.v k d)) (g : Step ω H ω' H') : ResR K ω' H' σ env T v (.v k d) := by
  refine OwR.go g.sh (fun a u p z1 z2 => ?_) _ _ _ _ h
  rcases g a u z1 (by rw [z2]; exact nofun) with ⟨i, q, y⟩ | ⟨y1, y2⟩
  · rw [z2] at y; cases y
  · exact ⟨y1, y2.trans z2⟩
end
/-! ### owners by another name -/
def ren (ρ : Ow → Ow) (ω : Om) : Om := fun a => ρ (ω a)
theorem Tabs.ren {K : Fg} {ω : Om} {H : Hp} {ρ : Ow → Ow} (h : Tabs K ω H) (e2 : ρ .tab = .tab) : Tabs K (Pv.ren ρ ω) H :=
  h.go fun a o h e => ⟨h, by show ρ (ω a) = _; rw [e]; exact e2⟩
/-- the values in hand from T on are given up -/
def gcO (T : Nat) : Ow → Ow
  | .tmp t p => if T ≤ t then .shr else .tmp t p
  | o => o
abbrev gc (T : Nat) (ω : Om) : Om := ren (gcO T) ω
theorem gc_free {ω : Om} {T : Nat} : Free (gc T ω) T := fun a t p e => by
  unfold gc ren at e
  cases q : ω a with
  | tmp t' p' =>
    rw [q] at e
    have e' : (if T ≤ t' then Ow.shr else .tmp t' p') = .tmp t p := e
    by_cases hT : T ≤ t'
    · rw [if_pos hT] at e'; cases e'
    · rw [if_neg hT] at e'; cases e'; omega
  | _ => rw [q] at e; cases e
section
variable {K : Fg} {ω ω' ω0 : Om} {H H' H0 : Hp} {env : Env} {σ : Sg} {T : Nat} {v : V}
theorem gc_sh : Sh ω H (gc T ω) H := fun a o h e => ⟨h, by show gcO T (ω a) = _; rw [e]; rfl⟩
theorem Rel.gc (R : Rel K ω env σ H) (T : Nat) : Rel K (gc T ω) env σ H := by
  refine ⟨R.tab.ren rfl, R.len, fun i c e => ?_⟩
  obtain ⟨v, q, h⟩ := R.cell i c e
  exact ⟨v, q, OwR.go gc_sh (fun a u p z1 z2 => ⟨z1, by show gcO T (ω a) = _; rw [z2]; rfl⟩) _ _ _ _ h⟩
theorem Step.gc (g : Step ω0 H0 ω H) (f : Free ω0 T) : Step ω0 H0 (gc T ω) H := fun a o h n => by
  rcases g a o h n with q | ⟨q, z⟩
  · exact .inl q
  · refine .inr ⟨q, ?_⟩
    show gcO T (ω a) = _
    rw [z]
    cases y : ω0 a with
    | tmp t p =>
      have := f a t p y
      show (if T ≤ t then Ow.shr else .tmp t p) = _
      rw [if_neg (by omega)]
    | _ => rfl
theorem ResR.gc {T' : Nat} {r : Res} (h : ResR K ω H σ env T' v r) (R : Rel K ω env σ H) (hT : T ≤ T') : Vw K (gc T ω) H v r := by
  cases r with
  | v k d =>
    refine OwR.fz gc_sh (fun a u p z1 z2 => ⟨z1, ?_⟩) _ _ _ _ h
    show gcO T (ω a) = _
    rw [z2]
    show (if T ≤ T' then Ow.shr else _) = _
    rw [if_pos hT]
  | b i k d =>
    obtain ⟨e1, e2⟩ := h
    obtain ⟨v', q, h⟩ := R.cell i _ e1
    rw [e2] at q
    have q' := Option.some.inj (Option.some.inj q)
    subst q'
    exact OwR.go gc_sh (fun a u p z1 z2 => ⟨z1, by show gcO T (ω a) = _; rw [z2]; rfl⟩) _ _ _ _ h
end
end Pv

/-! Pv2: readings over data: expressions, tests, arguments; names, constants, operators. -/
namespace Pv
open PySem PySem.Spec PyProof.Rows L2

abbrev FE := Env → (Res → Env → Prop) → Prop
abbrev FT := Env → (Bool → Env → Prop) → Prop
abbrev FA := Env → (List Res → Env → Prop) → Prop

def SndE (K : Fg) (t : TE) (f : FE) : Prop := ∀ (ω : Om) (T : Nat) (env : Env) (σ : Sg) (H : Hp) (R : Res → Env → Prop) (Q : VK), Rel K ω env σ H → Free ω T → f env R →
  (∀ v H' ω' env' r, Rel K ω' env' σ H' → Step ω H ω' H' → Free ω' (T + 1) → ResR K ω' H' σ env' T v r → R r env' → Q v H') → t σ H Q
def SndT (K : Fg) (t : TT) (f : FT) : Prop := ∀ (ω : Om) (T : Nat) (env : Env) (σ : Sg) (H : Hp) (R : Bool → Env → Prop) (Q : Bool → Hp → Prop), Rel K ω env σ H → Free ω T → f env R →
  (∀ b H' ω' env', Rel K ω' env' σ H' → Step ω H ω' H' → Free ω' T → R b env' → Q b H') → t σ H Q
def ResAll (K : Fg) (ω : Om) (H : Hp) (σ : Sg) (env : Env) : Nat → List V → List Res → Prop
  | _, [], [] => True
  | T, v :: vs, r :: rs => ResR K ω H σ env T v r ∧ ResAll K ω H σ env (T + 1) vs rs
  | _, _, _ => False
def SndA (K : Fg) (t : TA) (f : FA) : Prop := ∀ (ω : Om) (T : Nat) (env : Env) (σ : Sg) (H : Hp) (R : List Res → Env → Prop) (Q : List V → Hp → Prop), Rel K ω env σ H → Free ω T → f env R →
  (∀ vs H' ω' env' rs, Rel K ω' env' σ H' → Step ω H ω' H' → Free ω' (T + rs.length) → ResAll K ω' H' σ env' T vs rs → R rs env' → Q vs H') → t σ H Q
structure SE (X : Cx) (e : Expr) (f : FE) : Prop where
  ex : ∃ t : TE, PE X e t ∧ SndE X.K t f
structure STs (X : Cx) (e : Expr) (f : FT) : Prop where
  ex : ∃ t : TT, PT X e t ∧ SndT X.K t f
structure STw (X : Cx) (e : Expr) (f : FT) : Prop where
  ex : ∃ t : TT, PW X e t ∧ SndT X.K t f
structure SA (X : Cx) (es : List Expr) (f : FA) : Prop where
  ex : ∃ t : TA, PA X es t ∧ SndA X.K t f

/-- a value of a slot's own is still as it was seen -/
def okb (env : Env) : Res → Prop
  | .v _ _ => True
  | .b i k d => env[i]? = some (some ⟨k, d⟩)
@[simp] theorem okb_v {env : Env} {k : Nat} {d : D} : okb env (.v k d) = True := rfl
@[simp] theorem okb_b {env : Env} {i k : Nat} {d : D} : okb env (.b i k d) = (env[i]? = some (some ⟨k, d⟩)) := rfl
@[simp] theorem Res.d_v {k : Nat} {d : D} : (Res.v k d).d = d := rfl
@[simp] theorem Res.d_b {i k : Nat} {d : D} : (Res.b i k d).d = d := rfl

/-! ### names, constants -/
def getC (env : Env) (i : Nat) : Option Cell := match env[i]? with
  | some c => c
  | none => none
theorem getC_some {env : Env} {i : Nat} {c : Cell} (h : getC env i = some c) : env[i]? = some (some c) := by
  unfold getC at h
  cases e : env[i]? with
  | none => rw [e] at h; cases h
  | some o => rw [e] at h; rw [show o = some c from h]
theorem getC_of {env : Env} {i : Nat} {c : Cell} (h : env[i]? = some (some c)) : getC env i = some c := by unfold getC; rw [h]
/-- a name that is looked at -/
def fVar (i : Nat) : FE := fun env R => match getC env i with
  | some ⟨0, d⟩ => R (.v 0 d) env
  | some ⟨k + 1, d⟩ => R (.b i (k + 1) d) env
  | none => False
/-- .. whose value is given up to whoever has it -/
def fFz (i : Nat) : FE := fun env R => match getC env i with
  | some c => R (.v 0 c.d) (env.set i (some (sh c.d)))
  | none => False
/-- .. whose value goes away from it -/
def fMv (i : Nat) : FE := fun env R => match getC env i with
  | some c => R (.v c.k c.d) (env.set i none)
  | none => False
def fC (d : D) : FE := fun env R => R (.v 0 d) env

section
variable {K : Fg}
theorem snd_var (i : Nat) : SndE K (tVar i) (fVar i) := by
  intro ω T env σ H R Q rel fr h q
  unfold fVar at h
  cases hc : getC env i with
  | none => rw [hc] at h; exact h.elim
  | some c =>
    obtain ⟨k, d⟩ := c
    rw [hc] at h
    obtain ⟨v, hv, ho⟩ := rel.cell i _ (getC_some hc)
    refine ⟨v, hv, ?_⟩
    cases k with
    | zero =>
      have ho' : Rp K ω H v d := ho
      exact q v H ω env (.v 0 d) rel Step.refl (fun a t p e => Nat.lt_succ_of_lt (fr a t p e)) ho' h
    | succ k => exact q v H ω env (.b i (k + 1) d) rel Step.refl (fun a t p e => Nat.lt_succ_of_lt (fr a t p e)) ⟨getC_some hc, hv⟩ h
def fzO (i : Nat) : Ow → Ow
  | .own j p => if j = i then .shr else .own j p
  | o => o
theorem fzO_ne {i : Nat} {o : Ow} (h : o ≠ .tab) : fzO i o ≠ .tab := by
  cases o with
  | own j p =>
    show (if j = i then Ow.shr else .own j p) ≠ _
    split <;> nofun
  | tab => exact absurd rfl h
  | _ => nofun
theorem snd_fz (i : Nat) : SndE K (tVar i) (fFz i) := by
  intro ω T env σ H R Q rel fr h0 q
  obtain ⟨c, hc, hR⟩ : ∃ c : Cell, env[i]? = some (some c) ∧ R (.v 0 c.d) (env.set i (some (sh c.d))) := by
    unfold fFz at h0
    cases hc : getC env i with
    | none => rw [hc] at h0; exact h0.elim
    | some c => rw [hc] at h0; exact ⟨c, getC_some hc, h0⟩
  obtain ⟨v, hv, ho⟩ := rel.cell i c hc
  have gsh : Sh ω H (ren (fzO i) ω) H := fun a o h e => ⟨h, by show fzO i (ω a) = _; rw [e]; rfl⟩
  have rp : Rp K (ren (fzO i) ω) H v c.d := OwR.fz gsh (fun a u p z1 z2 => ⟨z1, by
    show fzO i (ω a) = _
    rw [z2]
    show (if i = i then Ow.shr else _) = _
    rw [if_pos rfl]⟩) _ _ _ _ ho
  refine ⟨v, hv, q v H (ren (fzO i) ω) _ (.v 0 c.d) ⟨rel.tab.ren rfl, by rw [List.length_set]; exact rel.len, fun j c' e => ?_⟩ (fun a o h _ => ?_) (fun a t p e => ?_) rp hR⟩
  · by_cases hj : i = j
    · subst hj
      have hlt : i < env.length := (List.getElem?_eq_some_iff.mp hc).1
      rw [List.getElem?_set_self hlt] at e
      cases e
      exact ⟨v, hv, rp⟩
    · rw [List.getElem?_set_ne hj] at e
      obtain ⟨v', hv', ho'⟩ := rel.cell j c' e
      refine ⟨v', hv', OwR.go gsh (fun a u p z1 z2 => ⟨z1, ?_⟩) _ _ _ _ ho'⟩
      show fzO i (ω a) = _
      rw [z2]
      show (if j = i then Ow.shr else _) = _
      rw [if_neg (fun z => hj z.symm)]
  · show _ ∨ (_ ∧ fzO i (ω a) = ω a)
    cases y : ω a with
    | own j p => exact .inl ⟨j, p, rfl⟩
    | _ => exact .inr ⟨h, rfl⟩
  · have e' : fzO i (ω a) = .tmp t p := e
    cases y : ω a with
    | own j p' =>
      rw [y] at e'
      have e2 : (if j = i then Ow.shr else .own j p') = .tmp t p := e'
      by_cases hj : j = i
      · rw [if_pos hj] at e2; cases e2
      · rw [if_neg hj] at e2; cases e2
    | tmp t' p' =>
      rw [y] at e'
      cases e'
      exact Nat.lt_succ_of_lt (fr a _ _ y)
    | shr => rw [y] at e'; cases e'
    | far => rw [y] at e'; cases e'
    | tab => rw [y] at e'; cases e'
def mvO (i T : Nat) : Ow → Ow
  | .own j p => if j = i then .tmp T p else .own j p
  | o => o
theorem snd_mv (i : Nat) : SndE K (tVar i) (fMv i) := by
  intro ω T env σ H R Q rel fr h0 q
  obtain ⟨c, hc, hR⟩ : ∃ c : Cell, env[i]? = some (some c) ∧ R (.v c.k c.d) (env.set i none) := by
    unfold fMv at h0
    cases hc : getC env i with
    | none => rw [hc] at h0; exact h0.elim
    | some c => rw [hc] at h0; exact ⟨c, getC_some hc, h0⟩
  obtain ⟨v, hv, ho⟩ := rel.cell i c hc
  have gsh : Sh ω H (ren (mvO i T) ω) H := fun a o h e => ⟨h, by show mvO i T (ω a) = _; rw [e]; rfl⟩
  refine ⟨v, hv, q v H (ren (mvO i T) ω) _ (.v c.k c.d) ⟨rel.tab.ren rfl, by rw [List.length_set]; exact rel.len, fun j c' e => ?_⟩ (fun a o h _ => ?_) (fun a t p e => ?_) (OwR.go (o := Ow.own i) gsh (fun a u p z1 z2 => ⟨z1, ?_⟩) _ _ _ _ ho) hR⟩
  · have hj : i ≠ j := fun z => by
      subst z
      have hlt : i < env.length := (List.getElem?_eq_some_iff.mp hc).1
      rw [List.getElem?_set_self hlt] at e
      cases e
    rw [List.getElem?_set_ne hj] at e
    obtain ⟨v', hv', ho'⟩ := rel.cell j c' e
    refine ⟨v', hv', OwR.go gsh (fun a u p z1 z2 => ⟨z1, ?_⟩) _ _ _ _ ho'⟩
    show mvO i T (ω a) = _
    rw [z2]
    show (if j = i then _ else _) = _
    rw [if_neg (fun z => hj z.symm)]
  · show _ ∨ (_ ∧ mvO i T (ω a) = ω a)
    cases y : ω a with
    | own j p => exact .inl ⟨j, p, rfl⟩
    | _ => exact .inr ⟨h, rfl⟩
  · have e' : mvO i T (ω a) = .tmp t p := e
    cases y : ω a with
    | own j p' =>
      rw [y] at e'
      have e2 : (if j = i then Ow.tmp T p' else .own j p') = .tmp t p := e'
      by_cases hj : j = i
      · rw [if_pos hj] at e2; cases e2; exact Nat.lt_succ_self _
      · rw [if_neg hj] at e2; cases e2
    | tmp t' p' =>
      rw [y] at e'
      cases e'
      exact Nat.lt_succ_of_lt (fr a _ _ y)
    | shr => rw [y] at e'; cases e'
    | far => rw [y] at e'; cases e'
    | tab => rw [y] at e'; cases e'
  · show mvO i T (ω a) = _
    rw [z2]
    show (if i = i then _ else _) = _
    rw [if_pos rfl]
theorem Free.up {ω : Om} {T n : Nat} (h : Free ω T) : Free ω (T + n) := fun a t p e => by have := h a t p e; omega
theorem snd_c {v : V} {d : D} (h : ∀ (ω : Om) (H : Hp), Rp K ω H v d) : SndE K (tC v) (fC d) := by
  intro ω T env σ H R Q rel fr hR q
  exact q v H ω env (.v 0 d) rel Step.refl fr.up (h ω H) hR
end
section
variable {X : Cx}
theorem se_var (i : Nat) {x : Str} {pos : Pos} (hN : X.N[i]? = some x := by rfl) (hv : Vis X.env.scope x := by first | exact Or.inl rfl | exact Or.inr (Or.inl rfl) | exact Or.inr (Or.inr rfl)) (hd : (x == ("__debug__" : Str)) = false := by decide)
    (hcd : (x == ("__classdict__" : Str)) = false := by decide) : SE X (.Name x pos) (fVar i) := ⟨_, pe_var hN hv hd hcd, snd_var i⟩
theorem se_fz (i : Nat) {x : Str} {pos : Pos} (hN : X.N[i]? = some x := by rfl) (hv : Vis X.env.scope x := by first | exact Or.inl rfl | exact Or.inr (Or.inl rfl) | exact Or.inr (Or.inr rfl)) (hd : (x == ("__debug__" : Str)) = false := by decide)
    (hcd : (x == ("__classdict__" : Str)) = false := by decide) : SE X (.Name x pos) (fFz i) := ⟨_, pe_var hN hv hd hcd, snd_fz i⟩
theorem se_mv (i : Nat) {x : Str} {pos : Pos} (hN : X.N[i]? = some x := by rfl) (hv : Vis X.env.scope x := by first | exact Or.inl rfl | exact Or.inr (Or.inl rfl) | exact Or.inr (Or.inr rfl)) (hd : (x == ("__debug__" : Str)) = false := by decide)
    (hcd : (x == ("__classdict__" : Str)) = false := by decide) : SE X (.Name x pos) (fMv i) := ⟨_, pe_var hN hv hd hcd, snd_mv i⟩
theorem se_int {i j pos} : SE X (.Constant (.int i) j pos) (fC (.int i)) := ⟨_, pe_int, snd_c fun _ _ => .int i⟩
theorem se_bl {b j pos} : SE X (.Constant (.bool b) j pos) (fC (.bool b)) := ⟨_, pe_bl, snd_c fun _ _ => .bl b⟩
theorem se_non {j pos} : SE X (.Constant .none j pos) (fC .none) := ⟨_, pe_non, snd_c fun _ _ => .non⟩
theorem se_str {x j pos} : SE X (.Constant (.str x) j pos) (fC (.str x)) := ⟨_, pe_str, snd_c fun _ _ => .str x⟩
/-- a module's constant -/
def KD (K : Fg) (u : Value) (d : D) : Prop := ∃ v : V, RelV v u ∧ ∀ (ω : Om) (H : Hp), Rp K ω H v d
theorem se_glob {x : Str} {u : Value} {d : D} {pos : Pos} (hm : X.mg x = some u) (h : KD X.K u d) (hg : Gl X x := by rfl) (hd : (x == ("__debug__" : Str)) = false := by decide) : SE X (.Name x pos) (fC d) := by
  obtain ⟨v, r, hv⟩ := h
  exact ⟨_, pe_glob hg hm r hd, snd_c hv⟩
end

/-! ### arguments -/
def fNil : FA := fun env R => R [] env
/-- a borrowed value as it stands by now -/
def refr (e : Env) : Res → Option Res
  | .v k d => some (.v k d)
  | .b i _ _ => match getC e i with
    | some c => some (.b i c.k c.d)
    | none => none
def fCons (fa : FE) (fr : FA) : FA := fun env R => fa env fun r e1 => fr e1 fun rs e2 => match refr e2 r with
  | some r' => R (r' :: rs) e2
  | none => False
section
variable {K : Fg}
theorem snd_nil : SndA K tNil fNil := by
  intro ω T env σ H R Q rel fr hR q
  exact q [] H ω env [] rel Step.refl fr trivial hR
theorem snd_cons {ta : TE} {tr : TA} {fa : FE} {fr : FA} (ha : SndE K ta fa) (hr : SndA K tr fr) : SndA K (tCons ta tr) (fCons fa fr) := by
  intro ω T env σ H R Q rel fre hR q
  refine ha ω T env σ H _ _ rel fre hR fun v H1 ω1 e1 r rel1 st1 fr1 rr1 h1 => ?_
  refine hr ω1 (T + 1) e1 σ H1 _ _ rel1 fr1 h1 fun vs H2 ω2 e2 rs rel2 st2 fr2 rr2 h2 => ?_
  have go : ∀ r', ResR K ω2 H2 σ e2 T v r' → R (r' :: rs) e2 → Q (v :: vs) H2 := fun r' hr' hR' =>
    q (v :: vs) H2 ω2 e2 (r' :: rs) rel2 (st1.trans st2) (by rw [List.length_cons, show T + (rs.length + 1) = T + 1 + rs.length by omega]; exact fr2) ⟨hr', rr2⟩ hR'
  cases r with
  | v k d => exact go _ (ResR.step (T' := T) rr1 st2) h2
  | b i k d =>
    have h3 : (match (match getC e2 i with | some c => some (Res.b i c.k c.d) | none => none) with | some r' => R (r' :: rs) e2 | none => False) := h2
    cases hc : getC e2 i with
    | none => rw [hc] at h3; exact h3.elim
    | some c =>
      rw [hc] at h3
      exact go (.b i c.k c.d) ⟨getC_some hc, rr1.2⟩ h3
end
section
variable {X : Cx}
theorem sa_nil : SA X [] fNil := ⟨_, pa_nil, snd_nil⟩
theorem sa_cons {e : Expr} {es : List Expr} {fa : FE} {fr : FA} (ha : SE X e fa) (hr : SA X es fr) (hs : starEach (e :: es) X.env = (false, eval e X.env) :: starEach es X.env := by rfl) : SA X (e :: es) (fCons fa fr) := by
  obtain ⟨t, p, s⟩ := ha.ex
  obtain ⟨u, p', s'⟩ := hr.ex
  exact ⟨_, pa_cons p p' hs, snd_cons s s'⟩
end

/-! ### operations on values -/
abbrev KC := Nat → D → Prop
abbrev O1 := Res → KC → Prop
abbrev O2 := Res → Res → KC → Prop
abbrev ON := List Res → KC → Prop
def VwAll (K : Fg) (ω : Om) (H : Hp) : List V → List Res → Prop
  | [], [] => True
  | v :: vs, r :: rs => Vw K ω H v r ∧ VwAll K ω H vs rs
  | _, _ => False
/-- what an operation brings: the heap grew, and a value in hand -/
def Out (K : Fg) (ω : Om) (T : Nat) (H : Hp) (R : KC) (Q : VK) : Prop := ∀ v H' ω' k d, Grow ω H ω' H' → Free ω' (T + 1) → OwR K ω' H' k (Ow.tmp T) [] v d → R k d → Q v H'
def SndO1 (K : Fg) (r : V → Hp → VK → Prop) (o : O1) : Prop := ∀ ω T H x r1 (R : KC) (Q : VK), Free ω T → Vw K ω H x r1 → o r1 R → Out K ω T H R Q → r x H Q
def SndO2 (K : Fg) (r : R2) (o : O2) : Prop := ∀ ω T H x y r1 r2 (R : KC) (Q : VK), Free ω T → Vw K ω H x r1 → Vw K ω H y r2 → o r1 r2 R → Out K ω T H R Q → r x y H Q
def SndON (K : Fg) (r : List V → Hp → VK → Prop) (o : ON) : Prop := ∀ ω T H xs rs (R : KC) (Q : VK), Free ω T → VwAll K ω H xs rs → o rs R → Out K ω T H R Q → r xs H Q
/-- an operation that is looked at as a whole -/
@[irreducible] def ap1 (o : O1) (r : Res) (R : KC) : Prop := o r R
@[irreducible] def ap2 (o : O2) (r1 r2 : Res) (R : KC) : Prop := o r1 r2 R
@[irreducible] def apN (o : ON) (rs : List Res) (R : KC) : Prop := o rs R
/-- data that are looked at as a whole -/
@[irreducible] def ovr (o : D → Prop) (d : D) : Prop := o d
@[irreducible] def ovr2 (o : D → D → Prop) (d d' : D) : Prop := o d d'
theorem ap1_eq {o : O1} {r : Res} {R : KC} : ap1 o r R = o r R := by unfold ap1; rfl
theorem ap2_eq {o : O2} {r1 r2 : Res} {R : KC} : ap2 o r1 r2 R = o r1 r2 R := by unfold ap2; rfl
theorem apN_eq {o : ON} {rs : List Res} {R : KC} : apN o rs R = o rs R := by unfold apN; rfl
theorem ovr_eq {o : D → Prop} {d : D} : ovr o d = o d := by unfold ovr; rfl
theorem ovr2_eq {o : D → D → Prop} {d d' : D} : ovr2 o d d' = o d d' := by unfold ovr2; rfl
theorem ap1_op {o : O1} {r : Res} {R : KC} (h : o r R) : ap1 o r R := by rw [ap1_eq]; exact h
theorem ap2_op {o : O2} {r1 r2 : Res} {R : KC} (h : o r1 r2 R) : ap2 o r1 r2 R := by rw [ap2_eq]; exact h
theorem apN_op {o : ON} {rs : List Res} {R : KC} (h : o rs R) : apN o rs R := by rw [apN_eq]; exact h
theorem ovr_op {o : D → Prop} {d : D} (h : o d) : ovr o d := by rw [ovr_eq]; exact h
theorem ovr2_op {o : D → D → Prop} {d d' : D} (h : o d d') : ovr2 o d d' := by rw [ovr2_eq]; exact h
theorem ap1_cl {o : O1} {r : Res} {R : KC} (h : ap1 o r R) : o r R := by rw [ap1_eq] at h; exact h
theorem ap2_cl {o : O2} {r1 r2 : Res} {R : KC} (h : ap2 o r1 r2 R) : o r1 r2 R := by rw [ap2_eq] at h; exact h
theorem apN_cl {o : ON} {rs : List Res} {R : KC} (h : apN o rs R) : o rs R := by rw [apN_eq] at h; exact h
theorem ovr_cl {o : D → Prop} {d : D} (h : ovr o d) : o d := by rw [ovr_eq] at h; exact h
def fOp1 (o : O1) (fa : FE) : FE := fun env R => fa env fun r e => ap1 o r fun k d => R (.v k d) e
def fOp2 (o : O2) (fa fb : FE) : FE := fun env R => fa env fun r1 e1 => fb e1 fun r2 e2 => okb e2 r1 ∧ ap2 o r1 r2 fun k d => R (.v k d) e2
def fOpN (o : ON) (fa : FA) : FE := fun env R => fa env fun rs e => apN o rs fun k d => R (.v k d) e
section
variable {K : Fg} {ω : Om} {T : Nat} {H : Hp} {R : KC} {Q : VK}
theorem Out.same (q : Out K ω T H R Q) (fr : Free ω T) {v : V} {d : D} (h : Rp K ω H v d) (hR : R 0 d) : Q v H := q v H ω 0 d Grow.refl fr.up h hR
theorem Out.bl (q : Out K ω T H R Q) (fr : Free ω T) {b : Bool} (hR : R 0 (.bool b)) : Q (.bl b) H := q.same fr (.bl b) hR
theorem Out.int (q : Out K ω T H R Q) (fr : Free ω T) {b : Int} (hR : R 0 (.int b)) : Q (.int b) H := q.same fr (.int b) hR
theorem Out.str (q : Out K ω T H R Q) (fr : Free ω T) {b : Str} (hR : R 0 (.str b)) : Q (.str b) H := q.same fr (.str b) hR
theorem Out.non (q : Out K ω T H R Q) (fr : Free ω T) (hR : R 0 .none) : Q .non H := q.same fr .non hR
def putO (p : Addr) (o : Ow) (ω : Om) : Om := fun a => if a = p then o else ω a
theorem putO_same {p : Addr} {o : Ow} {ω : Om} : putO p o ω p = o := by unfold putO; rw [if_pos rfl]
theorem putO_ne {p a : Addr} {o : Ow} {ω : Om} (h : a ≠ p) : putO p o ω a = ω a := by unfold putO; rw [if_neg h]
theorem put_grow {p : Addr} {o : Ow} {u : HO} (hp : H p = none) : Grow ω H (putO p o ω) (upd H p u) := fun a x h => by
  have n := ne_of_none h hp
  exact ⟨by rw [upd_ne n]; exact h, putO_ne n⟩
theorem put_free {p : Addr} {l : List Nat} (fr : Free ω T) : Free (putO p (.tmp T l) ω) (T + 1) := fun a t q e => by
  by_cases h : a = p
  · subst h; rw [putO_same] at e; cases e; exact Nat.lt_succ_self _
  · rw [putO_ne h] at e; exact Nat.lt_succ_of_lt (fr a t q e)
theorem put_free0 {p : Addr} (fr : Free ω T) : Free (putO p .shr ω) (T + 1) := fun a t q e => by
  by_cases h : a = p
  · subst h; rw [putO_same] at e; cases e
  · rw [putO_ne h] at e; exact Nat.lt_succ_of_lt (fr a t q e)
/-- a new list of shared items -/
theorem Out.lst (q : Out K ω T H R Q) (fr : Free ω T) {p : Addr} (hp : H p = none) {vs : List V} {ds : List D} (h : RpAll K ω H vs ds) (hR : R 1 (.list ds)) : Q (.ref p) (upd H p (.lst vs)) := by
  refine q _ _ (putO p (.tmp T []) ω) 1 _ (put_grow hp) (put_free fr) (.inr (.inl ⟨p, vs, ds, rfl, rfl, upd_same, putO_same, h.length, fun j v' d' z1 z2 => ?_⟩)) hR
  exact Rp.sh (put_grow hp).step.sh _ _ (h.get z1 z2)
/-- a new tuple -/
theorem Out.tup (q : Out K ω T H R Q) (fr : Free ω T) {p : Addr} (hp : H p = none) {vs : List V} {ds : List D} (h : RpAll K ω H vs ds) (hR : R 0 (.tuple ds)) : Q (.ref p) (upd H p (.tup vs)) := by
  refine q _ _ (putO p .shr ω) 0 _ (put_grow hp) (put_free0 fr) (.tup (.inl ⟨upd_same, putO_same⟩) ?_) hR
  exact RpAll.sh (put_grow hp).step.sh _ _ h
end
section
variable {K : Fg}
theorem Step.grow {ω ω1 ω2 : Om} {H H1 H2 : Hp} (a : Step ω H ω1 H1) (b : Grow ω1 H1 ω2 H2) : Step ω H ω2 H2 := a.trans b.step
/-- behind an operation -/
theorem out_of {ω0 ω : Om} {T : Nat} {H0 H : Hp} {env : Env} {σ : Sg} {R : Res → Env → Prop} {Q : VK} (rel : Rel K ω env σ H) (st : Step ω0 H0 ω H)
    (q : ∀ v H' ω' env' r, Rel K ω' env' σ H' → Step ω0 H0 ω' H' → Free ω' (T + 1) → ResR K ω' H' σ env' T v r → R r env' → Q v H') : Out K ω T H (fun k d => R (.v k d) env) Q :=
  fun v H' ω' k d g fr' h hR => q v H' ω' env (.v k d) (rel.grow g) (st.grow g) fr' h hR
theorem snd_op1 {r : V → Hp → VK → Prop} {o : O1} {ta : TE} {fa : FE} (ho : SndO1 K r o) (ha : SndE K ta fa) : SndE K (tUn r ta) (fOp1 o fa) := by
  intro ω T env σ H R Q rel fre hR q
  refine ha ω T env σ H _ _ rel fre hR fun v H1 ω1 e1 r1 rel1 st1 fr1 rr1 h1 => ?_
  exact ho (gc T ω1) T H1 v r1 _ Q gc_free (rr1.gc rel1 (Nat.le_refl _)) (ap1_cl h1) (out_of (rel1.gc T) (st1.gc fre) q)
theorem two_ops {ta tb : TE} {fa fb : FE} (ha : SndE K ta fa) (hb : SndE K tb fb) {ω : Om} {T : Nat} {env : Env} {σ : Sg} {H : Hp} {G : Res → Res → Env → Prop} {W : V → V → Hp → Prop} (rel : Rel K ω env σ H) (fre : Free ω T)
    (h : fa env fun r1 e1 => fb e1 fun r2 e2 => okb e2 r1 ∧ G r1 r2 e2)
    (q : ∀ x y H' ω' e' r1 r2, Rel K ω' e' σ H' → Step ω H ω' H' → Free ω' T → Vw K ω' H' x r1 → Vw K ω' H' y r2 → G r1 r2 e' → W x y H') : ta σ H fun x H1 => tb σ H1 fun y H2 => W x y H2 := by
  refine ha ω T env σ H _ _ rel fre h fun v H1 ω1 e1 r1 rel1 st1 fr1 rr1 h1 => ?_
  refine hb ω1 (T + 1) e1 σ H1 _ _ rel1 fr1 h1 fun u H2 ω2 e2 r2 rel2 st2 fr2 rr2 h2 => ?_
  have rr1' : ResR K ω2 H2 σ e2 T v r1 := by
    cases r1 with
    | v k d => exact ResR.step (T' := T) rr1 st2
    | b i k d => exact ⟨h2.1, rr1.2⟩
  exact q v u H2 (gc T ω2) e2 r1 r2 (rel2.gc T) ((st1.trans st2).gc fre) gc_free (rr1'.gc rel2 (Nat.le_refl _)) (rr2.gc rel2 (Nat.le_succ _)) h2.2
theorem snd_op2 {r : R2} {o : O2} {ta tb : TE} {fa fb : FE} (ho : SndO2 K r o) (ha : SndE K ta fa) (hb : SndE K tb fb) : SndE K (tOp r ta tb) (fOp2 o fa fb) := by
  intro ω T env σ H R Q rel fre hR q
  refine two_ops (G := fun r1 r2 e2 => ap2 o r1 r2 fun k d => R (.v k d) e2) ha hb rel fre hR fun x y H2 ω2 e2 r1 r2 rel2 st2 fr2 v1 v2 h2 => ?_
  exact ho ω2 T H2 x y r1 r2 _ Q fr2 v1 v2 (ap2_cl h2) (out_of rel2 st2 q)
theorem ResAll.gc {ω : Om} {H : Hp} {env : Env} {σ : Sg} {T0 : Nat} (R : Rel K ω env σ H) : ∀ {vs : List V} {rs : List Res} {T : Nat}, T0 ≤ T → ResAll K ω H σ env T vs rs → VwAll K (gc T0 ω) H vs rs
  | [], [], _, _, _ => trivial
  | [], _ :: _, _, _, h => h.elim
  | _ :: _, [], _, _, h => h.elim
  | _ :: _, _ :: _, _, hT, h => ⟨ResR.gc h.1 R hT, ResAll.gc R (Nat.le_succ_of_le hT) h.2⟩
theorem snd_opN {r : List V → Hp → VK → Prop} {o : ON} {ta : TA} {fa : FA} (ho : SndON K r o) (ha : SndA K ta fa) : SndE K (fun σ H Q => ta σ H fun vs H1 => r vs H1 Q) (fOpN o fa) := by
  intro ω T env σ H R Q rel fre hR q
  refine ha ω T env σ H _ _ rel fre hR fun vs H1 ω1 e1 rs rel1 st1 fr1 rr1 h1 => ?_
  exact ho (gc T ω1) T H1 vs rs _ Q gc_free (rr1.gc rel1 (Nat.le_refl _)) (apN_cl h1) (out_of (rel1.gc T) (st1.gc fre) q)
end
end Pv

/-! Pv3: operators, comparisons, tests. -/
namespace Pv
open PySem PySem.Spec PyProof.Rows L2

/-- its items are shared -/
def flat : Res → Prop
  | .v _ _ => True
  | .b _ k _ => k ≤ 1
section
variable {K : Fg} {ω : Om} {H : Hp} {v : V} {r : Res}
theorem Vw.int (h : Vw K ω H v r) {i : Int} (e : r.d = .int i) : v = .int i := by
  have d := h.dp (by rw [e]; rfl)
  rw [e] at d; cases d; rfl
theorem Vw.bl (h : Vw K ω H v r) {i : Bool} (e : r.d = .bool i) : v = .bl i := by
  have d := h.dp (by rw [e]; rfl)
  rw [e] at d; cases d; rfl
theorem Vw.non (h : Vw K ω H v r) (e : r.d = .none) : v = .non := by
  have d := h.dp (by rw [e]; rfl)
  rw [e] at d; cases d; rfl
theorem Rp.str_ {s : Str} (h : Rp K ω H v (.str s)) : v = .str s := by cases h; rfl
theorem Vw.str (h : Vw K ω H v r) {i : Str} (e : r.d = .str i) : v = .str i := by
  cases r with
  | v k d =>
    have e' : d = .str i := e
    have h' : Rp K ω H v d := h
    rw [e'] at h'; exact h'.str_
  | b j k d =>
    have e' : d = .str i := e
    have h' : OwR K ω H k (Ow.own j) [] v d := h
    rw [e'] at h'
    cases k with
    | zero => exact Rp.str_ h'
    | succ k =>
      rcases h' with ⟨_, h'⟩ | ⟨_, _, _, _, e2, _⟩ | ⟨_, _, _, _, e2, _⟩ | ⟨_, _, _, _, _, _, _, e2, _⟩ | ⟨_, _, _, _, e2, _⟩
      · exact h'.str_
      · cases e2
      · cases e2
      · cases e2
      · first | (cases e2; done) | exact (dct_not_otp e2).elim | exact (dct_not_otp e2.symm).elim | exact (ins_not_otp e2.symm).elim | exact (ins_not_otp e2).elim | exact (exc_not_otp e2).elim | (subst e2; cases f; done)
theorem Vw.lst (h : Vw K ω H v r) (s : flat r) {ds : List D} (e : r.d = .list ds) : ∃ a vs, v = .ref a ∧ H a = some (.lst vs) ∧ RpAll K ω H vs ds := by
  cases r with
  | v k d =>
    have e' : d = .list ds := e
    have h' : Rp K ω H v d := h
    rw [e'] at h'
    cases h' with
    | lst hs ha => exact ⟨_, _, rfl, hs.1, ha⟩
  | b j k d =>
    have e' : d = .list ds := e
    have h' : OwR K ω H k (Ow.own j) [] v d := h
    rw [e'] at h'
    cases k with
    | zero =>
      have h2 : Rp K ω H v (.list ds) := h'
      cases h2 with
      | lst hs ha => exact ⟨_, _, rfl, hs.1, ha⟩
    | succ k =>
      have s' : k + 1 ≤ 1 := s
      have k0 : k = 0 := by omega
      subst k0
      rcases h' with ⟨z, _⟩ | ⟨a, vs, ds', e1, e2, h1, _, el, hc⟩ | ⟨_, _, _, _, e2, _⟩ | ⟨_, _, _, _, _, _, _, e2, _⟩ | ⟨_, _, _, _, e2, _⟩
      · cases z
      · cases e2
        exact ⟨a, vs, e1, h1, RpAll.of_get el hc⟩
      · cases e2
      · cases e2
      · first | (cases e2; done) | exact (dct_not_otp e2).elim | exact (dct_not_otp e2.symm).elim | exact (ins_not_otp e2.symm).elim | exact (ins_not_otp e2).elim | exact (exc_not_otp e2).elim | (subst e2; cases f; done)
theorem Rp.tup_ {ds : List D} (h : Rp K ω H v (.tuple ds)) : ∃ a vs, v = .ref a ∧ SqT K H a vs ∧ RpAll K ω H vs ds := by
  cases h with
  | tup hs ha => exact ⟨_, _, rfl, hs.seq, ha⟩
theorem Vw.tup (h : Vw K ω H v r) {ds : List D} (e : r.d = .tuple ds) : ∃ a vs, v = .ref a ∧ SqT K H a vs ∧ RpAll K ω H vs ds := by
  cases r with
  | v k d =>
    have e' : d = .tuple ds := e
    have h' : Rp K ω H v d := h
    rw [e'] at h'; exact h'.tup_
  | b j k d =>
    have e' : d = .tuple ds := e
    have h' : OwR K ω H k (Ow.own j) [] v d := h
    rw [e'] at h'
    cases k with
    | zero => exact Rp.tup_ h'
    | succ k =>
      rcases h' with ⟨_, h'⟩ | ⟨_, _, _, _, e2, _⟩ | ⟨_, _, _, _, e2, _⟩ | ⟨_, _, _, _, _, _, _, e2, _⟩ | ⟨_, _, _, _, e2, _⟩
      · exact h'.tup_
      · cases e2
      · cases e2
      · cases e2
      · first | (cases e2; done) | exact (dct_not_otp e2).elim | exact (dct_not_otp e2.symm).elim | exact (ins_not_otp e2.symm).elim | exact (ins_not_otp e2).elim | exact (exc_not_otp e2).elim | (subst e2; cases f; done)
theorem Vw.rpT (h : Vw K ω H v r) {ds : List D} (e : r.d = .tuple ds) : Rp K ω H v (.tuple ds) := by
  cases r with
  | v k d =>
    have e' : d = .tuple ds := e
    have h' : Rp K ω H v d := h
    rw [e'] at h'; exact h'
  | b j k d =>
    have e' : d = .tuple ds := e
    have h' : OwR K ω H k (Ow.own j) [] v d := h
    rw [e'] at h'
    cases k with
    | zero => exact h'
    | succ k =>
      rcases h' with ⟨_, h'⟩ | ⟨_, _, _, _, e2, _⟩ | ⟨_, _, _, _, e2, _⟩ | ⟨_, _, _, _, _, _, _, e2, _⟩ | ⟨_, _, _, _, e2, _⟩
      · exact h'
      · cases e2
      · cases e2
      · cases e2
      · first | (cases e2; done) | exact (dct_not_otp e2).elim | exact (dct_not_otp e2.symm).elim | exact (ins_not_otp e2.symm).elim | exact (ins_not_otp e2).elim | exact (exc_not_otp e2).elim | (subst e2; cases f; done)
end

/-! ### arithmetic -/
def dAdd (f1 f2 : Prop) (R : KC) : D → D → Prop
  | .int i, .int j => R 0 (.int (i + j))
  | .str x, .str y => x.length + y.length ≤ sizeLine ∧ R 0 (.str (x ++ y))
  | .list xs, .list ys => (f1 ∧ f2 ∧ xs.length + ys.length ≤ sizeLine) ∧ R 1 (.list (xs ++ ys))
  | .tuple xs, .tuple ys => xs.length + ys.length ≤ sizeLine ∧ R 0 (.tuple (xs ++ ys))
  | _, _ => False
def oAdd : O2 := fun r1 r2 R => dAdd (flat r1) (flat r2) R r1.d r2.d
/-- two ints, under C -/
def dInt (C : Int → Int → Prop) (g : Int → Int → D) (R : KC) : D → D → Prop
  | .int i, .int j => C i j ∧ R 0 (g i j)
  | _, _ => False
def dInt0 (g : Int → Int → D) (R : KC) : D → D → Prop
  | .int i, .int j => R 0 (g i j)
  | _, _ => False
def oSub : O2 := fun r1 r2 R => dInt0 (fun i j => .int (i - j)) R r1.d r2.d
/-- a factor below 2 ^ 64 -/
def oMul : O2 := fun r1 r2 R => dInt CMul (fun i j => .int (i * j)) R r1.d r2.d
def oMulW : O2 := fun r1 r2 R => dInt CMulW (fun i j => .int (i * j)) R r1.d r2.d
def oDiv : O2 := fun r1 r2 R => dInt CDivW (fun i j => .int (i / j)) R r1.d r2.d
def oMod : O2 := fun r1 r2 R => dInt (fun _ j => 0 < j) (fun i j => .int (i % j)) R r1.d r2.d
def oPow : O2 := fun r1 r2 R => dInt CPow (fun i j => .int (i ^ j.toNat)) R r1.d r2.d
def oLt : O2 := fun r1 r2 R => dInt0 (fun i j => .bool (decide (i < j))) R r1.d r2.d
def oLe : O2 := fun r1 r2 R => dInt0 (fun i j => .bool (decide (i ≤ j))) R r1.d r2.d
def oGt : O2 := fun r1 r2 R => dInt0 (fun i j => .bool (decide (j < i))) R r1.d r2.d
def oGe : O2 := fun r1 r2 R => dInt0 (fun i j => .bool (decide (j ≤ i))) R r1.d r2.d
section
variable {K : Fg} {X : Cx}
theorem dInt0_ex {g : Int → Int → D} {R : KC} {d e : D} (h : dInt0 g R d e) : ∃ i j, d = .int i ∧ e = .int j ∧ R 0 (g i j) := by
  cases d <;> cases e <;> first
    | exact h.elim
    | exact ⟨_, _, rfl, rfl, h⟩
theorem dInt_ex {C : Int → Int → Prop} {g : Int → Int → D} {R : KC} {d e : D} (h : dInt C g R d e) : ∃ i j, d = .int i ∧ e = .int j ∧ C i j ∧ R 0 (g i j) := by
  cases d <;> cases e <;> first
    | exact h.elim
    | exact ⟨_, _, rfl, rfl, h⟩
theorem so_int {C : Int → Int → Prop} {g : Int → Int → Int} : SndO2 K (rI C fun i j => .int (g i j)) (fun r1 r2 R => dInt C (fun i j => .int (g i j)) R r1.d r2.d) := by
  intro ω T H x y r1 r2 R Q fr v1 v2 h q
  obtain ⟨i, j, e1, e2, c, hR⟩ := dInt_ex h
  exact ⟨i, j, v1.int e1, v2.int e2, c, q.int fr hR⟩
theorem so_int0 {g : Int → Int → Int} : SndO2 K (rI0 fun i j => .int (g i j)) (fun r1 r2 R => dInt0 (fun i j => .int (g i j)) R r1.d r2.d) := by
  intro ω T H x y r1 r2 R Q fr v1 v2 h q
  obtain ⟨i, j, e1, e2, hR⟩ := dInt0_ex h
  exact ⟨i, j, v1.int e1, v2.int e2, q.int fr hR⟩
theorem so_bl0 {g : Int → Int → Bool} : SndO2 K (rI0 fun i j => .bl (g i j)) (fun r1 r2 R => dInt0 (fun i j => .bool (g i j)) R r1.d r2.d) := by
  intro ω T H x y r1 r2 R Q fr v1 v2 h q
  obtain ⟨i, j, e1, e2, hR⟩ := dInt0_ex h
  exact ⟨i, j, v1.int e1, v2.int e2, q.bl fr hR⟩
theorem so_add : SndO2 X.K (fun x y H Q => ((rI0 fun i j => V.int (i + j)) x y H Q ∨ (∃ i j, x = .str i ∧ y = .str j ∧ i.length + j.length ≤ sizeLine ∧ Q (.str (i ++ j)) H)) ∨ (rCat x y H Q ∨ rCatA X.K x y H Q)) oAdd := by
  intro ω T H x y r1 r2 R Q fr v1 v2 h q
  have h' : dAdd (flat r1) (flat r2) R r1.d r2.d := h
  generalize e1 : r1.d = d1 at h'
  generalize e2 : r2.d = d2 at h'
  cases d1 <;> cases d2 <;> first
    | exact h'.elim
    | skip
  · exact .inl (.inl ⟨_, _, v1.int e1, v2.int e2, q.int fr h'⟩)
  · exact .inl (.inr ⟨_, _, v1.str e1, v2.str e2, h'.1, q.str fr h'.2⟩)
  · obtain ⟨⟨f1, f2, hl⟩, hR⟩ := h'
    obtain ⟨a, vs, rfl, ha, pa⟩ := v1.lst f1 e1
    obtain ⟨b, ws, rfl, hb, pb⟩ := v2.lst f2 e2
    refine .inr (.inl ⟨a, b, vs, ws, rfl, rfl, ha, hb, by rw [pa.length, pb.length]; exact hl, fun p hp => q.lst fr hp (pa.append pb) hR⟩)
  · obtain ⟨hl, hR⟩ := h'
    have w1 := v1.rpT e1
    have w2 := v2.rpT e2
    obtain ⟨a, vs, rfl, ha, pa⟩ := v1.tup e1
    obtain ⟨b, ws, rfl, hb, pb⟩ := v2.tup e2
    refine .inr (.inr ⟨a, b, vs, ws, rfl, rfl, ha, hb, by rw [pa.length, pb.length]; exact hl, fun z => ?_, fun z1 z2 => ?_, fun z1 z2 p hp => q.tup fr hp (pa.append pb) hR⟩)
    · subst z
      cases pa
      exact q.same fr w2 hR
    · subst z2
      cases pb
      rw [List.append_nil] at hR
      exact q.same fr w1 hR
theorem op_add_all : OpR X (binaryOp .Add) (fun x y H Q => ((rI0 fun i j => V.int (i + j)) x y H Q ∨ (∃ i j, x = .str i ∧ y = .str j ∧ i.length + j.length ≤ sizeLine ∧ Q (.str (i ++ j)) H)) ∨ (rCat x y H Q ∨ rCatA X.K x y H Q)) :=
  OpR.or (OpR.or op_add op_add_str) (OpR.or op_cat op_catA)
variable {a b : Expr} {fa fb : FE} {pos : Pos}
theorem se_op {op : Operator} {r : R2} {o : O2} (ho : OpR X (binaryOp op) r) (so : SndO2 X.K r o) (ha : SE X a fa) (hb : SE X b fb) : SE X (.BinOp a op b pos) (fOp2 o fa fb) := by
  obtain ⟨t, p, s⟩ := ha.ex
  obtain ⟨u, p', s'⟩ := hb.ex
  exact ⟨_, pe_op ho p p', snd_op2 so s s'⟩
theorem se_add (ha : SE X a fa) (hb : SE X b fb) : SE X (.BinOp a .Add b pos) (fOp2 oAdd fa fb) := se_op op_add_all so_add ha hb
theorem se_sub (ha : SE X a fa) (hb : SE X b fb) : SE X (.BinOp a .Sub b pos) (fOp2 oSub fa fb) := se_op op_sub so_int0 ha hb
theorem se_div (ha : SE X a fa) (hb : SE X b fb) : SE X (.BinOp a .FloorDiv b pos) (fOp2 oDiv fa fb) := se_op op_fdivW so_int ha hb
theorem se_mod (ha : SE X a fa) (hb : SE X b fb) : SE X (.BinOp a .Mod b pos) (fOp2 oMod fa fb) := se_op op_mod so_int ha hb
theorem se_pow (ha : SE X a fa) (hb : SE X b fb) : SE X (.BinOp a .Pow b pos) (fOp2 oPow fa fb) := se_op op_pow so_int ha hb
/-- -x of an int -/
def dNeg (R : KC) : D → Prop
  | .int i => R 0 (.int (-i))
  | _ => False
def oNeg : O1 := fun r R => dNeg R r.d
theorem se_neg (ha : SE X a fa) : SE X (.UnaryOp .USub a pos) (fOp1 oNeg fa) := by
  obtain ⟨t, p, s⟩ := ha.ex
  refine ⟨_, pe_un un_neg p, snd_op1 (fun ω T H x r1 R Q fr v1 h q => ?_) s⟩
  have h' : dNeg R r1.d := h
  generalize e1 : r1.d = d1 at h'
  cases d1 <;> first
    | exact h'.elim
    | exact ⟨_, v1.int e1, q.int fr h'⟩
end

/-! ### comparisons -/
/-- data that == looks through -/
abbrev shp (d : D) : Prop := SeqAt.shaped d = true
def dEq (p : Bool → Bool) (R : KC) : D → D → Prop
  | .int i, .int j => R 0 (.bool (p (decide (i = j))))
  | .str i, .str j => R 0 (.bool (p (decide (i = j))))
  | .bool i, .bool j => R 0 (.bool (p (decide (i = j))))
  | d, e => shp d ∧ shp e ∧ R 0 (.bool (p (PyData.eqv d e)))
def oEq : O2 := fun r1 r2 R => dEq (fun b => b) R r1.d r2.d
def oNe : O2 := fun r1 r2 R => dEq (fun b => !b) R r1.d r2.d
/-- is None, is not None -/
def isNone : D → Bool
  | .none => true
  | _ => false
def oIsN : O2 := fun r1 r2 R => r2.d = .none ∧ R 0 (.bool (isNone r1.d))
def oNotN : O2 := fun r1 r2 R => r2.d = .none ∧ R 0 (.bool (!isNone r1.d))
section
variable {X : Cx} {a b c : Expr} {fa fb fc : FE} {pos : Pos}
theorem hu64 {A : Around} {k : Nat} (hr : Room k A) : A.units + 64 < cLine := by have := hr.un; omega
theorem so_eq : SndO2 X.K (fun x y H Q => rEq x y H Q ∨ rEqD X.K x y H Q) oEq := by
  intro ω T H x y r1 r2 R Q fr v1 v2 h q
  have h' : dEq (fun b => b) R r1.d r2.d := h
  have gen : shp r1.d ∧ shp r2.d ∧ R 0 (.bool (PyData.eqv r1.d r2.d)) → rEq x y H Q ∨ rEqD X.K x y H Q := fun ⟨s1, s2, hR⟩ =>
    .inr ⟨r1.d, r2.d, v1.dp (SeqAt.canLay_of_shaped s1), v2.dp (SeqAt.canLay_of_shaped s2), s1, s2, q.bl fr hR⟩
  generalize e1 : r1.d = d1 at h' gen
  generalize e2 : r2.d = d2 at h' gen
  cases d1 <;> cases d2 <;> first
    | exact gen h'
    | (refine .inl ⟨?_, ?_⟩
       · first
           | (rw [v1.int e1, v2.int e2]; rfl)
           | (rw [v1.str e1, v2.str e2]; rfl)
           | (rw [v1.bl e1, v2.bl e2]; rfl)
       · first
           | (rw [v1.int e1, v2.int e2]; have := q.bl fr h'; simpa using this)
           | (rw [v1.str e1, v2.str e2]; have := q.bl fr h'; simpa using this)
           | (rw [v1.bl e1, v2.bl e2]; have := q.bl fr h'; simpa using this))
theorem so_ne : SndO2 X.K (fun x y H Q => rNe x y H Q ∨ rNeD X.K x y H Q) oNe := by
  intro ω T H x y r1 r2 R Q fr v1 v2 h q
  have h' : dEq (fun b => !b) R r1.d r2.d := h
  have gen : shp r1.d ∧ shp r2.d ∧ R 0 (.bool (!PyData.eqv r1.d r2.d)) → rNe x y H Q ∨ rNeD X.K x y H Q := fun ⟨s1, s2, hR⟩ =>
    .inr ⟨r1.d, r2.d, v1.dp (SeqAt.canLay_of_shaped s1), v2.dp (SeqAt.canLay_of_shaped s2), s1, s2, q.bl fr hR⟩
  generalize e1 : r1.d = d1 at h' gen
  generalize e2 : r2.d = d2 at h' gen
  cases d1 <;> cases d2 <;> first
    | exact gen h'
    | (refine .inl ⟨?_, ?_⟩
       · first
           | (rw [v1.int e1, v2.int e2]; rfl)
           | (rw [v1.str e1, v2.str e2]; rfl)
           | (rw [v1.bl e1, v2.bl e2]; rfl)
       · first
           | (rw [v1.int e1, v2.int e2]; have := q.bl fr h'; simpa using this)
           | (rw [v1.str e1, v2.str e2]; have := q.bl fr h'; simpa using this)
           | (rw [v1.bl e1, v2.bl e2]; have := q.bl fr h'; simpa using this))
theorem Vw.isN {K : Fg} {ω : Om} {H : Hp} {v : V} {r : Res} (h : Vw K ω H v r) : decide (v = .non) = isNone r.d := by
  have rp : ∀ d : D, Rp K ω H v d → decide (v = .non) = isNone d := fun d h => by cases h <;> simp [isNone, Pv.scrD, Pv.dcD, Pv.dctD, Pv.insD, Pv.excD, Pv.otpD]
  cases r with
  | v k d => exact rp d h
  | b j k d =>
    have h' : OwR K ω H k (Ow.own j) [] v d := h
    cases k with
    | zero => exact rp d h'
    | succ k =>
      rcases h' with ⟨_, h'⟩ | ⟨_, _, _, e1, e2, _⟩ | ⟨_, _, _, e1, e2, _⟩ | ⟨_, _, _, _, _, _, e1, e2, _⟩ | ⟨_, _, _, e1, e2, _⟩
      · exact rp d h'
      · subst e1 e2; simp [isNone]
      · subst e1 e2; simp [isNone, dcD, dctD]
      · subst e1 e2; simp [isNone, insD]
      · subst e1 e2; simp [isNone, otpD]
theorem so_isN {K : Fg} : SndO2 K (fun x y H Q => y = .non ∧ Q (.bl (decide (x = .non))) H) oIsN := by
  intro ω T H x y r1 r2 R Q fr v1 v2 h q
  exact ⟨v2.non h.1, q.bl fr (by rw [v1.isN]; exact h.2)⟩
theorem so_notN {K : Fg} : SndO2 K (fun x y H Q => y = .non ∧ Q (.bl (!decide (x = .non))) H) oNotN := by
  intro ω T H x y r1 r2 R Q fr v1 v2 h q
  exact ⟨v2.non h.1, q.bl fr (by rw [v1.isN]; exact h.2)⟩
theorem se_cmp {op : CmpOp} {r : R2} {o : O2} (ho : OpR X (compareOp op) r) (so : SndO2 X.K r o) (ha : SE X a fa) (hb : SE X b fb) (hm : behindInMarks op b = false := by first | exact nobehind _ (by decide) (by decide) | rfl) : SE X (.Compare a [op] [b] pos) (fOp2 o fa fb) := by
  obtain ⟨t, p, s⟩ := ha.ex
  obtain ⟨u, p', s'⟩ := hb.ex
  exact ⟨_, pe_cmpR ho p p' hm, snd_op2 so s s'⟩
theorem se_gt (ha : SE X a fa) (hb : SE X b fb) : SE X (.Compare a [.Gt] [b] pos) (fOp2 oGt fa fb) := se_cmp op_gt so_bl0 ha hb
theorem se_ge (ha : SE X a fa) (hb : SE X b fb) : SE X (.Compare a [.GtE] [b] pos) (fOp2 oGe fa fb) := se_cmp op_ge so_bl0 ha hb
theorem se_ne {k : Nat} (hr : Room k X.A) (ha : SE X a fa) (hb : SE X b fb) : SE X (.Compare a [.NotEq] [b] pos) (fOp2 oNe fa fb) := se_cmp (OpR.or op_ne (op_neD (hu64 hr))) so_ne ha hb
theorem se_isN (ha : SE X a fa) (hb : SE X b fb) : SE X (.Compare a [.Is] [b] pos) (fOp2 oIsN fa fb) := se_cmp op_isN so_isN ha hb
end

/-! ### tests -/
def dB (R : Bool → Prop) : D → Prop
  | .bool b => R b
  | _ => False
def fTst (fa : FE) : FT := fun env R => fa env fun r e => dB (fun b => R b e) r.d
def fAnd (f g : FT) : FT := fun env R => f env fun b e => match b with
  | true => g e R
  | false => R false e
def fOr (f g : FT) : FT := fun env R => f env fun b e => match b with
  | true => R true e
  | false => g e R
def fNot (f : FT) : FT := fun env R => f env fun b e => R (!b) e
/-- and, or, not as values (of truths) -/
def fAndV (f g : FE) : FE := fun env R => f env fun r e => dB (fun b => match b with
  | true => g e R
  | false => R (.v 0 (.bool false)) e) r.d
def fOrV (f g : FE) : FE := fun env R => f env fun r e => dB (fun b => match b with
  | true => R (.v 0 (.bool true)) e
  | false => g e R) r.d
def fNotV (f : FE) : FE := fun env R => f env fun r e => dB (fun b => R (.v 0 (.bool (!b))) e) r.d
def fIf (c : FT) (f g : FE) : FE := fun env R => c env fun b e => match b with
  | true => f e R
  | false => g e R
section
variable {K : Fg}
theorem dB_ex {R : Bool → Prop} {d : D} (h : dB R d) : ∃ b, d = .bool b ∧ R b := by
  cases d <;> first
    | exact h.elim
    | exact ⟨_, rfl, h⟩
theorem ResR.bl {ω : Om} {H : Hp} {σ : Sg} {env : Env} {T : Nat} {v : V} {r : Res} {b : Bool} (R : Rel K ω env σ H) (h : ResR K ω H σ env T v r) (e : r.d = .bool b) : v = .bl b := Vw.bl (h.gc R (Nat.le_refl _)) e
theorem snd_tst {t : TE} {f : FE} (h : SndE K t f) : SndT K (fun σ H Q => t σ H fun x H' => ∃ k, x = .bl k ∧ Q k H') (fTst f) := by
  intro ω T env σ H R Q rel fr hR q
  refine h ω T env σ H _ _ rel fr hR fun v H1 ω1 e1 r rel1 st1 fr1 rr1 h1 => ?_
  obtain ⟨b, e, hb⟩ := dB_ex h1
  exact ⟨b, rr1.bl rel1 e, q b H1 (gc T ω1) e1 (rel1.gc T) (st1.gc fr) gc_free hb⟩
theorem snd_and {t u : TT} {f g : FT} (h : SndT K t f) (h' : SndT K u g) : SndT K (tAnd t u) (fAnd f g) := by
  intro ω T env σ H R Q rel fr hR q
  refine h ω T env σ H _ _ rel fr hR fun b H1 ω1 e1 rel1 st1 fr1 h1 => ?_
  cases b with
  | true => exact h' ω1 T e1 σ H1 R Q rel1 fr1 h1 fun b H2 ω2 e2 rel2 st2 fr2 h2 => q b H2 ω2 e2 rel2 (st1.trans st2) fr2 h2
  | false => exact q false H1 ω1 e1 rel1 st1 fr1 h1
theorem snd_or {t u : TT} {f g : FT} (h : SndT K t f) (h' : SndT K u g) : SndT K (tOr t u) (fOr f g) := by
  intro ω T env σ H R Q rel fr hR q
  refine h ω T env σ H _ _ rel fr hR fun b H1 ω1 e1 rel1 st1 fr1 h1 => ?_
  cases b with
  | true => exact q true H1 ω1 e1 rel1 st1 fr1 h1
  | false => exact h' ω1 T e1 σ H1 R Q rel1 fr1 h1 fun b H2 ω2 e2 rel2 st2 fr2 h2 => q b H2 ω2 e2 rel2 (st1.trans st2) fr2 h2
theorem snd_not {t : TT} {f : FT} (h : SndT K t f) : SndT K (tNot t) (fNot f) := by
  intro ω T env σ H R Q rel fr hR q
  exact h ω T env σ H _ _ rel fr hR fun b H1 ω1 e1 rel1 st1 fr1 h1 => q (!b) H1 ω1 e1 rel1 st1 fr1 h1
theorem snd_andV {t u : TE} {f g : FE} (h : SndE K t f) (h' : SndE K u g) : SndE K (tAndV t u) (fAndV f g) := by
  intro ω T env σ H R Q rel fr hR q
  refine h ω T env σ H _ _ rel fr hR fun v H1 ω1 e1 r rel1 st1 fr1 rr1 h1 => ?_
  obtain ⟨b, e, hb⟩ := dB_ex h1
  refine ⟨b, rr1.bl rel1 e, ?_⟩
  cases b with
  | true => exact h' (gc T ω1) T e1 σ H1 R Q (rel1.gc T) gc_free hb fun v H2 ω2 e2 r rel2 st2 fr2 rr2 h2 => q v H2 ω2 e2 r rel2 ((st1.gc fr).trans st2) fr2 rr2 h2
  | false => exact q (.bl false) H1 ω1 e1 (.v 0 (.bool false)) rel1 st1 fr1 (Rp.bl false) hb
theorem snd_notV {t : TE} {f : FE} (h : SndE K t f) : SndE K (tNotV t) (fNotV f) := by
  intro ω T env σ H R Q rel fr hR q
  refine h ω T env σ H _ _ rel fr hR fun v H1 ω1 e1 r rel1 st1 fr1 rr1 h1 => ?_
  obtain ⟨b, e, hb⟩ := dB_ex h1
  exact ⟨b, rr1.bl rel1 e, q (.bl (!b)) H1 ω1 e1 (.v 0 (.bool (!b))) rel1 st1 fr1 (Rp.bl _) hb⟩
theorem snd_if {c : TT} {t u : TE} {fc : FT} {f g : FE} (hc : SndT K c fc) (h : SndE K t f) (h' : SndE K u g) : SndE K (tIf c t u) (fIf fc f g) := by
  intro ω T env σ H R Q rel fr hR q
  refine hc ω T env σ H _ _ rel fr hR fun b H1 ω1 e1 rel1 st1 fr1 h1 => ?_
  cases b with
  | true => exact h ω1 T e1 σ H1 R Q rel1 fr1 h1 fun v H2 ω2 e2 r rel2 st2 fr2 rr2 h2 => q v H2 ω2 e2 r rel2 (st1.trans st2) fr2 rr2 h2
  | false => exact h' ω1 T e1 σ H1 R Q rel1 fr1 h1 fun v H2 ω2 e2 r rel2 st2 fr2 rr2 h2 => q v H2 ω2 e2 r rel2 (st1.trans st2) fr2 rr2 h2
end
section
variable {X : Cx} {a b e : Expr} {rest : List Expr} {fa fb : FE} {ga gb : FT} {pos : Pos}
/-- an expression whose value is a truth, as a test -/
theorem st_val (h : SE X e fa) (he : ∀ whole, isTrue e X.env whole = (do let v ← whole; standAt e.pos; holding [v] (truthy v)) := by intro _; rfl) : STs X e (fTst fa) := by
  obtain ⟨t, p, s⟩ := h.ex
  exact ⟨_, pt_val p he, snd_tst s⟩
theorem st_cmp {op : CmpOp} {r : R2} {o : O2} (ho : OpR X (compareOp op) r) (so : SndO2 X.K r o) (ha : SE X a fa) (hb : SE X b fb) (hm : behindInMarks op b = false := by first | exact nobehind _ (by decide) (by decide) | rfl) : STs X (.Compare a [op] [b] pos) (fTst (fOp2 o fa fb)) := by
  obtain ⟨t, p, s⟩ := ha.ex
  obtain ⟨u, p', s'⟩ := hb.ex
  exact ⟨_, pt_cmpR ho p p' hm, snd_tst (snd_op2 so s s')⟩
theorem st_lt (ha : SE X a fa) (hb : SE X b fb) : STs X (.Compare a [.Lt] [b] pos) (fTst (fOp2 oLt fa fb)) := st_cmp op_lt so_bl0 ha hb
theorem st_gt (ha : SE X a fa) (hb : SE X b fb) : STs X (.Compare a [.Gt] [b] pos) (fTst (fOp2 oGt fa fb)) := st_cmp op_gt so_bl0 ha hb
theorem st_ge (ha : SE X a fa) (hb : SE X b fb) : STs X (.Compare a [.GtE] [b] pos) (fTst (fOp2 oGe fa fb)) := st_cmp op_ge so_bl0 ha hb
theorem st_eq {k : Nat} (hr : Room k X.A) (ha : SE X a fa) (hb : SE X b fb) : STs X (.Compare a [.Eq] [b] pos) (fTst (fOp2 oEq fa fb)) := st_cmp (OpR.or op_eq (op_eqD (hu64 hr))) so_eq ha hb
theorem st_ne {k : Nat} (hr : Room k X.A) (ha : SE X a fa) (hb : SE X b fb) : STs X (.Compare a [.NotEq] [b] pos) (fTst (fOp2 oNe fa fb)) := st_cmp (OpR.or op_ne (op_neD (hu64 hr))) so_ne ha hb
theorem st_notN (ha : SE X a fa) (hb : SE X b fb) : STs X (.Compare a [.IsNot] [b] pos) (fTst (fOp2 oNotN fa fb)) := st_cmp op_notN so_notN ha hb
theorem st_of (h : STw X e ga) : STs X e ga := by
  obtain ⟨t, p, s⟩ := h.ex
  exact ⟨t, p.pt, s⟩
theorem st_and1 (ha : STs X a ga) : STw X (.BoolOp .And [a] pos) ga := by
  obtain ⟨t, p, s⟩ := ha.ex
  exact ⟨_, pw_and1 p, s⟩
theorem st_or1 (ha : STs X a ga) : STw X (.BoolOp .Or [a] pos) ga := by
  obtain ⟨t, p, s⟩ := ha.ex
  exact ⟨_, pw_or1 p, s⟩
theorem st_and (ha : STs X a ga) (hb : STw X (.BoolOp .And (b :: rest) pos) gb) : STw X (.BoolOp .And (a :: b :: rest) pos) (fAnd ga gb) := by
  obtain ⟨t, p, s⟩ := ha.ex
  obtain ⟨u, p', s'⟩ := hb.ex
  exact ⟨_, pw_and p p', snd_and s s'⟩
theorem st_or (ha : STs X a ga) (hb : STw X (.BoolOp .Or (b :: rest) pos) gb) : STw X (.BoolOp .Or (a :: b :: rest) pos) (fOr ga gb) := by
  obtain ⟨t, p, s⟩ := ha.ex
  obtain ⟨u, p', s'⟩ := hb.ex
  exact ⟨_, pw_or p p', snd_or s s'⟩
theorem st_not (ha : STs X a ga) : STs X (.UnaryOp .Not a pos) (fNot ga) := by
  obtain ⟨t, p, s⟩ := ha.ex
  exact ⟨_, pt_not p, snd_not s⟩
theorem se_one {op} (ha : SE X a fa) : SE X (.BoolOp op [a] pos) fa := by
  obtain ⟨t, p, s⟩ := ha.ex
  exact ⟨_, pe_one p, s⟩
theorem se_and (ha : SE X a fa) (hb : SE X (.BoolOp .And (b :: rest) pos) fb) : SE X (.BoolOp .And (a :: b :: rest) pos) (fAndV fa fb) := by
  obtain ⟨t, p, s⟩ := ha.ex
  obtain ⟨u, p', s'⟩ := hb.ex
  exact ⟨_, pe_and p p', snd_andV s s'⟩
theorem se_not (ha : SE X a fa) : SE X (.UnaryOp .Not a pos) (fNotV fa) := by
  obtain ⟨t, p, s⟩ := ha.ex
  exact ⟨_, pe_not p, snd_notV s⟩
theorem se_if {c : Expr} {gc : FT} (hc : STs X c gc) (ha : SE X a fa) (hb : SE X b fb) : SE X (.IfExp c a b pos) (fIf gc fa fb) := by
  obtain ⟨r, p0, s0⟩ := hc.ex
  obtain ⟨t, p, s⟩ := ha.ex
  obtain ⟨u, p', s'⟩ := hb.ex
  exact ⟨_, pe_ifExp p0 p p', snd_if s0 s s'⟩
end
end Pv

/-! Pv4: displays, subscripts, slices, built-in calls. -/
namespace Pv
open PySem PySem.Spec PyProof.Rows L2

/-! ### [..], (..) -/
def dsOf (rs : List Res) : List D := rs.map Res.d
def noB : List Res → Prop
  | [] => True
  | .v _ _ :: rs => noB rs
  | .b _ _ _ :: _ => False
def oLst : ON := fun rs R => (noB rs ∧ rs.length ≤ sizeLine) ∧ R 1 (.list (dsOf rs))
def oTup : ON := fun rs R => (noB rs ∧ rs.length ≤ sizeLine) ∧ R 0 (.tuple (dsOf rs))
section
variable {K : Fg} {X : Cx} {ω : Om} {H : Hp}
theorem VwAll.rp : ∀ {vs : List V} {rs : List Res}, VwAll K ω H vs rs → noB rs → RpAll K ω H vs (dsOf rs)
  | [], [], _, _ => .nil
  | [], _ :: _, h, _ => h.elim
  | _ :: _, [], h, _ => h.elim
  | _ :: _, .v k d :: _, h, n => .cons h.1 (VwAll.rp h.2 n)
  | _ :: _, .b _ _ _ :: _, _, n => n.elim
theorem VwAll.length : ∀ {vs : List V} {rs : List Res}, VwAll K ω H vs rs → vs.length = rs.length
  | [], [], _ => rfl
  | [], _ :: _, h => h.elim
  | _ :: _, [], h => h.elim
  | _ :: vs, _ :: rs, h => by rw [List.length_cons, List.length_cons, VwAll.length h.2]
theorem so_lst : SndON K (fun xs H Q => xs.length ≤ sizeLine ∧ ∀ p, H p = none → Q (.ref p) (upd H p (.lst xs))) oLst := by
  intro ω T H xs rs R Q fr va h q
  exact ⟨by rw [va.length]; exact h.1.2, fun p hp => q.lst fr hp (va.rp h.1.1) h.2⟩
theorem so_tup : SndON K (fun xs H Q => xs.length ≤ sizeLine ∧ ∀ p, H p = none → Q (.ref p) (upd H p (.tup xs))) oTup := by
  intro ω T H xs rs R Q fr va h q
  exact ⟨by rw [va.length]; exact h.1.2, fun p hp => q.tup fr hp (va.rp h.1.1) h.2⟩
variable {es : List Expr} {fa : FA} {pos : Pos}
theorem se_lst (ha : SA X es fa) : SE X (.List es pos) (fOpN oLst fa) := by
  obtain ⟨t, p, s⟩ := ha.ex
  exact ⟨_, pe_lst p, snd_opN so_lst s⟩
theorem se_tup {k} (ha : SA X es fa) : SE X (.Tuple es k pos) (fOpN oTup fa) := by
  obtain ⟨t, p, s⟩ := ha.ex
  exact ⟨_, pe_tup p, snd_opN so_tup s⟩
end

/-! ### built-in functions by name -/
def at1 (o : O1) : ON := fun rs R => match rs with
  | [r] => o r R
  | _ => False
def at2 (o : O2) : ON := fun rs R => match rs with
  | [r, r'] => o r r' R
  | _ => False
section
variable {K : Fg}
theorem so_at1 {r : V → Hp → VK → Prop} {o : O1} (h : SndO1 K r o) : SndON K (fun xs H Q => ∃ x, xs = [x] ∧ r x H Q) (at1 o) := by
  intro ω T H xs rs R Q fr va h' q
  match xs, rs, va, h' with
  | [x], [r1], va, h' => exact ⟨x, rfl, h ω T H x r1 R Q fr va.1 h' q⟩
  | [], [_], va, _ => exact va.elim
  | _ :: _ :: _, [_], va, _ => exact va.2.elim
theorem so_at2 {r : R2} {o : O2} (h : SndO2 K r o) : SndON K (fun xs H Q => ∃ x y, xs = [x, y] ∧ r x y H Q) (at2 o) := by
  intro ω T H xs rs R Q fr va h' q
  match xs, rs, va, h' with
  | [x, y], [r1, r2], va, h' => exact ⟨x, y, rfl, h ω T H x y r1 r2 R Q fr va.1 va.2.1 h' q⟩
  | [], [_, _], va, _ => exact va.elim
  | [_], [_, _], va, _ => exact va.2.elim
  | _ :: _ :: _ :: _, [_, _], va, _ => exact va.2.2.elim
end
section
variable {X : Cx} {e : Expr} {es : List Expr} {fa : FA} {x : Str} {p pos : Pos}
theorem se_callB {id : String} {r : List V → Hp → VK → Prop} {o : ON} (hc : CallR X (.builtin id) r) (so : SndON X.K r o) (hv : bootBuiltins x = some (.builtin id)) (hm : X.mg x = none) (ha : SA X (e :: es) fa) (hg : Gl X x := by rfl) (hn : x ≠ "__name__" := by decide) (hdb : (x == ("__debug__" : Str)) = false := by decide)
    (he : starEach (e :: es) X.env = (false, eval e X.env) :: starEach es X.env := by rfl) (hpl : (backTo pos (starEach es X.env)).any (·.1) = false := by rfl) : SE X (.Call (.Name x p) (e :: es) [] pos) (fOpN o fa) := by
  obtain ⟨t, q, s⟩ := ha.ex
  exact ⟨_, pe_callB hc hg hm hv q hn hdb he hpl, snd_opN so s⟩
theorem se_callTy {id : String} {r : List V → Hp → VK → Prop} {o : ON} (hc : CallR X (.type id) r) (so : SndON X.K r o) (hv : bootBuiltins x = some (.type id)) (hm : X.mg x = none) (ha : SA X (e :: es) fa) (hg : Gl X x := by rfl) (hn : x ≠ "__name__" := by decide) (hdb : (x == ("__debug__" : Str)) = false := by decide)
    (he : starEach (e :: es) X.env = (false, eval e X.env) :: starEach es X.env := by rfl) (hpl : (backTo pos (starEach es X.env)).any (·.1) = false := by rfl) : SE X (.Call (.Name x p) (e :: es) [] pos) (fOpN o fa) := by
  obtain ⟨t, q, s⟩ := ha.ex
  exact ⟨_, pe_callTy hc hg hm hv q hn hdb he hpl, snd_opN so s⟩
theorem cimp {u : Value} {r r' : List V → Hp → VK → Prop} (h : CallR X u r) (hi : ∀ xs H Q, r' xs H Q → r xs H Q) : CallR X u r' := fun pins s σ H xs us Q I rv q => h pins s σ H xs us Q I rv (hi _ _ _ q)
end

/-! ### len, list, tuple -/
theorem Rp.dict_ {K : Fg} {ω : Om} {H : Hp} {v : V} {kvs : List (D × D)} (hk : isScr kvs = true) (h : Rp K ω H v (.dict kvs)) : ∃ (a : Addr) (ns : List Int), v = .ref a ∧ kvs = (ns.map fun n => (PyData.none, PyData.int n)) ∧ SqL K H a (ns.map V.int) := by
  generalize e : PyData.dict kvs = d at h
  cases h with
  | scr hs => exact ⟨_, _, rfl, PyData.dict.inj e, hs.seq⟩
  | dct _ _ _ =>
    have e2 := congrArg isScr (PyData.dict.inj e)
    rw [hk] at e2
    cases e2
  | _ => first | (cases e; done) | (cases e; cases hk)
theorem Vw.dict {K : Fg} {ω : Om} {H : Hp} {v : V} {r : Res} (h : Vw K ω H v r) {kvs : List (D × D)} (hk : isScr kvs = true) (e : r.d = .dict kvs) : ∃ (a : Addr) (ns : List Int), v = .ref a ∧ kvs = (ns.map fun n => (PyData.none, PyData.int n)) ∧ SqL K H a (ns.map V.int) := by
  cases r with
  | v k d =>
    have e' : d = .dict kvs := e
    have h' : Rp K ω H v d := h
    rw [e'] at h'; exact h'.dict_ hk
  | b j k d =>
    have e' : d = .dict kvs := e
    have h' : OwR K ω H k (Ow.own j) [] v d := h
    rw [e'] at h'
    cases k with
    | zero => exact Rp.dict_ hk h'
    | succ k =>
      rcases h' with ⟨_, h'⟩ | ⟨_, _, _, _, e2, _⟩ | ⟨_, _, _, _, e2, _⟩ | ⟨_, _, _, _, _, _, _, e2, _⟩ | ⟨_, _, _, _, e2, _⟩
      · exact Rp.dict_ hk h'
      · first | (cases e2; done) | (cases e2; cases hk)
      · have e3 := congrArg isScr (PyData.dict.inj e2)
        rw [hk] at e3
        cases e3
      · first | (cases e2; done) | (cases e2; cases hk)
      · have e3 := congrArg isScr (PyData.dict.inj e2)
        rw [hk] at e3
        cases e3
/-- a list or a tuple, as it is read -/
theorem Vw.seqL {K : Fg} {ω : Om} {H : Hp} {v : V} {r : Res} (h : Vw K ω H v r) {ds : List D} (e : r.d = .list ds) : ∃ a vs, v = .ref a ∧ SqL K H a vs ∧ vs.length = ds.length := by
  cases r with
  | v k d =>
    have e' : d = .list ds := e
    have h' : Rp K ω H v d := h
    rw [e'] at h'
    cases h' with
    | lst hs ha => exact ⟨_, _, rfl, hs.seq, ha.length⟩
  | b j k d =>
    have e' : d = .list ds := e
    have h' : OwR K ω H k (Ow.own j) [] v d := h
    rw [e'] at h'
    cases k with
    | zero =>
      have h2 : Rp K ω H v (.list ds) := h'
      cases h2 with
      | lst hs ha => exact ⟨_, _, rfl, hs.seq, ha.length⟩
    | succ k =>
      rcases h' with ⟨z, _⟩ | ⟨a, vs, ds', e1, e2, h1, _, el, hc⟩ | ⟨_, _, _, _, e2, _⟩ | ⟨_, _, _, _, _, _, _, e2, _⟩ | ⟨_, _, _, _, e2, _⟩
      · cases z
      · cases e2
        exact ⟨a, vs, e1, .inl (.inl h1), el⟩
      · cases e2
      · cases e2
      · first | (cases e2; done) | exact (dct_not_otp e2).elim | exact (dct_not_otp e2.symm).elim | exact (ins_not_otp e2.symm).elim | exact (ins_not_otp e2).elim | exact (exc_not_otp e2).elim | (subst e2; cases f; done)
def dLen (R : KC) : D → Prop
  | .list xs => R 0 (.int xs.length)
  | .tuple xs => R 0 (.int xs.length)
  | .dict kvs => isScr kvs = true ∧ R 0 (.int kvs.length)
  | .str x => x.length ≤ sizeLine ∧ R 0 (.int x.length)
  | _ => False
def oLen : O1 := fun r R => dLen R r.d
def dList (f : Prop) (R : KC) : D → Prop
  | .list xs => f ∧ R 1 (.list xs)
  | .tuple xs => R 1 (.list xs)
  | _ => False
def oList : O1 := fun r R => dList (flat r) R r.d
def dTuple (f : Prop) (R : KC) : D → Prop
  | .list xs => f ∧ R 0 (.tuple xs)
  | .tuple xs => R 0 (.tuple xs)
  | _ => False
def oTuple : O1 := fun r R => dTuple (flat r) R r.d
def rLenA (K : Fg) : V → Hp → VK → Prop := fun x H Q => (∃ p ys, x = .ref p ∧ (SqL K H p ys ∨ SqT K H p ys) ∧ Q (.int ys.length) H) ∨ (∃ z, x = .str z ∧ z.length ≤ sizeLine ∧ Q (.int z.length) H)
def rListA (K : Fg) : V → Hp → VK → Prop := fun x H Q => ∃ p ys, x = .ref p ∧ (SqL K H p ys ∨ SqT K H p ys) ∧ ∀ l, H l = none → Q (.ref l) (upd H l (.lst ys))
def rTupleA (K : Fg) : V → Hp → VK → Prop := fun x H Q => ∃ p ys, x = .ref p ∧ ((SqL K H p ys ∧ ∀ l, H l = none → Q (.ref l) (upd H l (.tup ys))) ∨ (SqT K H p ys ∧ Q (.ref p) H))
section
variable {X : Cx} {K : Fg}
theorem so_len : SndO1 K (rLenA K) oLen := by
  intro ω T H x r1 R Q fr v1 h q
  have h' : dLen R r1.d := h
  generalize e1 : r1.d = d1 at h'
  cases d1 <;> first
    | exact h'.elim
    | skip
  · exact .inr ⟨_, v1.str e1, h'.1, q.int fr h'.2⟩
  · obtain ⟨a, vs, rfl, hs, hl⟩ := v1.seqL e1
    exact .inl ⟨a, vs, rfl, .inl hs, by rw [hl]; exact q.int fr h'⟩
  · obtain ⟨a, vs, rfl, hs, ha⟩ := v1.tup e1
    exact .inl ⟨a, vs, rfl, .inr hs, by rw [ha.length]; exact q.int fr h'⟩
  · obtain ⟨a, ns, rfl, e, hs⟩ := v1.dict h'.1 e1
    refine .inl ⟨a, _, rfl, .inl hs, ?_⟩
    subst e
    have h2 : R 0 (.int ((ns.map fun n => (PyData.none, PyData.int n)).length : Nat)) := h'.2
    rw [List.length_map] at h2 ⊢
    exact q.int fr h2
theorem so_list : SndO1 K (rListA K) oList := by
  intro ω T H x r1 R Q fr v1 h q
  have h' : dList (flat r1) R r1.d := h
  generalize e1 : r1.d = d1 at h'
  cases d1 <;> first
    | exact h'.elim
    | skip
  · obtain ⟨a, vs, rfl, hs, ha⟩ := v1.lst h'.1 e1
    exact ⟨a, vs, rfl, .inl (.inl (.inl hs)), fun l hl => q.lst fr hl ha h'.2⟩
  · obtain ⟨a, vs, rfl, hs, ha⟩ := v1.tup e1
    exact ⟨a, vs, rfl, .inr hs, fun l hl => q.lst fr hl ha h'⟩
theorem so_tuple : SndO1 K (rTupleA K) oTuple := by
  intro ω T H x r1 R Q fr v1 h q
  have h' : dTuple (flat r1) R r1.d := h
  generalize e1 : r1.d = d1 at h'
  cases d1 <;> first
    | exact h'.elim
    | skip
  · obtain ⟨a, vs, rfl, hs, ha⟩ := v1.lst h'.1 e1
    exact ⟨a, vs, rfl, .inl ⟨.inl (.inl hs), fun l hl => q.tup fr hl ha h'.2⟩⟩
  · have w := v1.rpT e1
    obtain ⟨a, vs, rfl, hs, ha⟩ := v1.tup e1
    exact ⟨a, vs, rfl, .inr ⟨hs, q.same fr w h'⟩⟩
theorem cr_lenA : CallR X (.builtin "len") (fun xs H Q => ∃ x, xs = [x] ∧ rLenA X.K x H Q) := cimp (CallR.or call_len_seq call_len_str) fun xs H Q ⟨x, e, h⟩ => by
  subst e
  rcases h with ⟨p, ys, rfl, h⟩ | ⟨z, rfl, h⟩
  · exact .inl ⟨p, ys, rfl, h⟩
  · exact .inr ⟨z, rfl, h⟩
theorem cr_listA : CallR X (.type "list") (fun xs H Q => ∃ x, xs = [x] ∧ rListA X.K x H Q) := cimp call_list_of fun xs H Q ⟨x, e, p, ys, e2, h⟩ => ⟨p, ys, by rw [e, e2], h⟩
theorem cr_tupleA : CallR X (.type "tuple") (fun xs H Q => ∃ x, xs = [x] ∧ rTupleA X.K x H Q) := cimp call_tuple_of fun xs H Q ⟨x, e, p, ys, e2, h⟩ => ⟨p, ys, by rw [e, e2], h⟩
variable {e : Expr} {es : List Expr} {fa : FA} {p pos : Pos}
theorem se_len (hm : X.mg "len" = none) (ha : SA X [e] fa) (hg : Gl X "len" := by rfl)
    (he : starEach [e] X.env = [(false, eval e X.env)] := by rfl) : SE X (.Call (.Name "len" p) [e] [] pos) (fOpN (at1 oLen) fa) := se_callB cr_lenA (so_at1 so_len) PySem.boot_len hm ha hg (by decide) (by decide) he rfl
theorem se_list (hm : X.mg "list" = none) (ha : SA X [e] fa) (hg : Gl X "list" := by rfl)
    (he : starEach [e] X.env = [(false, eval e X.env)] := by rfl) : SE X (.Call (.Name "list" p) [e] [] pos) (fOpN (at1 oList) fa) := se_callTy cr_listA (so_at1 so_list) (by decide +kernel) hm ha hg (by decide) (by decide) he rfl
theorem se_tuple (hm : X.mg "tuple" = none) (ha : SA X [e] fa) (hg : Gl X "tuple" := by rfl)
    (he : starEach [e] X.env = [(false, eval e X.env)] := by rfl) : SE X (.Call (.Name "tuple" p) [e] [] pos) (fOpN (at1 oTuple) fa) := se_callTy cr_tupleA (so_at1 so_tuple) (by decide +kernel) hm ha hg (by decide) (by decide) he rfl
end

/-! ### abs, int, min, max of two, str of an int, sums, all, any -/
def dAbs (R : KC) : D → Prop
  | .int i => R 0 (.int (i.natAbs : Int))
  | _ => False
def oAbs : O1 := fun r R => dAbs R r.d
def dToInt (R : KC) : D → Prop
  | .int i => R 0 (.int i)
  | .bool b => R 0 (.int (if b then 1 else 0))
  | _ => False
def oToInt : O1 := fun r R => dToInt R r.d
def oMax2 : O2 := fun r1 r2 R => dInt0 (fun i j => .int (max i j)) R r1.d r2.d
def oMin2 : O2 := fun r1 r2 R => dInt0 (fun i j => .int (min i j)) R r1.d r2.d
def dStr (R : KC) : D → Prop
  | .int i => i.natAbs.log2 < 1920 ∧ R 0 (.str (toString i))
  | _ => False
def oStr : O1 := fun r R => dStr R r.d
section
variable {X : Cx} {K : Fg}
theorem so_abs : SndO1 K (fun x H Q => ∃ i, x = .int i ∧ Q (.int (if i < 0 then -i else i)) H) oAbs := by
  intro ω T H x r1 R Q fr v1 h q
  have h' : dAbs R r1.d := h
  generalize e1 : r1.d = d1 at h'
  cases d1 <;> first
    | exact h'.elim
    | skip
  rename_i i
  refine ⟨i, v1.int e1, ?_⟩
  have e : (if i < 0 then -i else i) = (i.natAbs : Int) := by split <;> omega
  rw [e]
  exact q.int fr h'
theorem so_toInt : SndO1 K (fun x H Q => (∃ i, x = .int i ∧ Q (.int i) H) ∨ ∃ k, x = .bl k ∧ Q (.int (if k then 1 else 0)) H) oToInt := by
  intro ω T H x r1 R Q fr v1 h q
  have h' : dToInt R r1.d := h
  generalize e1 : r1.d = d1 at h'
  cases d1 <;> first
    | exact h'.elim
    | skip
  · exact .inr ⟨_, v1.bl e1, q.int fr h'⟩
  · exact .inl ⟨_, v1.int e1, q.int fr h'⟩
theorem so_max2 : SndO2 K (fun x y H Q => ∃ i j, x = .int i ∧ y = .int j ∧ Q (.int (if j > i then j else i)) H) oMax2 := by
  intro ω T H x y r1 r2 R Q fr v1 v2 h q
  obtain ⟨i, j, e1, e2, hR⟩ := dInt0_ex h
  refine ⟨i, j, v1.int e1, v2.int e2, ?_⟩
  have e : (if j > i then j else i) = max i j := by split <;> omega
  rw [e]
  exact q.int fr hR
theorem so_min2 : SndO2 K (fun x y H Q => ∃ i j, x = .int i ∧ y = .int j ∧ Q (.int (if j < i then j else i)) H) oMin2 := by
  intro ω T H x y r1 r2 R Q fr v1 v2 h q
  obtain ⟨i, j, e1, e2, hR⟩ := dInt0_ex h
  refine ⟨i, j, v1.int e1, v2.int e2, ?_⟩
  have e : (if j < i then j else i) = min i j := by split <;> omega
  rw [e]
  exact q.int fr hR
variable {e e2 : Expr} {fa : FA} {p pos : Pos}
theorem se_abs (hm : X.mg "abs" = none) (ha : SA X [e] fa) (hg : Gl X "abs" := by rfl) (he : starEach [e] X.env = [(false, eval e X.env)] := by rfl) : SE X (.Call (.Name "abs" p) [e] [] pos) (fOpN (at1 oAbs) fa) :=
  se_callB (cimp call_abs fun xs H Q ⟨x, e, i, e2, h⟩ => ⟨i, by rw [e, e2], h⟩) (so_at1 so_abs) (id := "abs") (by decide +kernel) hm ha hg (by decide) (by decide) he rfl
theorem se_toInt (hm : X.mg "int" = none) (ha : SA X [e] fa) (hg : Gl X "int" := by rfl) (he : starEach [e] X.env = [(false, eval e X.env)] := by rfl) : SE X (.Call (.Name "int" p) [e] [] pos) (fOpN (at1 oToInt) fa) :=
  se_callTy (cimp call_int1 fun xs H Q ⟨x, e, h⟩ => by
    subst e
    rcases h with ⟨i, rfl, h⟩ | ⟨i, rfl, h⟩
    · exact .inl ⟨i, rfl, h⟩
    · exact .inr ⟨i, rfl, h⟩) (so_at1 so_toInt) (id := "int") (by decide +kernel) hm ha hg (by decide) (by decide) he rfl
theorem se_max2 (hc : X.calm = true) (hm : X.mg "max" = none) (ha : SA X [e, e2] fa) (hg : Gl X "max" := by rfl) (he : starEach [e, e2] X.env = (false, eval e X.env) :: starEach [e2] X.env := by rfl) (hpl : (backTo pos (starEach [e2] X.env)).any (·.1) = false := by rfl) : SE X (.Call (.Name "max" p) [e, e2] [] pos) (fOpN (at2 oMax2) fa) :=
  se_callB (cimp (call_max2 hc) fun xs H Q ⟨x, y, e, i, j, e1, e2, h⟩ => ⟨i, j, by rw [e, e1, e2], h⟩) (so_at2 so_max2) (id := "max") (by decide +kernel) hm ha hg (by decide) (by decide) he hpl
theorem se_min2 (hc : X.calm = true) (hm : X.mg "min" = none) (ha : SA X [e, e2] fa) (hg : Gl X "min" := by rfl) (he : starEach [e, e2] X.env = (false, eval e X.env) :: starEach [e2] X.env := by rfl) (hpl : (backTo pos (starEach [e2] X.env)).any (·.1) = false := by rfl) : SE X (.Call (.Name "min" p) [e, e2] [] pos) (fOpN (at2 oMin2) fa) :=
  se_callB (cimp (call_min2 hc) fun xs H Q ⟨x, y, e, i, j, e1, e2, h⟩ => ⟨i, j, by rw [e, e1, e2], h⟩) (so_at2 so_min2) (id := "min") (by decide +kernel) hm ha hg (by decide) (by decide) he hpl
end

/-! ### x[i] -/
def ix {α : Type} (xs : List α) (i : Int) : Option α := if 0 ≤ i then xs[i.toNat]? else if -(xs.length : Int) ≤ i then xs[(i + xs.length).toNat]? else none
theorem atI_ix {α : Type} {xs : List α} {i : Int} {v : α} (h : ix xs i = some v) : ∃ j, ixN xs.length i = some j ∧ xs[j]? = some v := by
  unfold ix at h
  unfold ixN
  by_cases h0 : 0 ≤ i
  · rw [if_pos h0] at h ⊢
    have := (List.getElem?_eq_some_iff.mp h).1
    exact ⟨i.toNat, by rw [if_pos (by omega)], h⟩
  · rw [if_neg h0] at h ⊢
    by_cases h1 : -(xs.length : Int) ≤ i
    · rw [if_pos h1] at h ⊢
      exact ⟨_, rfl, h⟩
    · rw [if_neg h1] at h; cases h
def pick (R : KC) : Option D → Prop
  | some d => R 0 d
  | none => False
def pickI (R : KC) : Option (D × D) → Prop
  | some (_, d) => R 0 d
  | none => False
def pickC (R : KC) : Option Nat → Prop
  | some c => R 0 (.str ⟨#[c]⟩)
  | none => False
def dIx (f : Prop) (R : KC) : D → D → Prop
  | .list xs, .int i => f ∧ pick R (ix xs i)
  | .tuple xs, .int i => pick R (ix xs i)
  | .str x, .int i => x.length ≤ sizeLine ∧ pickC R (ix x.cps.toList i)
  | .dict kvs, .int i => isScr kvs = true ∧ pickI R (ix kvs i)
  | _, _ => False
def oIx : O2 := fun r1 r2 R => dIx (flat r1) R r1.d r2.d
section
variable {X : Cx} {K : Fg} {a b : Expr} {fa fb : FE} {pos : Pos}
theorem pick_ex {R : KC} {o : Option D} (h : pick R o) : ∃ d, o = some d ∧ R 0 d := by
  cases o with
  | none => exact h.elim
  | some d => exact ⟨d, rfl, h⟩
theorem atI_some {α : Type} {xs : List α} {i : Int} {j : Nat} {v : α} (h : ixN xs.length i = some j) (e : xs[j]? = some v) : atI xs i = some v := by
  unfold atI; rw [h]; exact e
theorem so_ix : SndO2 X.K (rIx X.K) oIx := by
  intro ω T H x y r1 r2 R Q fr v1 v2 h q
  have h' : dIx (flat r1) R r1.d r2.d := h
  generalize e1 : r1.d = d1 at h'
  generalize e2 : r2.d = d2 at h'
  cases d1 <;> cases d2 <;> first
    | exact h'.elim
    | skip
  · obtain ⟨hz, h'⟩ := h'
    rename_i z i
    cases ho : ix z.cps.toList i with
    | none => rw [ho] at h'; exact h'.elim
    | some c =>
      rw [ho] at h'
      obtain ⟨j, hj, he⟩ := atI_ix ho
      exact .inr (.inr ⟨z, i, c, v1.str e1, v2.int e2, hz, atI_some hj he, q.str fr h'⟩)
  · obtain ⟨f, h'⟩ := h'
    obtain ⟨a, vs, rfl, hs, ha⟩ := v1.lst f e1
    obtain ⟨d, hd, hR⟩ := pick_ex h'
    obtain ⟨j, hj, he⟩ := atI_ix hd
    obtain ⟨w, hw, rw_⟩ := ha.at_ he
    rw [← ha.length] at hj
    exact .inl ⟨a, vs, _, w, rfl, v2.int e2, .inl (.inl hs), atI_some hj hw, q.same fr rw_ hR⟩
  · obtain ⟨a, vs, rfl, hs, ha⟩ := v1.tup e1
    obtain ⟨d, hd, hR⟩ := pick_ex h'
    obtain ⟨j, hj, he⟩ := atI_ix hd
    obtain ⟨w, hw, rw_⟩ := ha.at_ he
    rw [← ha.length] at hj
    exact .inr (.inl ⟨a, vs, _, w, rfl, v2.int e2, hs, atI_some hj hw, q.same fr rw_ hR⟩)
  · obtain ⟨a, ns, rfl, e, hs⟩ := v1.dict h'.1 e1
    subst e
    rename_i i
    have h2 : pickI R (ix (ns.map fun n => (PyData.none, PyData.int n)) i) := h'.2
    cases ho : ix (ns.map fun n => (PyData.none, PyData.int n)) i with
    | none => rw [ho] at h2; exact h2.elim
    | some c =>
      rw [ho] at h2
      obtain ⟨j, hj, he⟩ := atI_ix ho
      rw [List.getElem?_map] at he
      cases hn : ns[j]? with
      | none => rw [hn] at he; cases he
      | some n =>
        rw [hn] at he
        have he' := Option.some.inj he
        subst he'
        rw [List.length_map] at hj
        refine .inl ⟨a, ns.map V.int, i, .int n, rfl, v2.int e2, hs, atI_some (j := j) (by rw [List.length_map]; exact hj) (by rw [List.getElem?_map, hn]; rfl), q.int fr h2⟩
theorem se_ix (ha : SE X a fa) (hb : SE X b fb) (hs : PlainIx b := by exact fun _ _ => rfl) : SE X (.Subscript a b pos) (fOp2 oIx fa fb) := by
  obtain ⟨t, p, s⟩ := ha.ex
  obtain ⟨u, p', s'⟩ := hb.ex
  exact ⟨_, pe_ix ix_seq p p' hs, snd_op2 so_ix s s'⟩
end

/-! ### x[lo:hi] -/
def FO := Env → (Option Int → Env → Prop) → Prop
def SndP (K : Fg) (t : TO) (f : FO) : Prop := ∀ (ω : Om) (T : Nat) (env : Env) (σ : Sg) (H : Hp) (R : Option Int → Env → Prop) (Q : Option Int → Hp → Prop), Rel K ω env σ H → Free ω T → f env R →
  (∀ o H' ω' env', Rel K ω' env' σ H' → Step ω H ω' H' → Free ω' T → R o env' → Q o H') → t σ H Q
structure SP_ (X : Cx) (e : Option Expr) (f : FO) : Prop where
  ex : ∃ t : TO, PO X e t ∧ SndP X.K t f
def fNoPart : FO := fun env R => R none env
def dI (R : Int → Prop) : D → Prop
  | .int i => R i
  | _ => False
def fPart (fa : FE) : FO := fun env R => fa env fun r e => dI (fun i => R (some i) e) r.d
theorem dI_ex {R : Int → Prop} {d : D} (h : dI R d) : ∃ i, d = .int i ∧ R i := by
  cases d <;> first
    | exact h.elim
    | exact ⟨_, rfl, h⟩
theorem ResR.int_ {K : Fg} {ω : Om} {H : Hp} {σ : Sg} {env : Env} {T : Nat} {v : V} {r : Res} {b : Int} (R : Rel K ω env σ H) (h : ResR K ω H σ env T v r) (e : r.d = .int b) : v = .int b := Vw.int (h.gc R (Nat.le_refl _)) e
section
variable {X : Cx} {K : Fg} {e : Expr} {fa : FE}
theorem sp_none : SP_ X none fNoPart := ⟨_, po_none, fun ω T env σ H R Q rel fr hR q => q none H ω env rel Step.refl fr hR⟩
theorem sp_some (ha : SE X e fa) : SP_ X (some e) (fPart fa) := by
  obtain ⟨t, p, s⟩ := ha.ex
  refine ⟨_, po_some p, fun ω T env σ H R Q rel fr hR q => ?_⟩
  refine s ω T env σ H _ _ rel fr hR fun v H1 ω1 e1 r rel1 st1 fr1 rr1 h1 => ?_
  obtain ⟨i, ei, hi⟩ := dI_ex h1
  exact ⟨i, rr1.int_ rel1 ei, q (some i) H1 (gc T ω1) e1 (rel1.gc T) (st1.gc fr) gc_free hi⟩
/-- what is cut out -/
def cut {α : Type} (xs : List α) (lo hi : Option Int) : List α := (xs.drop (HT.sIx xs.length 0 lo)).take (HT.sIx xs.length xs.length hi - HT.sIx xs.length 0 lo)
def dSl (f : Prop) (lo hi : Option Int) (R : KC) : D → Prop
  | .list xs => f ∧ R 1 (.list (cut xs lo hi))
  | .tuple xs => R 0 (.tuple (cut xs lo hi))
  | .str x => x.length ≤ sizeLine ∧ R 0 (.str (cutS x lo hi))
  | _ => False
def oSl (r : Res) (lo hi : Option Int) (R : KC) : Prop := dSl (flat r) lo hi R r.d
def oSlA (lo hi : Option Int) : O1 := fun r R => oSl r lo hi R
def fSl (fa : FE) (fl fh : FO) : FE := fun env R => fa env fun r e1 => fl e1 fun lo e2 => fh e2 fun hi e3 => okb e3 r ∧ ap1 (oSlA lo hi) r fun k d => R (.v k d) e3
def rSlAll (K : Fg) : V → Option Int → Option Int → Hp → VK → Prop := fun x lo hi H Q => (rSlL K x lo hi H Q ∨ L2.rSlA K x lo hi H Q) ∨ rSlS x lo hi H Q
theorem cut_rp {ω : Om} {H : Hp} {vs : List V} {ds : List D} (h : RpAll K ω H vs ds) (lo hi : Option Int) : RpAll K ω H (cutV vs lo hi) (cut ds lo hi) := by
  unfold cutV cut
  rw [h.length]
  exact RpAll.take _ (RpAll.drop _ h)
theorem so_sl {ω : Om} {T : Nat} {H : Hp} {x : V} {r1 : Res} {lo hi : Option Int} {R : KC} {Q : VK} (fr : Free ω T) (v1 : Vw K ω H x r1) (h : oSl r1 lo hi R) (q : Out K ω T H R Q) : rSlAll K x lo hi H Q := by
  have h' : dSl (flat r1) lo hi R r1.d := h
  generalize e1 : r1.d = d1 at h'
  cases d1 <;> first
    | exact h'.elim
    | skip
  · exact .inr ⟨_, v1.str e1, h'.1, q.str fr h'.2⟩
  · obtain ⟨a, vs, rfl, hs, ha⟩ := v1.lst h'.1 e1
    exact .inl (.inl ⟨a, vs, rfl, .inl (.inl hs), fun p hp => q.lst fr hp (cut_rp ha lo hi) h'.2⟩)
  · have w := v1.rpT e1
    rename_i ds
    obtain ⟨a, vs, rfl, hs, ha⟩ := v1.tup e1
    refine .inl (.inr ⟨a, vs, rfl, hs, fun z => ?_, fun z p hp => q.tup fr hp (cut_rp ha lo hi) h'⟩)
    have e : cut ds lo hi = ds := by
      unfold cut
      rw [← ha.length, z.1, z.2, List.drop_zero, Nat.sub_zero, ha.length]
      exact List.take_length
    have h2 : R 0 (.tuple (cut ds lo hi)) := h'
    rw [e] at h2
    exact q.same fr w h2
theorem snd_sl {ta : TE} {tl th : TO} {fl fh : FO} (ha : SndE K ta fa) (hl : SndP K tl fl) (hh : SndP K th fh) : SndE K (tSl (rSlAll K) ta tl th) (fSl fa fl fh) := by
  intro ω T env σ H R Q rel fre hR q
  refine ha ω T env σ H _ _ rel fre hR fun x H1 ω1 e1 r rel1 st1 fr1 rr1 h1 => ?_
  refine hl ω1 (T + 1) e1 σ H1 _ _ rel1 fr1 h1 fun lo H2 ω2 e2 rel2 st2 fr2 h2 => ?_
  refine hh ω2 (T + 1) e2 σ H2 _ _ rel2 fr2 h2 fun hi H3 ω3 e3 rel3 st3 fr3 h3 => ?_
  have st : Step ω1 H1 ω3 H3 := st2.trans st3
  have rr : ResR K ω3 H3 σ e3 T x r := by
    cases r with
    | v k d => exact ResR.step (T' := T) rr1 st
    | b i k d => exact ⟨h3.1, rr1.2⟩
  exact so_sl gc_free (rr.gc rel3 (Nat.le_refl _)) (ap1_cl h3.2) (out_of (rel3.gc T) ((st1.trans st).gc fre) q)
theorem se_sl {lo hi : Option Expr} {fl fh : FO} {pos p2 : Pos} (ha : SE X e fa) (hl : SP_ X lo fl) (hh : SP_ X hi fh) : SE X (.Subscript e (.Slice lo hi none p2) pos) (fSl fa fl fh) := by
  obtain ⟨t, p, s⟩ := ha.ex
  obtain ⟨t1, p1, s1⟩ := hl.ex
  obtain ⟨t2, p2, s2⟩ := hh.ex
  exact ⟨_, pe_slice (SlR.or (SlR.or sl_list sl_tupA) sl_str) p p1 p2, snd_sl s s1 s2⟩
end

/-! ### x[::step], step 1 or -1 -/
end Pv

/-! Pv5: x[::step], step 1 or -1, of a list or a tuple. -/
namespace Pv
open PySem PySem.Spec PyProof.Rows L2 HT
section
variable {prog : Program} {w : World} {A : Around} {E : Value → Shared → Prop} {s : Shared}
theorem sliceApplied_neg {sl : Addr} {t : Tok} {n : Nat} {Q : Int × Int × Nat → Shared → Prop} (hs : s.heap.IsSliceOf sl .none .none (.int (-1) t))
    (h : Q ((n : Int) - 1, -1, n) s) : wpAny (model prog w) A (Builtin.Slice.sliceApplied (.ref sl) (pure (n : Int))) Q E s := by
  obtain ⟨os, hos, hcs, hds⟩ := id hs
  unfold Builtin.Slice.sliceApplied Builtin.Slice.sliceFields
  refine wpAny_bind (wpAny_bind (wpAny_field hos hds (x := .none) rfl (wpAny_bind (wpAny_field hos hds (x := .none) rfl (wpAny_bind (wpAny_field hos hds (x := .int (-1) t) rfl (wpAny_pure ?_)))))))
  refine wpAny_bind (slicePart_int ?_)
  show wpAny _ _ (if ((-1 : Int) == 0) = true then _ else _) _ _ s
  rw [if_neg (by decide)]
  refine wpAny_bind (slicePart_none (wpAny_bind (slicePart_none (wpAny_bind (wpAny_pure ?_)))))
  have e1 : Builtin.Slice.sliceAdjust none none (-1) (n : Int) = ((n : Int) - 1, -1) := by
    unfold Builtin.Slice.sliceAdjust
    have h1 : ((-1 : Int) < 0) := by omega
    simp only [h1, if_true]
  have e2 : Builtin.Slice.slicePlaces ((n : Int) - 1) (-1) (-1) = n := by
    unfold Builtin.Slice.slicePlaces
    have h1 : ¬ ((-1 : Int) > 0) := by omega
    simp only [h1, if_false]
    by_cases h : (n : Int) - 1 > -1
    · simp only [h, if_true]
      rw [show (- -1 : Int) = 1 by decide, Int.ediv_one]
      omega
    · simp only [h, if_false]; omega
  show wpAny _ _ (match Builtin.Slice.sliceAdjust none none (-1) (n : Int) with | (lo, hi) => pure (lo, (-1 : Int), Builtin.Slice.slicePlaces lo hi (-1))) _ _ s
  rw [e1]
  show wpAny _ _ (pure ((n : Int) - 1, (-1 : Int), Builtin.Slice.slicePlaces ((n : Int) - 1) (-1) (-1))) _ _ s
  rw [e2]
  exact wpAny_pure h
theorem sliceApplied_one {sl : Addr} {t : Tok} {n : Nat} {Q : Int × Int × Nat → Shared → Prop} (hs : s.heap.IsSliceOf sl .none .none (.int 1 t))
    (h : Q (0, 1, n) s) : wpAny (model prog w) A (Builtin.Slice.sliceApplied (.ref sl) (pure (n : Int))) Q E s := by
  obtain ⟨os, hos, hcs, hds⟩ := id hs
  unfold Builtin.Slice.sliceApplied Builtin.Slice.sliceFields
  refine wpAny_bind (wpAny_bind (wpAny_field hos hds (x := .none) rfl (wpAny_bind (wpAny_field hos hds (x := .none) rfl (wpAny_bind (wpAny_field hos hds (x := .int 1 t) rfl (wpAny_pure ?_)))))))
  refine wpAny_bind (slicePart_int ?_)
  show wpAny _ _ (if ((1 : Int) == 0) = true then _ else _) _ _ s
  rw [if_neg (by decide)]
  refine wpAny_bind (slicePart_none (wpAny_bind (slicePart_none (wpAny_bind (wpAny_pure ?_)))))
  show wpAny _ _ (match Builtin.Slice.sliceAdjust none none 1 (n : Int) with | (lo, hi) => pure (lo, (1 : Int), Builtin.Slice.slicePlaces lo hi 1)) _ _ s
  rw [adjust_gen none none n]
  show wpAny _ _ (pure (((0 : Nat) : Int), (1 : Int), Builtin.Slice.slicePlaces ((0 : Nat) : Int) ((n : Nat) : Int) 1)) _ _ s
  rw [places_gen, Nat.sub_zero]
  exact wpAny_pure h
theorem pick_rev (xs : Array Value) : ((List.range xs.size).filterMap fun (m : Nat) => xs[((xs.size : Int) - 1 + (m : Int) * -1).toNat]?).toArray = xs.toList.reverse.toArray := by
  have e : ((List.range xs.size).filterMap fun (m : Nat) => xs[((xs.size : Int) - 1 + (m : Int) * -1).toNat]?) = (((List.range xs.size).map fun k => xs.size - 1 - k).filterMap (xs[·]?)) := by
    rw [List.filterMap_map]
    have cong : ∀ (l : List Nat) (f g : Nat → Option Value), (∀ m ∈ l, f m = g m) → l.filterMap f = l.filterMap g := by
      intro l f g
      induction l with
      | nil => intro _; rfl
      | cons a l ih =>
        intro h
        rw [List.filterMap_cons, List.filterMap_cons, h a List.mem_cons_self, ih fun m hm => h m (List.mem_cons_of_mem _ hm)]
    refine cong _ _ _ fun m hm => ?_
    have := List.mem_range.mp hm
    show xs[((xs.size : Int) - 1 + (m : Int) * -1).toNat]? = xs[xs.size - 1 - m]?
    have e0 : ((xs.size : Int) - 1 + (m : Int) * -1).toNat = xs.size - 1 - m := by omega
    rw [e0]
  rw [e, PySem.W.krv_range, List.filterMap_reverse, PySem.W.krv_all]
theorem getItem_tuple_rev {t sl : Addr} {tk : Tok} {items : Array Value} {Q : Value → Shared → Prop} (ht : IsTup s.heap t items) (hs : s.heap.IsSliceOf sl .none .none (.int (-1) tk))
    (h : Q (.ref s.heap.objs.size) { s with heap := s.heap.push { cls := .type "tuple", data := .seq items.toList.reverse.toArray } })
    (hsz : items.size ≤ sizeLine) : wpAny (model prog w) A (getItem (.ref t) (.ref sl)) Q E s := by
  have htake : sizeOk (.seq items.toList.reverse.toArray) := by
    show items.toList.reverse.toArray.size ≤ sizeLine
    rw [List.size_toArray, List.length_reverse, Array.length_toList]
    omega
  obtain ⟨os, hos, hcs, hds⟩ := id hs
  have hTs : s.TypeIs (.ref sl) "slice" := ⟨os, hos, hcs⟩
  unfold getItem
  try with_reducible refine wpAny_holding ?_
  first | refine wpAny_bind (wpAny_pure ?_) | skip
  refine wpAny_bind (wpAny_sequenceKey ht.typeIs (by decide) ?_)
  refine wpAny_bind (wpAny_callSpecial?_slot (name := Str.ofString "__getitem__") ht.typeIs PyProof.Rows.slot_tuple_getitem
    (wpAny_call_entry PyProof.Rows.slot_tuple_getitem ht.typeIs entry_tuple_getitem ?_ (args_tuple_getitem _ _)))
  show wpAny _ _ (Builtin.Tuple.tupleItemsOf (.ref t) >>= _) _ _ s
  refine wpAny_bind (tupleItemsOf_ ht ?_)
  refine wpAny_bind (wpAny_typeOf hTs ?_)
  rw [if_pos (by decide)]
  refine wpAny_bind (sliceApplied_neg hs ?_)
  have hno : ¬ (((((items.size : Nat) : Int) - 1 == 0) && ((-1 : Int) == 1) && (items.size == items.size)) = true) := by
    intro q
    rw [Bool.and_eq_true, Bool.and_eq_true] at q
    exact absurd q.1.2 (by decide)
  show wpAny _ _ (if ((((items.size : Nat) : Int) - 1 == 0) && ((-1 : Int) == 1) && (items.size == items.size)) = true then _ else _) _ _ s
  rw [if_neg hno, pick_rev]
  first
    | exact wpAny_bind (m := Builtin.Tuple.tupleExact _) (wpAny_newObj_type (wpAny_pure ⟨_, rfl, wpAny_pure h⟩) htake)
    | exact wpAny_bind (m := Builtin.Tuple.tupleExact _) (wpAny_newObj_type (wpAny_bind (wpAny_pure (wpAny_pure ⟨_, rfl, wpAny_pure h⟩))) htake)
    | exact wpAny_bind (wpAny_bind (m := Builtin.Tuple.tupleExact _) (wpAny_newObj_type (wpAny_pure (wpAny_pure ⟨_, rfl, wpAny_pure h⟩)) htake))
    | exact wpAny_bind (wpAny_bind (m := Builtin.Tuple.tupleExact _) (wpAny_newObj_type (wpAny_pure ⟨_, rfl, wpAny_pure h⟩) htake))
theorem getItem_tuple_one {t sl : Addr} {tk : Tok} {items : Array Value} {Q : Value → Shared → Prop} (ht : IsTup s.heap t items) (hs : s.heap.IsSliceOf sl .none .none (.int 1 tk))
    (h : Q (.ref t) s) : wpAny (model prog w) A (getItem (.ref t) (.ref sl)) Q E s := by
  obtain ⟨os, hos, hcs, hds⟩ := id hs
  have hTs : s.TypeIs (.ref sl) "slice" := ⟨os, hos, hcs⟩
  unfold getItem
  try with_reducible refine wpAny_holding ?_
  first | refine wpAny_bind (wpAny_pure ?_) | skip
  refine wpAny_bind (wpAny_sequenceKey ht.typeIs (by decide) ?_)
  refine wpAny_bind (wpAny_callSpecial?_slot (name := Str.ofString "__getitem__") ht.typeIs PyProof.Rows.slot_tuple_getitem
    (wpAny_call_entry PyProof.Rows.slot_tuple_getitem ht.typeIs entry_tuple_getitem ?_ (args_tuple_getitem _ _)))
  show wpAny _ _ (Builtin.Tuple.tupleItemsOf (.ref t) >>= _) _ _ s
  refine wpAny_bind (tupleItemsOf_ ht ?_)
  refine wpAny_bind (wpAny_typeOf hTs ?_)
  rw [if_pos (by decide)]
  refine wpAny_bind (sliceApplied_one hs ?_)
  have hyes : (((0 : Int) == 0) && ((1 : Int) == 1) && (items.size == items.size)) = true := by simp
  show wpAny _ _ (if (((0 : Int) == 0) && ((1 : Int) == 1) && (items.size == items.size)) = true then _ else _) _ _ s
  rw [if_pos hyes]
  refine wpAny_bind ?_
  show wpAny _ _ (typeOf (.ref t) >>= fun T => pure (T == .type "tuple")) _ _ s
  refine wpAny_bind (wpAny_typeOf ht.typeIs (wpAny_pure ?_))
  first
    | rw [if_pos (by decide)]
    | simp only [beq_self_eq_true, if_true]
  first
    | exact wpAny_bind (wpAny_rule (wpAny_pure ⟨_, rfl, wpAny_pure h⟩))
    | exact wpAny_bind (wpAny_rule (wpAny_bind (wpAny_pure (wpAny_pure ⟨_, rfl, wpAny_pure h⟩))))
end
/-- by values -/
def rStp (K : Fg) : V → Int → Hp → VK → Prop := fun x st H Q =>
  (st = -1 ∧ ((∃ a xs, x = .ref a ∧ SqL K H a xs ∧ ∀ p, H p = none → Q (.ref p) (upd H p (.lst xs.reverse))) ∨ (∃ a xs, x = .ref a ∧ SqT K H a xs ∧ ∀ p, H p = none → Q (.ref p) (upd H p (.tup xs.reverse))))) ∨
  (st = 1 ∧ ((∃ a xs, x = .ref a ∧ SqL K H a xs ∧ ∀ p, H p = none → Q (.ref p) (upd H p (.lst xs))) ∨ (∃ a xs, x = .ref a ∧ SqT K H a xs ∧ Q (.ref a) H)))
def tStp (K : Fg) (te : TE) (ts : TO) : TE := fun σ H Q => te σ H fun x H1 => ts σ H1 fun o H2 => ∃ st, o = some st ∧ rStp K x st H2 Q
theorem pick_one (items : Array Value) : slicePick items none none (some 1) = items := by
  unfold slicePick
  have e : sliceBounds none none (some 1) items.size = (0, (items.size : Int), 1) := by
    first
      | rfl
      | simp [sliceBounds]
  rw [e]
  show ((sliceRange 0 (items.size : Int) 1).filterMap (items[·]?)).toArray = _
  have e2 : sliceRange 0 (items.size : Int) 1 = List.range items.size := by
    unfold sliceRange
    have h1 : ((1 : Int) > 0) := by decide
    by_cases h : (0 : Int) < (items.size : Int)
    · have e : ((items.size : Int) - 0 + 1 - 1) / 1 = (items.size : Int) := by omega
      simp only [h1, if_true, h, e, Int.toNat_natCast]
      rw [List.map_congr_left (g := id) (fun k hk => by show ((0 : Int) + 1 * (k : Int)).toNat = k; omega), List.map_id]
    · have e : items.size = 0 := by omega
      rw [e]
      simp
  rw [e2, PySem.W.krv_all]
theorem pe_stp {X : Cx} {e : Expr} {st : Expr} {te : TE} {ts : TO} {p3 pos : Pos} (he : PE X e te) (hst : PO X (some st) ts) : PE X (.Subscript e (.Slice none none (some st) p3) pos) (tStp X.K te ts) := by
  refine ⟨fun pins s σ H Q I h => ?_⟩
  refine Subscript_ (thn (he.run pins s σ H _ I h) fun v s1 ⟨x, H1, I1, r1, q1⟩ => ?_)
  refine wpAny_Slice (thn (po_none.run pins s1 σ H1 (fun o H2 => o = none ∧ H2 = H1) I1 ⟨rfl, rfl⟩) fun vl s2 ⟨l, H2, I2, pl, el, e2⟩ => ?_)
  subst el e2
  refine thn (po_none.run pins s2 σ H2 (fun o H3 => o = none ∧ H3 = H2) I2 ⟨rfl, rfl⟩) fun vu s3 ⟨u, H3, I3, pu, eu, e3⟩ => ?_
  subst eu e3
  refine thn (hst.run pins s3 σ H3 _ I3 q1) fun vs s4 ⟨o, H4, I4, ps, stp, eo, q4⟩ => ?_
  subst eo
  have I5 : Inv X pins σ H4 { s4 with heap := s4.heap.push { cls := .type "slice", data := .fields #[vl, vu, vs] } } := I4.kept (t' := s4.toks) fun b ob q => Heap.get?_push_of_some _ q
  have lst : ∀ (a : Addr) (xs : List V), x = .ref a → SqL X.K H4 a xs → (∀ its : List Value, Vals xs its → ∃ (ys : List V) (us : List Value), slicePick its.toArray none none (some stp) = us.toArray ∧ Vals ys us ∧ ys.length ≤ xs.length ∧ ∀ p, H4 p = none → Q (.ref p) (upd H4 p (.lst ys))) → stp ≠ 0 →
      wpAny (model X.prog X.w) X.A (subscriptTail e (.Slice none none (some st) p3) v (.ref s4.heap.objs.size)) (EP X pins σ Q) X.xe { s4 with heap := s4.heap.push { cls := .type "slice", data := .fields #[vl, vu, vs] } } := by
    intro a xs ex hx hq h0
    subst ex
    cases r1
    obtain ⟨its, r, ht, hz⟩ := I5.list hx
    obtain ⟨ys, us, e1, r2, hl, q⟩ := hq its r
    refine tail_any (ops := [.ref a, .ref s4.heap.objs.size]) ht.isList.typeIs (PySem.slot_list_getitem.lookup) ?_ (by with_unfolding_all rfl)
    have hlen := r.length
    refine wpAny_getItem_list_slice ht.isList (Heap.IsSliceOf.new _ vl vu vs) pl pu ps (by intro z; exact h0 (Option.some.inj z)) ?_ (by rw [List.size_toArray]; omega)
    rw [e1]
    refine ⟨.ref _, _, I5.laid (t' := s4.toks) (o := .lst ys) (fun b ob q => Heap.get?_push_of_some _ q) (Nat.le_refl _) ?_, rfl, q _ (I5.hok.fresh (Nat.le_refl _))⟩
    exact ⟨by omega, _, 0, r2, Heap.get?_push_size _ rfl⟩
  have tup : ∀ (a : Addr) (xs : List V), x = .ref a → SqT X.K H4 a xs → (∀ its : List Value, Vals xs its → IsTup (s4.heap.push { cls := .type "slice", data := .fields #[vl, vu, vs] }) a its.toArray → wpAny (model X.prog X.w) X.A (getItem (.ref a) (.ref s4.heap.objs.size)) (EP X pins σ Q) X.xe { s4 with heap := s4.heap.push { cls := .type "slice", data := .fields #[vl, vu, vs] } }) →
      wpAny (model X.prog X.w) X.A (subscriptTail e (.Slice none none (some st) p3) v (.ref s4.heap.objs.size)) (EP X pins σ Q) X.xe { s4 with heap := s4.heap.push { cls := .type "slice", data := .fields #[vl, vu, vs] } } := by
    intro a xs ex hx hq
    subst ex
    cases r1
    obtain ⟨its, r, ht, hz⟩ := I5.tuple hx
    exact tail_any (ops := [.ref a, .ref s4.heap.objs.size]) ht.typeIs (PyProof.Rows.slot_tuple_getitem.lookup) (hq its r ht) (by with_unfolding_all rfl)
  have hslv : ∀ its : List Value, vl = .none ∧ vu = .none := fun _ => by
    constructor
    · cases pl; rfl
    · cases pu; rfl
  rcases q4 with ⟨e1, ⟨a, xs, ex, hx, q⟩ | ⟨a, xs, ex, hx, q⟩⟩ | ⟨e1, ⟨a, xs, ex, hx, q⟩ | ⟨a, xs, ex, hx, q⟩⟩
  · subst e1
    exact lst a xs ex hx (fun its r => ⟨xs.reverse, its.reverse, by rw [PySem.W.krv_pick], r.reverse, by rw [List.length_reverse]; exact Nat.le_refl _, q⟩) (by decide)
  · subst e1
    refine tup a xs ex hx fun its r ht => ?_
    obtain ⟨el, eu⟩ := hslv its
    subst el eu
    cases ps with
    | int _ t =>
      obtain ⟨_, _, _, hz⟩ := I5.tuple hx
      have hlen := r.length
      refine getItem_tuple_rev ht (Heap.IsSliceOf.new _ _ _ _) ?_ (by rw [List.size_toArray]; omega)
      refine ⟨.ref _, _, I5.laid (t' := s4.toks) (o := .tup xs.reverse) (fun b ob q => Heap.get?_push_of_some _ q) (Nat.le_refl _) ?_, rfl, q _ (I5.hok.fresh (Nat.le_refl _))⟩
      exact ⟨by rw [List.length_reverse]; exact hz, _, r.reverse, IsTup.new _ _⟩
  · subst e1
    exact lst a xs ex hx (fun its r => ⟨xs, its, pick_one _, r, Nat.le_refl _, q⟩) (by decide)
  · subst e1
    refine tup a xs ex hx fun its r ht => ?_
    obtain ⟨el, eu⟩ := hslv its
    subst el eu
    cases ps with
    | int _ t =>
      subst ex
      exact getItem_tuple_one ht (Heap.IsSliceOf.new _ _ _ _) ⟨.ref a, H4, I5, rfl, q⟩
/-- over data -/
def dStp (f : Prop) (st : Int) (R : KC) : D → Prop
  | .list xs => (f ∧ (st = 1 ∨ st = -1)) ∧ R 1 (.list (if st = 1 then xs else xs.reverse))
  | .tuple xs => (st = 1 ∨ st = -1) ∧ R 0 (.tuple (if st = 1 then xs else xs.reverse))
  | _ => False
def oStp (r : Res) (o : Option Int) (R : KC) : Prop := match o with
  | some st => dStp (flat r) st R r.d
  | none => False
def oStpA (o : Option Int) : O1 := fun r R => oStp r o R
def fStp (fa : FE) (fs : FO) : FE := fun env R => fa env fun r e1 => fs e1 fun o e2 => okb e2 r ∧ ap1 (oStpA o) r fun k d => R (.v k d) e2
theorem so_stp {K : Fg} {ω : Om} {T : Nat} {H : Hp} {x : V} {r1 : Res} {o : Option Int} {R : KC} {Q : VK} (fr : Free ω T) (v1 : Vw K ω H x r1) (h : oStp r1 o R) (q : Out K ω T H R Q) : ∃ st, o = some st ∧ rStp K x st H Q := by
  cases o with
  | none => exact h.elim
  | some st =>
    refine ⟨st, rfl, ?_⟩
    have h' : dStp (flat r1) st R r1.d := h
    generalize e1 : r1.d = d1 at h'
    cases d1 <;> first
      | exact h'.elim
      | skip
    · obtain ⟨⟨f, h1⟩, hR⟩ := h'
      obtain ⟨a, vs, rfl, hs, ha⟩ := v1.lst f e1
      rcases h1 with h1 | h1
      · subst h1
        exact .inr ⟨rfl, .inl ⟨a, vs, rfl, .inl (.inl hs), fun p hp => q.lst fr hp ha hR⟩⟩
      · subst h1
        exact .inl ⟨rfl, .inl ⟨a, vs, rfl, .inl (.inl hs), fun p hp => q.lst fr hp ha.reverse hR⟩⟩
    · obtain ⟨h1, hR⟩ := h'
      have w := v1.rpT e1
      obtain ⟨a, vs, rfl, hs, ha⟩ := v1.tup e1
      rcases h1 with h1 | h1
      · subst h1
        exact .inr ⟨rfl, .inr ⟨a, vs, rfl, hs, q.same fr w hR⟩⟩
      · subst h1
        exact .inl ⟨rfl, .inr ⟨a, vs, rfl, hs, fun p hp => q.tup fr hp ha.reverse hR⟩⟩
theorem se_stp {X : Cx} {e st : Expr} {fa : FE} {fs : FO} {p3 pos : Pos} (ha : SE X e fa) (hs : SP_ X (some st) fs) : SE X (.Subscript e (.Slice none none (some st) p3) pos) (fStp fa fs) := by
  obtain ⟨t, p, s⟩ := ha.ex
  obtain ⟨t1, p1, s1⟩ := hs.ex
  refine ⟨_, pe_stp p p1, fun ω T env σ H R Q rel fre hR q => ?_⟩
  refine s ω T env σ H _ _ rel fre hR fun x H1 ω1 e1 r rel1 st1 fr1 rr1 h1 => ?_
  refine s1 ω1 (T + 1) e1 σ H1 _ _ rel1 fr1 h1 fun o H2 ω2 e2 rel2 st2 fr2 h2 => ?_
  have rr : ResR X.K ω2 H2 σ e2 T x r := by
    cases r with
    | v k d => exact ResR.step (T' := T) rr1 st2
    | b i k d => exact ⟨h2.1, rr1.2⟩
  exact so_stp gc_free (rr.gc rel2 (Nat.le_refl _)) (ap1_cl h2.2) (out_of (rel2.gc T) ((st1.trans st2).gc fre) q)
end Pv

/-! Pg: calls where nothing is being shown; repr. -/
namespace Pv
open PySem PySem.Spec PyProof.Rows L2
/-! ### defs that are called where nothing is being shown (the list of guards is known, and empty): what repr asks for -/
structure FnG (P : Program) (w : World) (K : Fg) (mg : Str → Option Value) (base : Heap) (CX : CXT) (k : Nat) (f : Addr) (fd : FuncData) (ps : List Str) (sp : Sp) : Prop where
  size : ∀ {vs : List V} {H : Hp} {Q : VK} {E : XK}, sp vs H Q E → vs.length = ps.length
  goes : ∀ (B : Around) (fr : List PySem.Env) (t : Shared) (H : Hp) (as : Args) (us : List Value) (vs : List V) (Q : VK) (E : XK), B.guards = some [] → Room k B →
    Env0 P w K mg base B fr t H → BindsTo t fd as (ps.zip us) → Vals vs us → sp vs H Q E →
    codeAny (model P w) B (.call (.ref f) as) (CR CX fr P w H t Q E) t
section
variable {P : Program} {w : World} {K : Fg} {mg : Str → Option Value} {base : Heap} {CX : CXT} {k : Nat} {f : Addr} {fd : FuncData} {ps : List Str} {sp : Sp}
theorem FnG.mono {j : Nat} (F : FnG P w K mg base CX j f fd ps sp) (h : j ≤ k) : FnG P w K mg base CX k f fd ps sp :=
  ⟨F.size, fun B fr t H as us vs Q E hG hr => F.goes B fr t H as us vs Q E hG (hr.mono h)⟩
theorem FnG.imp {sp' : Sp} (F : FnG P w K mg base CX k f fd ps sp) (h : ∀ vs H Q E, sp' vs H Q E → sp vs H Q E) : FnG P w K mg base CX k f fd ps sp' :=
  ⟨fun q => F.size (h _ _ _ _ q), fun B fr t H as us vs Q E hG hr a b c q => F.goes B fr t H as us vs Q E hG hr a b c (h _ _ _ _ q)⟩
/-- THE RULE of a def there -/
theorem fng_of {x qual : Str} {st : Stmt} {N : List Str} (F : Fun K x qual st f fd) (S : FnScope N ps (defScope st)) (hsz : ∀ vs H Q E, sp vs H Q E → vs.length = ps.length)
    (hbody : ∀ (cdv : Value), fd.code = cdv → ∀ (B : Around) (fr : List PySem.Env) (t : Shared) (H : Hp) (vs : List V) (Q : VK) (E : XK),
      Room k (B.deeper (envOfC qual (defScope st) t.heap.objs.size f cdv)) → (B.deeper (envOfC qual (defScope st) t.heap.objs.size f cdv)).guards = some [] → sp vs H Q E →
      ∃ g, PSs (cxOf CX0 P w K mg base N qual (defScope st) f cdv B fr t H E).nox (defBody st) g ∧ g { nx := fun _ H' => Q .non H', rt := Q } (L2.start N vs) H) : FnG P w K mg base CX0 (k + 1) f fd ps sp := by
  obtain ⟨oc, od, kV, doc, pm, an, cdv, ct, osl, rfl, lk, hcd⟩ := F.ex
  refine ⟨fun q => hsz _ _ _ _ q, fun B fr t H as us vs Q E hG room en bd rv hs => ?_⟩
  have two := hsz _ _ _ _ hs
  have keep : ∀ b o, base.get? b = some o → t.heap.get? b = some o := fun b o q => (en.bs b o q).1
  have inK : K.In t.heap := en.mod.kin.keeps keep
  have free : t.heap.NoLimit := en.mod.nolimit.keeps keep
  have kinds : ∀ y ∈ ps.zip us, (defScope st).names.lookup y.1 = some .local ∨ ((defScope st).names.lookup y.1 = some .cell ∧ ((cellsFrom (t.heap.objs.size + 1) (defScope st).names []).lookup y.1).isSome = true) := by
    intro y hy
    have hp : y.1 ∈ ps := (List.of_mem_zip (a := y.1) (b := y.2) hy).1
    cases S.par y.1 hp with
    | inl q => exact .inl q
    | inr q => exact .inr ⟨q, PySem.W.cellsFrom_some _ _ _ (.inl q)⟩
  apply codeAny_call_function room.depth (inK _ _ lk) rfl S.co S.gen rfl (PySem.W.codeRec_of inK hcd)
  apply bd
  apply wpAny_newFunctionEnv_cells S.kind kinds
  intro env he t1 ic
  subst he
  refine ⟨free.keeps ic.toInCall.keep, ?_⟩
  apply codeAny_func
  obtain ⟨g, hg, hq⟩ := hbody cdv rfl B fr t H vs Q E (room.deeper _) hG hs
  have J0 := inv_start (CX := CX0) (P := P) (w := w) (K := K) (mg := mg) (base := base) (cd := cdv) (E := E) S room.hd en two rv ic
  apply wpAny_mono (hg.nox.run [] t1 (L2.start N vs) H _ J0 hq)
  · intro fl t2 e
    have fin : ∀ {σ' : L2.St} {H' : Hp} {v : V} {u : Value}, Inv (cxOf CX0 P w K mg base N qual (defScope st) f cdv B fr t H E) [] σ' H' t2 → RelV v u → Q v H' → CE fr P w H t Q u t2 := by
      intro σ' H' v u J rv2 q
      exact ⟨v, H', J.os, J.bare, J.base, J.hok, rv2, q⟩
    match fl, e with
    | .ret u, e =>
      obtain ⟨v, σ', H', J, rv2, q⟩ := e
      exact fin J rv2 q
    | .next, e =>
      obtain ⟨σ', H', J, q⟩ := e
      exact fin (v := V.non) (u := Value.none) J rfl q
    | .brk, e =>
      obtain ⟨_, _, _, q⟩ := e
      exact q.elim
    | .cont, e =>
      obtain ⟨_, _, _, q⟩ := e
      exact q.elim
  · intro e t2 q
    exact q
end
section
variable {X : Cx} {k n : Nat} {f : Addr} {fd : FuncData} {ps ks : List Str} {sp : Sp} {x : Str} {p pos : Pos} {e : Expr} {es : List Expr} {kws : List Keyword} {t tk : TA} {g : List Value → List Value → List Value} {gV : List V → List V → List V}
/-- the callee runs -/
theorem run_g {pins : List (Addr × Obj)} {σ : L2.St} {H : Hp} {s : Shared} {Q : VK} {us vu : List Value} {vs : List V} {kv : List (Str × Value)} (F : FnG X.prog X.w X.K X.mg X.base CX0 k f fd ps sp) (hG : X.A.guards = some []) (hr : Room k X.A)
    (J : Inv X pins σ H s) (bd : BindsTo s fd ⟨us, kv⟩ (ps.zip vu)) (rv : Vals vs vu) (q : sp vs H Q fun _ _ _ => False) : wpAny (model X.prog X.w) X.A (call (.ref f) us kv) (EP X pins σ Q) X.xe s := by
  apply wpAny_call
  apply codeAny_mono (F.goes X.A X.stack s H _ _ _ _ _ hG hr J.env0 bd rv q)
  intro r s' h
  match r, h with
  | .ok (.ret u), h => exact J.after h
  | .ok .next, h => exact h.elim
  | .ok .brk, h => exact h.elim
  | .ok .cont, h => exact h.elim
  | .error _, h => exact h.elim
theorem pe_g (F : FnG X.prog X.w X.K X.mg X.base CX0 k f fd ps sp) (hG : X.A.guards = some []) (hr : Room k X.A) (hg : Gl X x) (hm : X.mg x = some (.ref f)) (hk : PySem.W.keepIn X.K (.ref f) = true) (hb : Binds X.K fd ps [])
    (ha : PA X (e :: es) t) (hdb : (x == ("__debug__" : Str)) = false) (he : starEach (e :: es) X.env = (false, eval e X.env) :: starEach es X.env) (hpl : (backTo pos (starEach es X.env)).any (·.1) = false) :
    PE X (.Call (.Name x p) (e :: es) [] pos) (tCall sp [] (fun _ _ _ => False) t) := by
  constructor
  intro pins s σ H Q J h
  apply wpAny_Call_Name_kw
  apply ld_glob J hg hm _ hdb
  refine PySem.W.callWith_K (h₀ := X.base) J.ok.mod.kin hk (thn (ha.run pos pins s σ H _ J h) ?_) he hpl
  rintro us s1 ⟨vs, H1, J1, rv, q⟩
  refine ⟨J1.kIn, ?_⟩
  have q1 : sp (vs ++ []) H1 Q (fun _ _ _ => False) := q
  rw [List.append_nil] at q1
  have l1 : (us ++ []).length = ps.length := by rw [List.append_nil, ← rv.length]; exact F.size q1
  have bd := hb s1 us J1.kIn l1
  rw [List.append_nil] at bd
  exact run_g F hG hr J1 bd rv q1
/-- f(k = v, ..) -/
theorem pe_gN0 (F : FnG X.prog X.w X.K X.mg X.base CX0 k f fd ps sp) (hG : X.A.guards = some []) (hr : Room k X.A) (hg : Gl X x) (hm : X.mg x = some (.ref f)) (hk : PySem.W.keepIn X.K (.ref f) = true) (hb : KBn X.K fd ps 0 ks g gV)
    (hkw : PK X kws tk) (hall : (backToKw pos (keywordEach kws X.env)).all (·.1.isSome) = true) (hks : (backToKw pos (keywordEach kws X.env)).filterMap (·.1) = ks)
    (hdb : (x == ("__debug__" : Str)) = false) (hpl : ((backTo pos (starEach [] X.env)).any (·.1) || (backToKw pos (keywordEach kws X.env)).any (·.1.isNone)) = false) :
    PE X (.Call (.Name x p) [] kws pos) (tCallN 0 ks.length sp gV (fun _ _ _ => False) tNil tk) := by
  constructor
  intro pins s σ H Q J h
  apply wpAny_Call_Name_kw
  apply ld_glob J hg hm _ hdb
  refine PySem.W.callWith_KW0 (h₀ := X.base) J.ok.mod.kin hk hall ?_ hpl
  have h' : tk σ H (fun zs H2 => ([] : List V).length = 0 ∧ zs.length = ks.length ∧ sp (gV [] zs) H2 Q fun _ _ _ => False) := h
  refine thn (hkw.run pos pins s σ H _ J h') ?_
  rintro ws s2 ⟨zs, H2, J2, rz, l1, l2, q2⟩
  refine ⟨J2.kIn, ?_⟩
  rw [hks]
  exact run_g F hG hr J2 (hb.to s2 [] ws J2.kIn rfl (rz.length.symm.trans l2)) (hb.rel .nil rz) q2
end
/-! ### the law's own call, with the list of guards known -/
section
variable {P : Program} {w : World} {K : Fg} {mg mb : Str → Option Value} {k : Nat} {fa a : Addr} {fd : FuncData} {x : Str} {sp : Sp} {t : Shared} {vs : List Value} {ns : List Int}
theorem hid_ns {H : Hp} (one : ∀ b, H b ≠ none → b = a) (ha : t.heap.get? a = some { cls := .type "list", data := .seq vs.toArray }) {b : Addr} {m : Str → Option Value} (h : t.heap.Ns b m) : (hidT t.heap H).Ns b m := by
  obtain ⟨o, es, ep, e, d, r⟩ := h
  refine ⟨o, es, ep, hidT_get e ?_, d, r⟩
  cases q : H b with
  | none => rfl
  | some u =>
    have eb := one b (by rw [q]; exact nofun)
    subst eb
    rw [ha] at e
    cases e
    have d2 : Data.seq vs.toArray _ = Data.dict es ep := d
    cases d2
theorem top_g {H : Hp} (inK : K.In t.heap) (n1 : t.heap.Ns mainGlobals mg) (n2 : t.heap.Ns builtinsNs mb) (n3 : ∀ x : Str, x ≠ "__name__" → mb x = bootBuiltins x) (n4 : t.heap.NoLimit) (n5 : t.gens = #[])
    (ha : t.heap.get? a = some { cls := .type "list", data := .seq vs.toArray }) (only : Only H) (ok : HOk P w H t.heap) (one : ∀ b, H b ≠ none → b = a) (kn : H a ≠ none → K.lookup a = none) (room : Room k callerA)
    (F : ∀ base : Heap, K.In base → base.Ns mainGlobals mg → FnG P w K mg base CX0 k fa fd [x] sp) (bd : BindsTo t fd ⟨[.ref a], []⟩ [(x, .ref a)])
    (q : sp [.ref a] H (fun v _ => v = .bl true) fun _ _ _ => False) :
    codeAny (model P w) callerA (.call (.ref fa) ⟨[.ref a], []⟩) (fun r t2 => r = .ok (.ret (.bool true)) ∧ OldK t.heap t2.heap ∧ t2.os = t.os ∧ AllBare t2.gens) t := by
  have clear : ∀ b o, K.lookup b = some o → H b = none := by
    intro b o e
    cases z : H b with
    | none => rfl
    | some u =>
      have eb := one b (by rw [z]; exact nofun)
      subst eb
      rw [kn (by rw [z]; exact nofun)] at e
      cases e
  have inB : K.In (hidT t.heap H) := fun b o e => hidT_get (inK b o e) (clear b o e)
  have g1 := hid_ns one ha n1
  have md : Mod K mg (hidT t.heap H) := by
    obtain ⟨mc, c1, c2⟩ := n4
    exact ⟨inB, g1, ⟨mb, hid_ns one ha n2, n3⟩, mc, hid_ns one ha c1, c2⟩
  have en : Env0 P w K mg (hidT t.heap H) callerA [] t H :=
    { frames := rfl, mod := md, bs := fun b o e => of_hidT e, bsz := Nat.le_of_eq (hidT_size _ _), funs := trivial, frf := fun b hb => (List.not_mem_nil (show b ∈ ([] : List Addr) from hb)).elim, hok := ok, bare := .of_eq n5 }
  apply codeAny_mono ((F _ inB g1).goes callerA [] t H _ [.ref a] [.ref a] _ _ rfl room en bd (.cons rfl .nil) q)
  intro r t2 h
  match r, h with
  | .error _, h => exact h.elim
  | .ok .next, h => exact h.elim
  | .ok .brk, h => exact h.elim
  | .ok .cont, h => exact h.elim
  | .ok (.ret u), h =>
    obtain ⟨v, H', os, bare, un, ok2, rv, hv⟩ := h
    have hv2 : v = .bl true := hv
    subst hv2
    have hu : u = Value.bool true := rv
    subst hu
    refine ⟨rfl, OldK.of_keep ?_, os, bare⟩
    intro b o e
    rcases only b with z | ⟨ob, xs, z⟩
    · exact un.keep b o e z (fun c => List.not_mem_nil (show b ∈ ([] : List Addr) from c)) (by simp)
    · have k1 := (ok b _ z).1
      have k2 := (ok2 b _ (un.frzs b ob _ z)).1
      rw [e] at k1
      cases k1
      exact k2
/-- the goal that k_head leaves, from the law's promise -/
theorem walk_g {l : PySem.W.OpenLaw} {n : Nat} {q : Program} {loose : List Str} {XP : (Str → Option Value) → Heap → Prop} {YP : World → Heap → Prop} {d : DefRec} {KP : Params → Fg} {spw : World → Sp}
    (m1 : l.most = some n) (m2 : n ≤ sizeLine) (df : d.params.defaults = []) (room : Room k callerA) (yp : ∀ (w : World) (h : Heap), YP w h → (KP w.params).In h)
    (F : ∀ (w : World) (mg : Str → Option Value) (fa : Addr) (h : Heap), (KP w.params).In h → h.Ns mainGlobals mg → mg d.name = some (.ref fa) →
      ∃ fd : FuncData, (∀ (s : Shared) (u : Value), BindsTo s fd ⟨[u], []⟩ [(x, u)]) ∧ ∀ base : Heap, (KP w.params).In base → base.Ns mainGlobals mg → FnG l.prog w (KP w.params) mg base CX0 k fa fd [x] (spw w))
    (asks : ∀ (w : World) (H : Hp) (a : Addr) (ns : List Int), ns.length ≤ n → Only H → SqL (KP w.params) H a (ns.map V.int) → spw w [.ref a] H (fun v _ => v = .bl true) fun _ _ _ => False) :
    PySem.W.WalkO q loose XP YP l.row.toRowW d [] (fun f vs => PySem.call f vs) := by
  apply Att.attach_call m1 df
  intro w s0 t mg mb fa o pm cd doc a vs ns G Y ho hd hcd hmg ha hit hl hg
  have inK := yp w _ Y
  obtain ⟨fd, bd, hF⟩ := F w mg fa _ inK G.T.g hmg
  have rv := vals_ints hit
  have len := hit.length
  cases hk : (KP w.params).lookup a with
  | none =>
    have at_ : (fun b => if b = a then some (HO.frz { cls := .type "list", data := .seq vs.toArray } (.lst (ns.map V.int))) else none : Hp) a = some (HO.frz { cls := .type "list", data := .seq vs.toArray } (.lst (ns.map V.int))) := if_pos rfl
    have off : ∀ b, b ≠ a → (fun b => if b = a then some (HO.frz { cls := .type "list", data := .seq vs.toArray } (.lst (ns.map V.int))) else none : Hp) b = none := fun b hb => if_neg hb
    generalize (fun b => if b = a then some (HO.frz { cls := .type "list", data := .seq vs.toArray } (.lst (ns.map V.int))) else none : Hp) = H at at_ off
    have only : Only H := fun b => if hb : b = a then .inr ⟨_, _, hb ▸ at_⟩ else .inl (off b hb)
    refine top_g inK G.T.g G.T.b G.T.builtins G.T.nolimit hg ha only ?_ ?_ (fun _ => hk) room hF (bd t _) (asks w H a ns hl only (.inl (.inr ⟨_, at_⟩)))
    · intro b u z
      by_cases hb : b = a
      · subst hb
        rw [at_] at z
        cases z
        exact ⟨ha, by rw [List.length_map]; exact Nat.le_trans hl m2, vs, _, rv, ha⟩
      · rw [off b hb] at z
        cases z
    · intro b z
      exact Classical.byContradiction fun hb => z (off b hb)
  | some o =>
    have e := inK a o hk
    rw [ha] at e
    cases e
    have only : Only (fun _ => none) := fun _ => .inl rfl
    refine top_g inK G.T.g G.T.b G.T.builtins G.T.nolimit hg ha only ?_ (fun b z => absurd rfl z) (fun z => absurd rfl z) room hF (bd t _) (asks w _ a ns hl only (.inr ⟨_, vs.toArray, _, hk, rfl, rfl, rfl, ?_, by simpa using rv⟩))
    · intro b u z
      have z2 : (none : Option HO) = some u := z
      cases z2
    · rw [List.size_toArray, len]
      exact Nat.le_trans hl m2
end
/-! ### repr(..) -/
/-- what repr may be asked of -/
def RepD (d : D) : Prop := d.canLay0 = true ∧ d.showable = true ∧ d.depth ≤ 60 ∧ d.shown.length ≤ sizeLine
def oRepr : O1 := fun r R => RepD r.d ∧ R 0 (.str r.d.shown)
section
variable {X : Cx}
theorem cr_repr {k : Nat} (hr : Room k X.A) (hG : X.A.guards = some []) : CallR X (.builtin "repr") (fun xs H Q => ∃ x d, xs = [x] ∧ Dp X.K H x d ∧ RepD d ∧ Q (.str d.shown) H) := by
  intro pins s σ H xs us Q J rv h
  obtain ⟨x, d, rfl, hd, ⟨h0, h1, h2, h3⟩, q⟩ := h
  obtain ⟨u, rfl, ru⟩ := vals1 rv
  have go : ∀ a, x = .ref a → wpAny (model X.prog X.w) X.A (call (.builtin "repr") [u]) (fun v s' => ∃ y H', Inv X pins σ H' s' ∧ RelV y v ∧ Q y H') X.xe s := by
    intro a e
    subst e
    cases ru
    obtain ⟨as, r⟩ := Dp.reads J d _ _ hd rfl
    have nd := PyData.hasDict_of_canLay d h0
    exact repr_of_reads' r h1 (fun h' => by rw [nd] at h'; cases h') hG (by have := hu64 hr; omega) (fun b o e => e) (fun h' u tk hk => ⟨.str d.shown, H, J.kept hk, ⟨u, rfl⟩, q⟩) h3
  cases d with
  | none =>
    cases hd
    cases ru
    exact PySem.P.repr_of_none ⟨.str _, H, J.tok _, ⟨_, rfl⟩, q⟩
  | bool b =>
    cases hd
    cases ru
    exact PySem.P.repr_of_bool ⟨.str _, H, J.tok _, ⟨_, rfl⟩, by cases b <;> exact q⟩
  | int i =>
    cases hd
    obtain ⟨t, rfl⟩ := ru
    exact PySem.P.repr_of_int (of_decide_eq_true h1) ⟨.str _, H, J.tok _, ⟨_, rfl⟩, q⟩
  | str z =>
    cases hd
    obtain ⟨t, rfl⟩ := ru
    exact PySem.P.repr_of_str ⟨.str _, H, J.tok _, ⟨_, rfl⟩, q⟩ h3
  | list ds => cases hd; exact go _ rfl
  | tuple ds => cases hd; exact go _ rfl
  | dict kvs => cases h0
theorem so_repr {K : Fg} : SndO1 K (fun x H Q => ∃ d, Dp K H x d ∧ RepD d ∧ Q (.str d.shown) H) oRepr := by
  intro ω T H x r R Q fr v h q
  exact ⟨r.d, v.dp h.1.1, h.1, q.str fr h.2⟩
variable {e : Expr} {fa : FA} {p pos : Pos}
theorem se_repr {k : Nat} (hr : Room k X.A) (hG : X.A.guards = some []) (hm : X.mg "repr" = none) (ha : SA X [e] fa) (hg : Gl X "repr" := by rfl) (he : starEach [e] X.env = [(false, eval e X.env)] := by rfl) : SE X (.Call (.Name "repr" p) [e] [] pos) (fOpN (at1 oRepr) fa) :=
  se_callB (cimp (cr_repr hr hG) fun xs H Q ⟨x, e, d, h1, h2, h3⟩ => ⟨x, d, e, h1, h2, h3⟩) (so_at1 so_repr) (id := "repr") (by decide +kernel) hm ha hg (by decide) (by decide) he rfl
end
end Pv

/-! Pv6: a def's promise over data, and its call. -/
namespace Pv
open PySem PySem.Spec PyProof.Rows L2

/-- what a def does: from its arguments' cells, what it hands back and what its written parameters hold then -/
abbrev Phi := List Cell → (Cell → List Cell → Prop) → Prop
/-- arguments: written ones (true) are the slot's own, others are shared -/
def ArgR (K : Fg) (ω : Om) (H : Hp) : Nat → List V → List Bool → List Cell → Prop
  | _, [], [], [] => True
  | j, v :: vs, true :: ms, c :: cs => OwR K ω H c.k (Ow.own j) [] v c.d ∧ ArgR K ω H (j + 1) vs ms cs
  | j, v :: vs, false :: ms, c :: cs => (c.k = 0 ∧ Rp K ω H v c.d) ∧ ArgR K ω H (j + 1) vs ms cs
  | _, _, _, _ => False
def IoOut (K : Fg) (ω : Om) (H : Hp) : Nat → List V → List Bool → List Cell → Prop
  | _, [], [], [] => True
  | j, v :: vs, true :: ms, c :: cs => OwR K ω H c.k (Ow.own j) [] v c.d ∧ IoOut K ω H (j + 1) vs ms cs
  | j, _ :: vs, false :: ms, cs => IoOut K ω H (j + 1) vs ms cs
  | _, _, _, _ => False
def spOf (K : Fg) (ms : List Bool) (φ : Phi) : Sp := fun vs H Q _ => ∃ (ω : Om) (args : List Cell) (R : Cell → List Cell → Prop),
  ArgR K ω H 0 vs ms args ∧ (Tabs K ω H ∧ Free ω 0) ∧ φ args R ∧
  ∀ v H' ω' c ios, (Tabs K ω' H' ∧ Step ω H ω' H') → IoOut K ω' H' 0 vs ms ios → OwR K ω' H' c.k (Ow.tmp 0) [] v c.d → R c ios → Q v H'
section
variable {K : Fg} {ω : Om} {H : Hp}
theorem ArgR.length : ∀ {j : Nat} {vs : List V} {ms : List Bool} {cs : List Cell}, ArgR K ω H j vs ms cs → vs.length = ms.length ∧ cs.length = vs.length
  | _, [], [], [], _ => ⟨rfl, rfl⟩
  | _, [], [], _ :: _, h => h.elim
  | _, [], _ :: _, _, h => h.elim
  | _, _ :: _, [], _, h => h.elim
  | _, _ :: _, true :: _, [], h => h.elim
  | _, _ :: _, false :: _, [], h => h.elim
  | _, _ :: _, true :: _, _ :: _, h => by have := ArgR.length h.2; simp [this.1, this.2]
  | _, _ :: _, false :: _, _ :: _, h => by have := ArgR.length h.2; simp [this.1, this.2]
theorem spOf_len {ms : List Bool} {φ : Phi} {vs : List V} {Q : VK} {E : XK} (h : spOf K ms φ vs H Q E) : vs.length = ms.length := by
  obtain ⟨_, _, _, h, _⟩ := h
  exact h.length.1
end

/-! ### the arguments of a call -/
def mkArgs : List Bool → List Res → Option (List Cell)
  | [], [] => some []
  | false :: ms, .v _ d :: rs => match mkArgs ms rs with
    | some cs => some (sh d :: cs)
    | none => none
  | true :: ms, .b _ k d :: rs => match mkArgs ms rs with
    | some cs => some (⟨k, d⟩ :: cs)
    | none => none
  | true :: ms, .v (k + 1) d :: rs => match mkArgs ms rs with
    | some cs => some (⟨k + 1, d⟩ :: cs)
    | none => none
  | _, _ => none
def ioIx : List Bool → List Res → List Nat
  | true :: ms, .b i _ _ :: rs => i :: ioIx ms rs
  | _ :: ms, _ :: rs => ioIx ms rs
  | _, _ => []
def distinct : List Nat → Bool
  | [] => true
  | i :: is => !is.contains i && distinct is
def putIos (env : Env) : List Bool → List Res → List Cell → Env
  | true :: ms, .b i _ _ :: rs, c :: cs => (putIos env ms rs cs).set i (some c)
  | true :: ms, .v _ _ :: rs, _ :: cs => putIos env ms rs cs
  | false :: ms, _ :: rs, cs => putIos env ms rs cs
  | _, _, _ => env
/-- a promise that is looked at as a whole -/
@[irreducible] def apP (φ : Phi) (args : List Cell) (R : Cell → List Cell → Prop) : Prop := φ args R
theorem apP_eq {φ : Phi} {args : List Cell} {R : Cell → List Cell → Prop} : apP φ args R = φ args R := by unfold apP; rfl
theorem apP_op {φ : Phi} {args : List Cell} {R : Cell → List Cell → Prop} (h : φ args R) : apP φ args R := by rw [apP_eq]; exact h
theorem apP_cl {φ : Phi} {args : List Cell} {R : Cell → List Cell → Prop} (h : apP φ args R) : φ args R := by rw [apP_eq] at h; exact h
def fCall (ms : List Bool) (φ : Phi) (fa : FA) : FE := fun env R => fa env fun rs e => distinct (ioIx ms rs) = true ∧
  match mkArgs ms rs with
  | some args => apP φ args fun c ios => R (.v c.k c.d) (putIos e ms rs ios)
  | none => False
/-- the place of a slot among the written arguments -/
def posOf : Nat → List Bool → List Res → Nat → Option Nat
  | j, true :: ms, .b i' _ _ :: rs, i => if i' = i then some j else posOf (j + 1) ms rs i
  | j, _ :: ms, _ :: rs, i => posOf (j + 1) ms rs i
  | _, _, _, _ => none
theorem distinct_mem : ∀ {ms : List Bool} {rs : List Res} {n i k : Nat} {d : D}, ms[n]? = some true → rs[n]? = some (.b i k d) → i ∈ ioIx ms rs
  | true :: ms, .b i' _ _ :: rs, 0, i, k, d, _, h => by
    have e := Option.some.inj h
    cases e
    exact List.mem_cons_self
  | true :: ms, .b i' _ _ :: rs, n + 1, i, k, d, h1, h2 => List.mem_cons_of_mem _ (distinct_mem (n := n) (by simpa using h1) (by simpa using h2))
  | true :: ms, .v _ _ :: rs, n + 1, i, k, d, h1, h2 => by
    unfold ioIx
    exact distinct_mem (n := n) (by simpa using h1) (by simpa using h2)
  | false :: ms, _ :: rs, n + 1, i, k, d, h1, h2 => by
    unfold ioIx
    exact distinct_mem (n := n) (by simpa using h1) (by simpa using h2)
  | true :: _, .v _ _ :: _, 0, _, _, _, _, h => by cases h
  | false :: _, _ :: _, 0, _, _, _, h, _ => by cases h
  | [], _, _, _, _, _, h, _ => by simp at h
  | _ :: _, [], _, _, _, _, _, h => by simp at h
theorem posOf_hit : ∀ {ms : List Bool} {rs : List Res} {n i k j0 : Nat} {d : D}, distinct (ioIx ms rs) = true → ms[n]? = some true → rs[n]? = some (.b i k d) → posOf j0 ms rs i = some (j0 + n)
  | true :: ms, .b i' _ _ :: rs, 0, i, k, j0, d, _, _, h => by
    have e := Option.some.inj h
    cases e
    unfold posOf
    rw [if_pos rfl]
    rfl
  | true :: ms, .b i' _ _ :: rs, n + 1, i, k, j0, d, hd, h1, h2 => by
    have hd' : (!(ioIx ms rs).contains i' && distinct (ioIx ms rs)) = true := hd
    rw [Bool.and_eq_true] at hd'
    have hm := distinct_mem (n := n) (ms := ms) (rs := rs) (by simpa using h1) (by simpa using h2)
    have ne : i' ≠ i := fun e => by
      subst e
      have : (ioIx ms rs).contains i' = true := List.contains_iff_mem.mpr hm
      rw [this] at hd'
      exact absurd hd'.1 (by decide)
    unfold posOf
    rw [if_neg ne, posOf_hit (n := n) hd'.2 (by simpa using h1) (by simpa using h2)]
    congr 1
    omega
  | true :: ms, .v _ _ :: rs, n + 1, i, k, j0, d, hd, h1, h2 => by
    unfold posOf
    unfold ioIx at hd
    rw [posOf_hit (n := n) hd (by simpa using h1) (by simpa using h2)]
    congr 1
    omega
  | false :: ms, _ :: rs, n + 1, i, k, j0, d, hd, h1, h2 => by
    unfold posOf
    unfold ioIx at hd
    rw [posOf_hit (n := n) hd (by simpa using h1) (by simpa using h2)]
    congr 1
    omega
  | true :: _, .v _ _ :: _, 0, _, _, _, _, _, _, h => by cases h
  | false :: _, _ :: _, 0, _, _, _, _, _, h, _ => by cases h
  | [], _, _, _, _, _, _, _, h, _ => by simp at h
  | _ :: _, [], _, _, _, _, _, _, _, h => by simp at h
/-- the owners, as the callee sees them -/
def inO (T : Nat) (ms : List Bool) (rs : List Res) : Ow → Ow
  | .shr => .shr
  | .far => .far
  | .tab => .tab
  | .own i p => match posOf 0 ms rs i with
    | some j => .own j p
    | none => .far
  | .tmp t p => if t < T then .far else match ms[t - T]? with
    | some true => .own (t - T) p
    | _ => .shr
/-- .. and back -/
def outO (T : Nat) (rs : List Res) (ω : Om) (ω' : Om) : Om := fun a => match ω' a with
  | .shr => .shr
  | .tab => .tab
  | .own j p => match rs[j]? with
    | some (.b i _ _) => .own i p
    | _ => .shr
  | .tmp t p => if t = 0 then .tmp T p else .shr
  | .far => gcO T (ω a)
section
variable {K : Fg} {ω : Om} {H : Hp} {σ : Sg} {env : Env} {T : Nat}
theorem args_in (rel : Rel K ω env σ H) (MS : List Bool) (RS : List Res) (hd : distinct (ioIx MS RS) = true) : ∀ {ms : List Bool} {rs : List Res} {vs : List V} {cs : List Cell} (j : Nat), (∀ n, ms[n]? = MS[j + n]?) → (∀ n, rs[n]? = RS[j + n]?) →
    ResAll K ω H σ env (T + j) vs rs → mkArgs ms rs = some cs → ArgR K (ren (inO T MS RS) ω) H j vs ms cs := by
  have gsh : Sh ω H (ren (inO T MS RS) ω) H := fun a o h e => ⟨h, by show inO T MS RS (ω a) = _; rw [e]; rfl⟩
  intro ms
  induction ms with
  | nil =>
    intro rs vs cs j hm hr hA hk
    cases rs with
    | nil =>
      cases vs with
      | nil => cases hk; trivial
      | cons _ _ => exact hA.elim
    | cons _ _ => cases hk
  | cons m ms ih =>
    intro rs vs cs j hm hr hA hk
    cases rs with
    | nil => cases m <;> cases hk
    | cons r rs =>
      cases vs with
      | nil => exact hA.elim
      | cons v vs =>
        obtain ⟨h1, h2⟩ := hA
        have hm0 : MS[j]? = some m := (hm 0).symm
        have hr0 : RS[j]? = some r := (hr 0).symm
        have hm' : ∀ n, ms[n]? = MS[j + 1 + n]? := fun n => by
          have := hm (n + 1)
          rw [List.getElem?_cons_succ] at this
          rw [this]; congr 1; omega
        have hr' : ∀ n, rs[n]? = RS[j + 1 + n]? := fun n => by
          have := hr (n + 1)
          rw [List.getElem?_cons_succ] at this
          rw [this]; congr 1; omega
        cases m with
        | false =>
          cases r with
          | b _ _ _ => cases hk
          | v k d =>
            unfold mkArgs at hk
            cases hk2 : mkArgs ms rs with
            | none => rw [hk2] at hk; cases hk
            | some cs' =>
              rw [hk2] at hk
              cases hk
              refine ⟨⟨rfl, OwR.fz gsh (fun a u p z1 z2 => ⟨z1, ?_⟩) _ _ _ _ h1⟩, ih (j + 1) hm' hr' h2 hk2⟩
              show inO T MS RS (ω a) = _
              rw [z2]
              show (if T + j < T then Ow.far else _) = _
              rw [if_neg (by omega), show T + j - T = j by omega, hm0]
        | true =>
          cases r with
          | b i k d =>
            unfold mkArgs at hk
            cases hk2 : mkArgs ms rs with
            | none => rw [hk2] at hk; cases hk
            | some cs' =>
              rw [hk2] at hk
              cases hk
              obtain ⟨v', hv, ho⟩ := rel.cell i _ h1.1
              have ev : v' = v := Option.some.inj (Option.some.inj (hv.symm.trans h1.2))
              subst ev
              refine ⟨OwR.go gsh (fun a u p z1 z2 => ⟨z1, ?_⟩) _ _ _ _ ho, ih (j + 1) hm' hr' h2 hk2⟩
              show inO T MS RS (ω a) = _
              rw [z2]
              show (match posOf 0 MS RS i with | some j => Ow.own j p | none => Ow.far) = _
              rw [posOf_hit hd hm0 hr0, Nat.zero_add]
          | v k d =>
            cases k with
            | zero => cases hk
            | succ k =>
              unfold mkArgs at hk
              cases hk2 : mkArgs ms rs with
              | none => rw [hk2] at hk; cases hk
              | some cs' =>
                rw [hk2] at hk
                cases hk
                refine ⟨OwR.go gsh (fun a u p z1 z2 => ⟨z1, ?_⟩) _ _ _ _ h1, ih (j + 1) hm' hr' h2 hk2⟩
                show inO T MS RS (ω a) = _
                rw [z2]
                show (if T + j < T then Ow.far else _) = _
                rw [if_neg (by omega), show T + j - T = j by omega, hm0]
/-- the last of the written arguments at a slot -/
def lookIo : List Bool → List Res → List Cell → Nat → Option Cell
  | true :: ms, .b i' _ _ :: rs, c :: cs, i => if i' = i then some c else lookIo ms rs cs i
  | true :: ms, .v _ _ :: rs, _ :: cs, i => lookIo ms rs cs i
  | false :: ms, _ :: rs, cs, i => lookIo ms rs cs i
  | _, _, _, _ => none
theorem put_len : ∀ {ms : List Bool} {rs : List Res} {cs : List Cell}, (putIos env ms rs cs).length = env.length
  | true :: ms, .b i _ _ :: rs, c :: cs => by unfold putIos; rw [List.length_set]; exact put_len
  | true :: ms, .v _ _ :: rs, _ :: cs => by unfold putIos; exact put_len
  | false :: ms, _ :: rs, cs => by unfold putIos; exact put_len
  | [], _, _ => by unfold putIos; rfl
  | true :: _, [], _ => by unfold putIos; rfl
  | true :: _, .b _ _ _ :: _, [] => by unfold putIos; rfl
  | true :: _, .v _ _ :: _, [] => by unfold putIos; rfl
  | false :: _, [], _ => by unfold putIos; rfl
theorem put_get : ∀ {ms : List Bool} {rs : List Res} {cs : List Cell} {i : Nat} {c : Cell}, (putIos env ms rs cs)[i]? = some (some c) → lookIo ms rs cs i = some c ∨ (lookIo ms rs cs i = none ∧ env[i]? = some (some c))
  | true :: ms, .b i' _ _ :: rs, c' :: cs, i, c, h => by
    unfold putIos at h
    unfold lookIo
    by_cases e : i' = i
    · rw [if_pos e]
      subst e
      have hl : i' < (putIos env ms rs cs).length := by
        have := (List.getElem?_eq_some_iff.mp h).1
        rwa [List.length_set] at this
      rw [List.getElem?_set_self hl] at h
      exact .inl (Option.some.inj h)
    · rw [if_neg e]
      rw [List.getElem?_set_ne e] at h
      exact put_get h
  | true :: ms, .v _ _ :: rs, _ :: cs, i, c, h => by
    unfold putIos at h
    unfold lookIo
    exact put_get h
  | false :: ms, _ :: rs, cs, i, c, h => by
    unfold putIos at h
    unfold lookIo
    exact put_get h
  | [], _, _, _, _, h => .inr ⟨rfl, h⟩
  | true :: _, [], _, _, _, h => .inr ⟨rfl, h⟩
  | true :: _, .b _ _ _ :: _, [], _, _, h => .inr ⟨rfl, h⟩
  | true :: _, .v _ _ :: _, [], _, _, h => .inr ⟨rfl, h⟩
  | false :: _, [], _, _, _, h => .inr ⟨rfl, h⟩
theorem look_io {K : Fg} {ω : Om} {H : Hp} : ∀ {ms : List Bool} {rs : List Res} {vs : List V} {cs : List Cell} {i : Nat} {c : Cell} (j : Nat), IoOut K ω H j vs ms cs → lookIo ms rs cs i = some c →
    ∃ n k d v, rs[n]? = some (.b i k d) ∧ vs[n]? = some v ∧ OwR K ω H c.k (Ow.own (j + n)) [] v c.d
  | true :: ms, .b i' k d :: rs, v :: vs, c' :: cs, i, c, j, h, e => by
    unfold lookIo at e
    by_cases ei : i' = i
    · rw [if_pos ei] at e
      cases e
      subst ei
      exact ⟨0, k, d, v, rfl, rfl, h.1⟩
    · rw [if_neg ei] at e
      obtain ⟨n, k', d', v', e1, e2, e3⟩ := look_io (j + 1) h.2 e
      exact ⟨n + 1, k', d', v', e1, e2, by rw [show j + (n + 1) = j + 1 + n by omega]; exact e3⟩
  | true :: ms, .v _ _ :: rs, v :: vs, c' :: cs, i, c, j, h, e => by
    unfold lookIo at e
    obtain ⟨n, k', d', v', e1, e2, e3⟩ := look_io (j + 1) h.2 e
    exact ⟨n + 1, k', d', v', e1, e2, by rw [show j + (n + 1) = j + 1 + n by omega]; exact e3⟩
  | false :: ms, _ :: rs, v :: vs, cs, i, c, j, h, e => by
    unfold lookIo at e
    have h' : IoOut K ω H (j + 1) vs ms cs := h
    obtain ⟨n, k', d', v', e1, e2, e3⟩ := look_io (j + 1) h' e
    exact ⟨n + 1, k', d', v', e1, e2, by rw [show j + (n + 1) = j + 1 + n by omega]; exact e3⟩
  | [], _, _, _, _, _, _, _, e => by unfold lookIo at e; cases e
  | true :: _, [], _, _, _, _, _, _, e => by unfold lookIo at e; cases e
  | true :: _, .b _ _ _ :: _, _, [], _, _, _, _, e => by unfold lookIo at e; cases e
  | true :: _, .v _ _ :: _, _, [], _, _, _, _, e => by unfold lookIo at e; cases e
  | true :: _, .b _ _ _ :: _, [], _ :: _, _, _, _, h, _ => h.elim
  | true :: _, .v _ _ :: _, [], _ :: _, _, _, _, h, _ => h.elim
  | false :: _, [], _, _, _, _, _, _, e => by unfold lookIo at e; cases e
  | false :: _, _ :: _, [], _, _, _, _, h, _ => by cases (show False from h)
theorem look_none {K : Fg} {ω : Om} {H : Hp} : ∀ {ms : List Bool} {rs : List Res} {vs : List V} {cs : List Cell} {i : Nat} (j : Nat), IoOut K ω H j vs ms cs → lookIo ms rs cs i = none → posOf j ms rs i = none
  | true :: ms, .b i' k d :: rs, v :: vs, c' :: cs, i, j, h, e => by
    unfold lookIo at e
    unfold posOf
    by_cases ei : i' = i
    · rw [if_pos ei] at e; cases e
    · rw [if_neg ei] at e
      rw [if_neg ei]
      exact look_none (j + 1) h.2 e
  | true :: ms, .v _ _ :: rs, v :: vs, c' :: cs, i, j, h, e => by
    unfold lookIo at e
    unfold posOf
    exact look_none (j + 1) h.2 e
  | false :: ms, _ :: rs, v :: vs, cs, i, j, h, e => by
    unfold lookIo at e
    unfold posOf
    have h' : IoOut K ω H (j + 1) vs ms cs := h
    exact look_none (j + 1) h' e
  | [], _, _, _, _, _, _, _ => by unfold posOf; rfl
  | true :: _, [], _, _, _, _, _, _ => by unfold posOf; rfl
  | false :: _, [], _, _, _, _, _, _ => by unfold posOf; rfl
  | true :: _, .b _ _ _ :: _, _ :: _, [], _, _, h, _ => h.elim
  | true :: _, .v _ _ :: _, _ :: _, [], _, _, h, _ => h.elim
  | true :: _, .b _ _ _ :: _, [], _, _, _, h, _ => by cases (show False from h)
  | true :: _, .v _ _ :: _, [], _, _, _, h, _ => by cases (show False from h)
  | false :: _, _ :: _, [], _, _, _, h, _ => by cases (show False from h)
theorem ResAll.at_ : ∀ {T : Nat} {vs : List V} {rs : List Res} {n : Nat} {v : V} {r : Res}, ResAll K ω H σ env T vs rs → vs[n]? = some v → rs[n]? = some r → ResR K ω H σ env (T + n) v r
  | _, v :: vs, r :: rs, 0, _, _, h, e1, e2 => by
    have e1' := Option.some.inj e1
    have e2' := Option.some.inj e2
    subst e1'; subst e2'
    exact h.1
  | T, v :: vs, r :: rs, n + 1, _, _, h, e1, e2 => by
    rw [show T + (n + 1) = T + 1 + n by omega]
    exact ResAll.at_ (n := n) h.2 (by simpa using e1) (by simpa using e2)
  | _, [], _, _, _, _, _, e1, _ => by simp at e1
  | _, _ :: _, [], _, _, _, _, _, e2 => by simp at e2
/-- the callee runs -/
theorem call_core {ms : List Bool} {φ : Phi} {ω1 : Om} {e1 : Env} {H1 : Hp} {vs : List V} {rs : List Res} {args : List Cell} {R : Res → Env → Prop} {Q : VK} {E : XK} (fre : Free ω T) (rel1 : Rel K ω1 e1 σ H1) (st1 : Step ω H ω1 H1) (rr1 : ResAll K ω1 H1 σ e1 T vs rs)
    (hd : distinct (ioIx ms rs) = true) (hk : mkArgs ms rs = some args) (h1 : φ args fun c ios => R (.v c.k c.d) (putIos e1 ms rs ios))
    (q : ∀ v H' ω' env' r, Rel K ω' env' σ H' → Step ω H ω' H' → Free ω' (T + 1) → ResR K ω' H' σ env' T v r → R r env' → Q v H') : spOf K ms φ vs H1 Q E := by
  refine ⟨ren (inO T ms rs) ω1, args, _, args_in rel1 ms rs hd 0 (fun n => by rw [Nat.zero_add]) (fun n => by rw [Nat.zero_add]) rr1 hk, ⟨rel1.tab.ren rfl, fun a t p e => ?_⟩, h1, fun v H2 ω2 c ios ⟨tab2, st2⟩ io2 ow2 hR2 => ?_⟩
  · have e' : inO T ms rs (ω1 a) = .tmp t p := e
    cases y : ω1 a with
    | shr => rw [y] at e'; cases e'
    | far => rw [y] at e'; cases e'
    | tab => rw [y] at e'; cases e'
    | own i p' =>
      rw [y] at e'
      have e2 : (match posOf 0 ms rs i with | some j => Ow.own j p' | none => Ow.far) = .tmp t p := e'
      cases z : posOf 0 ms rs i with
      | none => rw [z] at e2; cases e2
      | some j => rw [z] at e2; cases e2
    | tmp t' p' =>
      rw [y] at e'
      have e2 : (if t' < T then Ow.far else match ms[t' - T]? with | some true => .own (t' - T) p' | _ => .shr) = .tmp t p := e'
      by_cases hT : t' < T
      · rw [if_pos hT] at e2; cases e2
      · rw [if_neg hT] at e2
        revert e2
        cases ms[t' - T]? with
        | none => intro e2; cases e2
        | some b => cases b <;> (intro e2; cases e2)
  · -- back
    have sh2 : Sh ω2 H2 (outO T rs ω1 ω2) H2 := fun a o h e => ⟨h, by show (match ω2 a with | .shr => Ow.shr | .tab => _ | .own j p => _ | .tmp t p => _ | .far => _) = _; rw [e]⟩
    have own2 : ∀ (j i k : Nat) (d : D), rs[j]? = some (.b i k d) → ∀ a u p, H2 a = some u → ω2 a = .own j p → H2 a = some u ∧ outO T rs ω1 ω2 a = .own i p := fun j i k d hj a u p z1 z2 => ⟨z1, by
      show (match ω2 a with | .shr => Ow.shr | .tab => _ | .own j p => _ | .tmp t p => _ | .far => _) = _
      rw [z2]
      show (match rs[j]? with | some (.b i _ _) => Ow.own i p | _ => .shr) = _
      rw [hj]⟩
    have tmp2 : ∀ a u p, H2 a = some u → ω2 a = .tmp 0 p → H2 a = some u ∧ outO T rs ω1 ω2 a = .tmp T p := fun a u p z1 z2 => ⟨z1, by
      show (match ω2 a with | .shr => Ow.shr | .tab => _ | .own j p => _ | .tmp t p => _ | .far => _) = _
      rw [z2]
      show (if 0 = 0 then Ow.tmp T p else .shr) = _
      rw [if_pos rfl]⟩
    -- what the callee may not touch
    have keep : ∀ a o, H1 a = some o → (ω1 a = .shr ∨ (inO T ms rs (ω1 a) = .far ∧ gcO T (ω1 a) = ω1 a)) → H2 a = some o ∧ outO T rs ω1 ω2 a = ω1 a := fun a o h hw => by
      rcases st2 a o h (by show inO T ms rs (ω1 a) ≠ _; rcases hw with hw | ⟨hw, _⟩ <;> (rw [hw]; exact nofun)) with ⟨i, p, z⟩ | ⟨z1, z2⟩
      · have z' : inO T ms rs (ω1 a) = .own i p := z
        rcases hw with hw | ⟨hw, _⟩
        · rw [hw] at z'; cases z'
        · rw [hw] at z'; cases z'
      · refine ⟨z1, ?_⟩
        have z2' : ω2 a = inO T ms rs (ω1 a) := z2
        show (match ω2 a with | .shr => Ow.shr | .tab => _ | .own j p => _ | .tmp t p => _ | .far => _) = _
        rcases hw with hw | ⟨hw, hg⟩
        · rw [z2', hw]; rfl
        · rw [z2', hw]; exact hg
    have sh1 : Sh ω1 H1 (outO T rs ω1 ω2) H2 := fun a o h e => by
      obtain ⟨z1, z2⟩ := keep a o h (.inl e)
      exact ⟨z1, z2.trans e⟩
    refine q v H2 (outO T rs ω1 ω2) (putIos e1 ms rs ios) (.v c.k c.d) ⟨tab2.go fun a o h e => ⟨h, by show (match ω2 a with | .shr => Ow.shr | .tab => _ | .own j p => _ | .tmp t p => _ | .far => _) = _; rw [e]⟩, by rw [put_len]; exact rel1.len, fun i ci hi => ?_⟩ (fun a o h n => ?_) (fun a t p e => ?_) (OwR.go sh2 tmp2 _ _ _ _ ow2) hR2
    · rcases put_get hi with hl | ⟨hl, he⟩
      · obtain ⟨n, k, d, v', e1', e2', e3'⟩ := look_io 0 io2 hl
        rw [Nat.zero_add] at e3'
        have rn := rr1.at_ e2' e1'
        exact ⟨v', rn.2, OwR.go sh2 (own2 n i k d e1') _ _ _ _ e3'⟩
      · obtain ⟨v', hv, ho⟩ := rel1.cell i ci he
        have hp := look_none 0 io2 hl
        refine ⟨v', hv, OwR.go sh1 (fun a u p z1 z2 => ?_) _ _ _ _ ho⟩
        obtain ⟨y1, y2⟩ := keep a u z1 (.inr ⟨by
          rw [z2]
          show (match posOf 0 ms rs i with | some j => Ow.own j p | none => Ow.far) = _
          rw [hp], by rw [z2]; rfl⟩)
        exact ⟨y1, y2.trans z2⟩
    · rcases st1 a o h n with z | ⟨z1, z2⟩
      · exact .inl z
      · cases y : ω a with
        | tab => exact absurd y n
        | own i p => exact .inl ⟨i, p, rfl⟩
        | shr =>
          obtain ⟨w1, w2⟩ := keep a o z1 (.inl (z2.trans y))
          exact .inr ⟨w1, w2.trans (z2.trans y)⟩
        | far =>
          have hf : ω1 a = .far := z2.trans y
          obtain ⟨w1, w2⟩ := keep a o z1 (.inr ⟨by rw [hf]; rfl, by rw [hf]; rfl⟩)
          exact .inr ⟨w1, w2.trans hf⟩
        | tmp t p =>
          have hf : ω1 a = .tmp t p := z2.trans y
          have hT := fre a t p y
          obtain ⟨w1, w2⟩ := keep a o z1 (.inr ⟨by
            rw [hf]
            show (if t < T then Ow.far else _) = _
            rw [if_pos hT], by
            rw [hf]
            show (if T ≤ t then Ow.shr else .tmp t p) = _
            rw [if_neg (by omega)]⟩)
          exact .inr ⟨w1, w2.trans hf⟩
    · have e' : (match ω2 a with
        | .shr => Ow.shr
        | .tab => .tab
        | .own j p => match rs[j]? with
          | some (.b i _ _) => .own i p
          | _ => .shr
        | .tmp t p => if t = 0 then .tmp T p else .shr
        | .far => gcO T (ω1 a)) = .tmp t p := e
      cases y : ω2 a with
      | shr => rw [y] at e'; cases e'
      | tab => rw [y] at e'; cases e'
      | own j p' =>
        rw [y] at e'
        revert e'
        show (match rs[j]? with | some (.b i _ _) => Ow.own i p' | _ => .shr) = .tmp t p → _
        cases rs[j]? with
        | none => intro z; cases z
        | some r => cases r <;> (intro z; cases z)
      | tmp t' p' =>
        rw [y] at e'
        have e2 : (if t' = 0 then Ow.tmp T p' else .shr) = .tmp t p := e'
        by_cases h0 : t' = 0
        · rw [if_pos h0] at e2; cases e2; exact Nat.lt_succ_self _
        · rw [if_neg h0] at e2; cases e2
      | far =>
        rw [y] at e'
        exact Nat.lt_succ_of_lt (gc_free (ω := ω1) a t p e')
/-- THE CALL -/
theorem snd_call {ms : List Bool} {φ : Phi} {ta : TA} {fa : FA} (ha : SndA K ta fa) : SndE K (tCall (spOf K ms φ) [] (fun _ _ _ => False) ta) (fCall ms φ fa) := by
  intro ω T env σ H R Q rel fre hR q
  refine ha ω T env σ H _ _ rel fre hR fun vs H1 ω1 e1 rs rel1 st1 fr1 rr1 h1 => ?_
  obtain ⟨hd, h1⟩ := h1
  rw [List.append_nil]
  cases hk : mkArgs ms rs with
  | none => rw [hk] at h1; exact h1.elim
  | some args =>
    rw [hk] at h1
    exact call_core fre rel1 st1 rr1 hd hk (apP_cl h1) q
/-- with keywords: the values as written, then in the parameters' order -/
def permD (perm : List Nat) (ds : List D) : List D := perm.map fun i => ds.getD i .none
def permV (perm : List Nat) (vs : List V) : List V := perm.map fun i => vs.getD i .non
def permU (perm : List Nat) (us : List Value) : List Value := perm.map fun i => us.getD i .none
def fCallK (n m : Nat) (perm : List Nat) (φ : Phi) (fa fk : FA) : FE := fun env R => fa env fun rs e => noB rs ∧ rs.length = n ∧ fk e fun ks e1 => noB ks ∧ ks.length = m ∧ apP φ ((permD perm (dsOf rs ++ dsOf ks)).map sh) fun c _ => R (.v c.k c.d) e1
theorem RpAll.perm {vs : List V} {ds : List D} (h : RpAll K ω H vs ds) : ∀ perm : List Nat, RpAll K ω H (permV perm vs) (permD perm ds)
  | [] => .nil
  | i :: is => by
    refine .cons ?_ (RpAll.perm h is)
    show Rp K ω H (vs.getD i .non) (ds.getD i .none)
    rw [List.getD_eq_getElem?_getD, List.getD_eq_getElem?_getD]
    cases hd : ds[i]? with
    | none =>
      have hl : ds.length ≤ i := List.getElem?_eq_none_iff.mp hd
      rw [List.getElem?_eq_none (by rw [h.length]; exact hl)]
      exact .non
    | some d =>
      obtain ⟨v, hv, rv⟩ := h.at_ hd
      rw [hv]
      exact rv
theorem Vals.perm {vs : List V} {us : List Value} (h : Vals vs us) : ∀ perm : List Nat, Vals (permV perm vs) (permU perm us)
  | [] => .nil
  | i :: is => by
    refine .cons ?_ (Vals.perm h is)
    show RelV (vs.getD i .non) (us.getD i .none)
    rw [List.getD_eq_getElem?_getD, List.getD_eq_getElem?_getD]
    cases hd : vs[i]? with
    | none => rw [h.none_of hd]; rfl
    | some d =>
      obtain ⟨v, hv, rv⟩ := h.get hd
      rw [hv]
      exact rv
def allV (ds : List D) : List Res := ds.map fun d => .v 0 d
theorem resAll_v {e : Env} : ∀ {vs : List V} {ds : List D} (T : Nat), RpAll K ω H vs ds → ResAll K ω H σ e T vs (allV ds)
  | _, _, _, .nil => trivial
  | _, _, T, .cons h t => ⟨h, resAll_v (T + 1) t⟩
theorem mkArgs_v : ∀ ds : List D, mkArgs (List.replicate ds.length false) (allV ds) = some (ds.map sh)
  | [] => rfl
  | d :: ds => by
    show (match mkArgs (List.replicate ds.length false) (allV ds) with | some cs => some (sh d :: cs) | none => none) = _
    rw [mkArgs_v ds]
    rfl
theorem ioIx_v : ∀ (n : Nat) (rs : List Res), ioIx (List.replicate n false) rs = []
  | 0, _ => rfl
  | n + 1, [] => rfl
  | n + 1, _ :: rs => ioIx_v n rs
theorem putIos_v {e : Env} : ∀ (n : Nat) (rs : List Res) (cs : List Cell), putIos e (List.replicate n false) rs cs = e
  | 0, _, _ => rfl
  | n + 1, [], _ => rfl
  | n + 1, _ :: rs, cs => putIos_v n rs cs
end
/-- a def that may be called by its name -/
structure Fnc (P : Program) (w : World) (K : Fg) (mg : Str → Option Value) (base : Heap) (k : Nat) (x : Str) (ms : List Bool) (φ : Phi) : Prop where
  ex : ∃ (f : Addr) (fd : FuncData) (ps : List Str), FnG P w K mg base CX0 k f fd ps (spOf K ms φ) ∧ mg x = some (.ref f) ∧ PySem.W.keepIn K (.ref f) = true ∧ Binds K fd ps []
theorem se_call {X : Cx} {k j : Nat} {x : Str} {ms : List Bool} {φ : Phi} {e : Expr} {es : List Expr} {fa : FA} {p pos : Pos} (c : Fnc X.prog X.w X.K X.mg X.base k x ms φ) (hr : Room j X.A) (hG : X.A.guards = some []) (ha : SA X (e :: es) fa) (hk : k ≤ j := by decide) (hg : Gl X x := by rfl)
    (hdb : (x == ("__debug__" : Str)) = false := by decide) (he : starEach (e :: es) X.env = (false, eval e X.env) :: starEach es X.env := by rfl) (hpl : (backTo pos (starEach es X.env)).any (·.1) = false := by rfl) : SE X (.Call (.Name x p) (e :: es) [] pos) (fCall ms φ fa) := by
  obtain ⟨f, fd, ps, F, hm, hkp, hb⟩ := c.ex
  obtain ⟨t, q, s⟩ := ha.ex
  exact ⟨_, pe_g F hG (hr.mono hk) hg hm hkp hb q hdb he hpl, snd_call s⟩
/-- keyword arguments -/
structure SK (X : Cx) (kws : List Keyword) (f : FA) : Prop where
  ex : ∃ t : TA, PK X kws t ∧ SndA X.K t f
section
variable {X : Cx}
theorem sk_nil : SK X [] fNil := ⟨_, pk_nil, snd_nil⟩
theorem sk_cons {nm : Str} {e : Expr} {kpos : Pos} {kws : List Keyword} {fa : FE} {fr : FA} (ha : SE X e fa) (hr : SK X kws fr) : SK X (⟨nm, e, kpos⟩ :: kws) (fCons fa fr) := by
  obtain ⟨t, p, s⟩ := ha.ex
  obtain ⟨u, p', s'⟩ := hr.ex
  exact ⟨_, pk_cons p p', snd_cons s s'⟩
end
end Pv

/-! Pv7: statements; what a def's body is to show. -/
namespace Pv
open PySem PySem.Spec PyProof.Rows L2

structure Kt where
  nx : Env → Prop
  rt : Res → Env → Prop
  bk : Env → Prop := fun _ => False
  ct : Env → Prop := fun _ => False
abbrev FS := Env → Kt → Prop
/-- the written parameters' slots are not stored at -/
def Keep (io : Nat → Bool) (σ σ' : Sg) : Prop := σ'.length = σ.length ∧ ∀ j : Nat, io j = true → σ'[j]? = σ[j]?
theorem Keep.refl {io : Nat → Bool} {σ : Sg} : Keep io σ σ := ⟨rfl, fun _ _ => rfl⟩
theorem Keep.trans {io : Nat → Bool} {σ σ1 σ2 : Sg} (a : Keep io σ σ1) (b : Keep io σ1 σ2) : Keep io σ σ2 := ⟨b.1.trans a.1, fun j h => (b.2 j h).trans (a.2 j h)⟩
theorem Keep.set {io : Nat → Bool} {σ : Sg} {i : Nat} {o : Option V} (h : io i = false) : Keep io σ (σ.set i o) := ⟨List.length_set, fun j hj => by
  have ne : i ≠ j := fun e => by subst e; rw [h] at hj; cases hj
  rw [List.getElem?_set_ne ne]⟩
/-- the ends over data and those over the heap -/
structure KR (K : Fg) (io : Nat → Bool) (ω : Om) (σ : Sg) (H : Hp) (k : Kt) (E : Ends) : Prop where
  nx : ∀ σ' H' ω' env', Rel K ω' env' σ' H' → Step ω H ω' H' → Free ω' 0 → Keep io σ σ' → k.nx env' → E.nx σ' H'
  bk : ∀ σ' H' ω' env', Rel K ω' env' σ' H' → Step ω H ω' H' → Free ω' 0 → Keep io σ σ' → k.bk env' → E.bk σ' H'
  ct : ∀ σ' H' ω' env', Rel K ω' env' σ' H' → Step ω H ω' H' → Free ω' 0 → Keep io σ σ' → k.ct env' → E.ct σ' H'
  rt : ∀ v σ' H' ω' env' r, Rel K ω' env' σ' H' → Step ω H ω' H' → Free ω' 1 → Keep io σ σ' → ResR K ω' H' σ' env' 0 v r → k.rt r env' → E.rt v H'
theorem KR.next {K : Fg} {io : Nat → Bool} {ω ω1 : Om} {σ σ1 : Sg} {H H1 : Hp} {k : Kt} {E : Ends} (h : KR K io ω σ H k E) (st : Step ω H ω1 H1) (kp : Keep io σ σ1) : KR K io ω1 σ1 H1 k E where
  nx := fun σ' H' ω' env' a b c d e => h.nx σ' H' ω' env' a (st.trans b) c (kp.trans d) e
  bk := fun σ' H' ω' env' a b c d e => h.bk σ' H' ω' env' a (st.trans b) c (kp.trans d) e
  ct := fun σ' H' ω' env' a b c d e => h.ct σ' H' ω' env' a (st.trans b) c (kp.trans d) e
  rt := fun v σ' H' ω' env' r a b c d e f => h.rt v σ' H' ω' env' r a (st.trans b) c (kp.trans d) e f
def SndS (K : Fg) (io : Nat → Bool) (t : TS) (f : FS) : Prop := ∀ (ω : Om) (env : Env) (σ : Sg) (H : Hp) (E : Ends) (k : Kt), Rel K ω env σ H → Free ω 0 → f env k → KR K io ω σ H k E → t E σ H
structure SSt (X : Cx) (io : Nat → Bool) (st : Stmt) (f : FS) : Prop where
  ex : ∃ t : TS, PS X st t ∧ SndS X.K io t f
structure SSs (X : Cx) (io : Nat → Bool) (st : List Stmt) (f : FS) : Prop where
  ex : ∃ t : TS, PSs X st t ∧ SndS X.K io t f

/-! ### blocks -/
def fNext : FS := fun env k => k.nx env
def fSeq (f g : FS) : FS := fun env k => f env { k with nx := fun e => g e k }
def fBreak : FS := fun env k => k.bk env
def fCont : FS := fun env k => k.ct env
def fDrop (fa : FE) : FS := fun env k => fa env fun _ e => k.nx e
def fRet (fa : FE) : FS := fun env k => fa env k.rt
def fRetN : FS := fun env k => k.rt (.v 0 .none) env
def fIfS (c : FT) (f g : FS) : FS := fun env k => c env fun b e => match b with
  | true => f e k
  | false => g e k
section
variable {K : Fg} {io : Nat → Bool}
theorem snd_next : SndS K io tNext fNext := fun ω env σ H E k rel fr h kr => kr.nx σ H ω env rel Step.refl fr Keep.refl h
theorem snd_seq {t u : TS} {f g : FS} (h1 : SndS K io t f) (h2 : SndS K io u g) : SndS K io (tSeq t u) (fSeq f g) := by
  intro ω env σ H E k rel fr h kr
  refine h1 ω env σ H _ _ rel fr h ⟨fun σ' H' ω' env' a b c d e => ?_, kr.bk, kr.ct, kr.rt⟩
  exact h2 ω' env' σ' H' E k a c e (kr.next b d)
theorem snd_drop {t : TE} {f : FE} (h : SndE K t f) : SndS K io (tDrop t) (fDrop f) := by
  intro ω env σ H E k rel fr hf kr
  refine h ω 0 env σ H _ _ rel fr hf fun v H1 ω1 e1 r rel1 st1 fr1 rr1 h1 => ?_
  exact kr.nx σ H1 (gc 0 ω1) e1 (rel1.gc 0) (st1.gc fr) gc_free Keep.refl h1
theorem snd_ret {t : TE} {f : FE} (h : SndE K t f) : SndS K io (tRet t) (fRet f) := by
  intro ω env σ H E k rel fr hf kr
  refine h ω 0 env σ H _ _ rel fr hf fun v H1 ω1 e1 r rel1 st1 fr1 rr1 h1 => ?_
  exact kr.rt v σ H1 ω1 e1 r rel1 st1 fr1 Keep.refl rr1 h1
theorem snd_ifS {c : TT} {t u : TS} {fc : FT} {f g : FS} (hc : SndT K c fc) (h : SndS K io t f) (h' : SndS K io u g) : SndS K io (tIfS c t u) (fIfS fc f g) := by
  intro ω env σ H E k rel fr hf kr
  refine hc ω 0 env σ H _ _ rel fr hf fun b H1 ω1 e1 rel1 st1 fr1 h1 => ?_
  cases b with
  | true => exact h ω1 e1 σ H1 E k rel1 fr1 h1 (kr.next st1 Keep.refl)
  | false => exact h' ω1 e1 σ H1 E k rel1 fr1 h1 (kr.next st1 Keep.refl)
end
section
variable {X : Cx} {io : Nat → Bool} {st : Stmt} {rest sa sb : List Stmt} {e : Expr} {fa : FE} {f g : FS} {pos : Pos}
theorem ss_nil : SSs X io [] fNext := ⟨_, pss_nil, snd_next⟩
theorem ss_cons (h1 : SSt X io st f) (h2 : SSs X io rest g) : SSs X io (st :: rest) (fSeq f g) := by
  obtain ⟨t, p, s⟩ := h1.ex
  obtain ⟨u, p', s'⟩ := h2.ex
  exact ⟨_, pss_cons p p', snd_seq s s'⟩
theorem ss_one (h1 : SSt X io st f) : SSs X io [st] f := by
  obtain ⟨t, p, s⟩ := h1.ex
  exact ⟨_, pss_one p, s⟩
theorem ss_expr (ha : SE X e fa) (hs : swapsWith e none pos.line X.env = pure false := by rfl) : SSt X io (.Expr e pos) (fDrop fa) := by
  obtain ⟨t, p, s⟩ := ha.ex
  exact ⟨_, ps_expr p hs, snd_drop s⟩
theorem ss_ret (ha : SE X e fa) : SSt X io (.Return (some e) pos) (fRet fa) := by
  obtain ⟨t, p, s⟩ := ha.ex
  exact ⟨_, ps_ret p, snd_ret s⟩
theorem ss_if {c : Expr} {gc : FT} (hc : STs X c gc) (ha : SSs X io sa f) (hb : SSs X io sb g) : SSt X io (.If c sa sb pos) (fIfS gc f g) := by
  obtain ⟨r, p0, s0⟩ := hc.ex
  obtain ⟨t, p, s⟩ := ha.ex
  obtain ⟨u, p', s'⟩ := hb.ex
  exact ⟨_, ps_if p0 p p', snd_ifS s0 s s'⟩
end

/-! ### stores -/
/-- x = e, shared from then on -/
def fAsg (i : Nat) (fa : FE) : FS := fun env k => fa env fun r e => match r with
  | .v _ d => k.nx (e.set i (some (sh d)))
  | .b _ _ _ => False
/-- x = e, the slot's own from then on -/
def fAsgO (i : Nat) (fa : FE) : FS := fun env k => fa env fun r e => match r with
  | .v n d => k.nx (e.set i (some ⟨n, d⟩))
  | .b _ _ _ => False
section
variable {K : Fg} {io : Nat → Bool} {ω : Om} {env : Env} {σ : Sg} {H : Hp}
theorem Rel.put (rel : Rel K ω env σ H) {i : Nat} {v : V} {c : Cell} (h : OwR K ω H c.k (Ow.own i) [] v c.d) : Rel K ω (env.set i (some c)) (σ.set i (some v)) H := by
  refine ⟨rel.tab, by rw [List.length_set, List.length_set]; exact rel.len, fun j c' e => ?_⟩
  by_cases hj : i = j
  · subst hj
    have hl : i < env.length := by
      have := (List.getElem?_eq_some_iff.mp e).1
      rwa [List.length_set] at this
    rw [List.getElem?_set_self hl] at e
    cases e
    exact ⟨v, by rw [List.getElem?_set_self (by rw [rel.len]; exact hl)], h⟩
  · rw [List.getElem?_set_ne hj] at e
    obtain ⟨v', hv, ho⟩ := rel.cell j c' e
    exact ⟨v', by rw [List.getElem?_set_ne hj]; exact hv, ho⟩
theorem Rel.drop (rel : Rel K ω env σ H) {i : Nat} {o : Option V} : Rel K ω (env.set i none) (σ.set i o) H := by
  refine ⟨rel.tab, by rw [List.length_set, List.length_set]; exact rel.len, fun j c' e => ?_⟩
  have hj : i ≠ j := fun z => by
    subst z
    have hl : i < env.length := by
      have := (List.getElem?_eq_some_iff.mp e).1
      rwa [List.length_set] at this
    rw [List.getElem?_set_self hl] at e
    cases e
  rw [List.getElem?_set_ne hj] at e
  obtain ⟨v', hv, ho⟩ := rel.cell j c' e
  exact ⟨v', by rw [List.getElem?_set_ne hj]; exact hv, ho⟩
theorem snd_asg {t : TE} {f : FE} (h : SndE K t f) {i : Nat} (hi : io i = false) : SndS K io (tAsg t (gName i)) (fAsg i f) := by
  intro ω env σ H E k rel fr hf kr
  refine h ω 0 env σ H _ _ rel fr hf fun v H1 ω1 e1 r rel1 st1 fr1 rr1 h1 => ?_
  cases r with
  | b _ _ _ => exact h1.elim
  | v n d =>
    have rp : Rp K (gc 0 ω1) H1 v d := rr1.gc rel1 (Nat.le_refl _)
    exact kr.nx _ H1 (gc 0 ω1) _ ((rel1.gc 0).put (c := sh d) rp) (st1.gc fr) gc_free (Keep.set hi) h1
def asO (i : Nat) : Ow → Ow
  | .tmp t p => if t = 0 then .own i p else .shr
  | o => o
theorem snd_asgO {t : TE} {f : FE} (h : SndE K t f) {i : Nat} (hi : io i = false) : SndS K io (tAsg t (gName i)) (fAsgO i f) := by
  intro ω env σ H E k rel fr hf kr
  refine h ω 0 env σ H _ _ rel fr hf fun v H1 ω1 e1 r rel1 st1 fr1 rr1 h1 => ?_
  cases r with
  | b _ _ _ => exact h1.elim
  | v n d =>
    have gsh : Sh ω1 H1 (ren (asO i) ω1) H1 := fun a o h e => ⟨h, by show asO i (ω1 a) = _; rw [e]; rfl⟩
    have rel2 : Rel K (ren (asO i) ω1) e1 σ H1 := by
      refine ⟨rel1.tab.ren rfl, rel1.len, fun j c e => ?_⟩
      obtain ⟨v', hv, ho⟩ := rel1.cell j c e
      exact ⟨v', hv, OwR.go gsh (fun a u p z1 z2 => ⟨z1, by show asO i (ω1 a) = _; rw [z2]; rfl⟩) _ _ _ _ ho⟩
    have ow : OwR K (ren (asO i) ω1) H1 n (Ow.own i) [] v d := OwR.go gsh (fun a u p z1 z2 => ⟨z1, by
      show asO i (ω1 a) = _
      rw [z2]
      show (if (0 : Nat) = 0 then Ow.own i p else Ow.shr) = _
      rw [if_pos rfl]⟩) _ _ _ _ rr1
    refine kr.nx _ H1 (ren (asO i) ω1) _ (rel2.put (c := ⟨n, d⟩) ow) (fun a o h n => ?_) (fun a t p e => ?_) (Keep.set hi) h1
    · rcases st1 a o h n with z | ⟨z1, z2⟩
      · exact .inl z
      · refine .inr ⟨z1, ?_⟩
        show asO i (ω1 a) = _
        rw [z2]
        cases y : ω a with
        | tmp t p => exact absurd (fr a t p y) (Nat.not_lt_zero _)
        | _ => rfl
    · have e' : asO i (ω1 a) = .tmp t p := e
      cases y : ω1 a with
      | tmp t' p' =>
        rw [y] at e'
        have e2 : (if t' = 0 then Ow.own i p' else .shr) = .tmp t p := e'
        by_cases h0 : t' = 0
        · rw [if_pos h0] at e2; cases e2
        · rw [if_neg h0] at e2; cases e2
      | _ => rw [y] at e'; cases e'
end
section
variable {X : Cx} {io : Nat → Bool} {e : Expr} {fa : FE} {pos pos' : Pos} {x : Str}
theorem ss_set (i : Nat) (hN : X.N.Nodup) (ha : SE X e fa) (hi : X.N[i]? = some x := by rfl) (hx : Loc X.env.scope x := by first | exact Or.inl rfl | exact Or.inr rfl) (hio : io i = false := by decide)
    (hs : swapsWith e (some (.Name x pos')) pos.line X.env = pure false := by rfl) (hf : X.fn x = true ∨ X.env.scope.names.lookup x = some .local := by first | exact .inl rfl | exact .inr rfl | assumption) : SSt X io (.Assign [.Name x pos'] e pos) (fAsg i fa) := by
  obtain ⟨t, p, s⟩ := ha.ex
  exact ⟨_, ps_set hN hi hx p hs hf, snd_asg s hio⟩
theorem ss_setO (i : Nat) (hN : X.N.Nodup) (ha : SE X e fa) (hi : X.N[i]? = some x := by rfl) (hx : Loc X.env.scope x := by first | exact Or.inl rfl | exact Or.inr rfl) (hio : io i = false := by decide)
    (hs : swapsWith e (some (.Name x pos')) pos.line X.env = pure false := by rfl) (hf : X.fn x = true ∨ X.env.scope.names.lookup x = some .local := by first | exact .inl rfl | exact .inr rfl | assumption) : SSt X io (.Assign [.Name x pos'] e pos) (fAsgO i fa) := by
  obtain ⟨t, p, s⟩ := ha.ex
  exact ⟨_, ps_set hN hi hx p hs hf, snd_asgO s hio⟩
end

/-! ### methods of a slot's own list -/
abbrev MT := List D → List D → (D → List D → Prop) → Prop
def SndM (K : Fg) (r : V → List V → Hp → VK → Prop) (m : MT) : Prop := ∀ ω H a vs ds xs es (R : D → List D → Prop) (Q : VK), H a = some (.lst vs) → RpAll K ω H vs ds → RpAll K ω H xs es → m ds es R →
  (∀ y vs' res ds', RpAll K ω H vs' ds' → Rp K ω H y res → R res ds' → Q y (upd H a (.lst vs'))) → r (.ref a) xs H Q
def isOwn : Option Cell → Prop
  | some ⟨1, .list _⟩ => True
  | _ => False
def onOwn (c : Option Cell) (P : List D → Prop) : Prop := match c with
  | some ⟨1, .list ds⟩ => P ds
  | _ => False
def fMth (i : Nat) (m : MT) (fa : FA) : FE := fun env R => isOwn (getC env i) ∧ fa env fun rs e => noB rs ∧ onOwn (getC e i) fun ds => m ds (dsOf rs) fun res ds' => R (.v 0 res) (e.set i (some (ow (.list ds'))))
theorem onOwn_ex {c : Option Cell} {P : List D → Prop} (h : onOwn c P) : ∃ ds, c = some (ow (.list ds)) ∧ P ds := by
  match c, h with
  | some ⟨1, .list ds⟩, h => exact ⟨ds, rfl, h⟩
theorem isOwn_ex {c : Option Cell} (h : isOwn c) : ∃ ds, c = some (ow (.list ds)) := by
  match c, h with
  | some ⟨1, .list ds⟩, h => exact ⟨ds, rfl⟩
section
variable {K : Fg} {ω : Om} {env : Env} {σ : Sg} {H : Hp}
theorem Rel.own (rel : Rel K ω env σ H) {i : Nat} {ds : List D} (h : getC env i = some (ow (.list ds))) : ∃ a vs, σ[i]? = some (some (.ref a)) ∧ H a = some (.lst vs) ∧ ω a = .own i [] ∧ RpAll K ω H vs ds := by
  obtain ⟨v, hv, ho⟩ := rel.cell i _ (getC_some h)
  have ho' : OwR K ω H 1 (Ow.own i) [] v (.list ds) := ho
  rcases ho' with ⟨z, _⟩ | ⟨a, vs, ds', e1, e2, h1, h2, el, hc⟩ | ⟨_, _, _, _, e2, _⟩ | ⟨_, _, _, _, _, _, _, e2, _⟩ | ⟨_, _, _, _, e2, _⟩
  · cases z
  · cases e2
    subst e1
    exact ⟨a, vs, hv, h1, h2, RpAll.of_get el hc⟩
  · cases e2
  · cases e2
  · first | (cases e2; done) | exact (dct_not_otp e2).elim | exact (dct_not_otp e2.symm).elim | exact (ins_not_otp e2.symm).elim | exact (ins_not_otp e2).elim | exact (exc_not_otp e2).elim | (subst e2; cases f; done)
theorem sh_upd {a : Addr} {u : HO} (h : ω a ≠ .shr) : Sh ω H ω (upd H a u) := fun b o hb e => by
  have ne : b ≠ a := fun z => by subst z; exact h e
  exact ⟨by rw [upd_ne ne]; exact hb, e⟩
/-- a slot's own list is written -/
theorem Rel.wr (rel : Rel K ω env σ H) {i : Nat} {a : Addr} {vs : List V} {ds : List D} (hσ : σ[i]? = some (some (.ref a))) (hi : i < env.length) (ho : ω a = .own i []) (h : RpAll K ω H vs ds) :
    Rel K ω (env.set i (some (ow (.list ds)))) σ (upd H a (.lst vs)) ∧ Step ω H ω (upd H a (.lst vs)) := by
  have hs : Sh ω H ω (upd H a (.lst vs)) := sh_upd (by rw [ho]; exact fun z => by cases z)
  refine ⟨⟨rel.tab.go fun b o hb e => ⟨by rw [upd_ne (fun z => by subst z; rw [ho] at e; cases e)]; exact hb, e⟩, by rw [List.length_set]; exact rel.len, fun j c e => ?_⟩, fun b o hb _ => ?_⟩
  · by_cases hj : i = j
    · subst hj
      rw [List.getElem?_set_self hi] at e
      cases e
      refine ⟨_, hσ, .inr (.inl ⟨a, vs, ds, rfl, rfl, upd_same, ho, h.length, fun n v' d' z1 z2 => ?_⟩)⟩
      exact Rp.sh hs _ _ (h.get z1 z2)
    · rw [List.getElem?_set_ne hj] at e
      obtain ⟨v', hv', ho'⟩ := rel.cell j c e
      refine ⟨v', hv', OwR.go hs (fun b u p z1 z2 => ⟨?_, z2⟩) _ _ _ _ ho'⟩
      have ne : b ≠ a := fun z => by subst z; rw [ho] at z2; cases z2; exact hj rfl
      rw [upd_ne ne]; exact z1
  · by_cases e : b = a
    · subst e; exact .inl ⟨i, [], ho⟩
    · exact .inr ⟨by rw [upd_ne e]; exact hb, rfl⟩
theorem snd_mth {i : Nat} {r : V → List V → Hp → VK → Prop} {m : MT} {t : TA} {fa : FA} (hm : SndM K r m) (ha : SndA K t fa) : SndE K (tBM K "list" r (tVar i) t) (fMth i m fa) := by
  intro ω T env σ H R Q rel fr hR q
  obtain ⟨hi, hR⟩ := hR
  obtain ⟨ds0, e0⟩ := isOwn_ex hi
  obtain ⟨a0, vs0, hσ, hH, _, _⟩ := rel.own e0
  refine ⟨.ref a0, hσ, .inl ⟨rfl, vs0, .inl (.inl hH)⟩, ?_⟩
  refine ha ω T env σ H _ _ rel fr hR fun xs H1 ω1 e1 rs rel1 st1 fr1 rr1 h1 => ?_
  obtain ⟨nb, h1⟩ := h1
  obtain ⟨ds, e2, h2⟩ := onOwn_ex h1
  obtain ⟨a, vs, hσ1, hH1, ho1, hp1⟩ := rel1.own e2
  have ea : a0 = a := by
    rw [hσ] at hσ1
    exact V.ref.inj (Option.some.inj (Option.some.inj hσ1))
  subst ea
  have il : i < e1.length := (List.getElem?_eq_some_iff.mp (getC_some e2)).1
  have va := rr1.gc (T0 := T) rel1 (Nat.le_refl _)
  have ho2 : gc T ω1 a0 = .own i [] := by show gcO T (ω1 a0) = _; rw [ho1]; rfl
  refine hm (gc T ω1) H1 a0 vs ds xs (dsOf rs) _ Q hH1 (RpAll.sh gc_sh _ _ hp1) (va.rp nb) h2 fun y vs' res ds' hv hy hR' => ?_
  obtain ⟨rel2, st2⟩ := (rel1.gc T).wr hσ1 il ho2 hv
  refine q y _ (gc T ω1) _ (.v 0 res) rel2 ((st1.gc fr).trans st2) gc_free.up ?_ hR'
  exact Rp.sh (sh_upd (by rw [ho2]; exact fun z => by cases z)) _ _ hy
end
def mAppend : MT := fun ds es R => match es with
  | [d] => ds.length < sizeLine ∧ R .none (ds ++ [d])
  | _ => False
def mExtend : MT := fun ds es R => match es with
  | [.list xs] => ds.length + xs.length ≤ sizeLine ∧ R .none (ds ++ xs)
  | _ => False
def mPopAt : MT := fun ds es R => match es with
  | [.int i] => ∃ j d, seqIndex? i ds.length = some j ∧ ds[j]? = some d ∧ (-(2 ^ 63) ≤ i ∧ i < 2 ^ 63) ∧ R d (ds.eraseIdx j)
  | _ => False
def mInsert : MT := fun ds es R => match es with
  | [.int i, d] => (ds.length < sizeLine ∧ 0 ≤ i ∧ i < 2 ^ 63) ∧ R .none (ds.take i.toNat ++ [d] ++ ds.drop i.toNat)
  | _ => False
section
variable {X : Cx} {K : Fg}
theorem sm_append : SndM K rAppend mAppend := by
  intro ω H a vs ds xs es R Q hH hp he h q
  match es, xs, he, h with
  | [d], [x], .cons hx .nil, h => exact ⟨a, vs, x, rfl, rfl, hH, by rw [hp.length]; exact h.1, q _ _ _ _ (hp.append (.cons hx .nil)) .non h.2⟩
theorem sm_popAt : SndM K rPopAt mPopAt := by
  intro ω H a vs ds xs es R Q hH hp he h q
  match es, xs, he, h with
  | [.int i], [x], .cons hx .nil, h =>
    obtain ⟨j, d, h1, h2, ⟨h3, h4⟩, h5⟩ := h
    obtain ⟨y, hy, ry⟩ := hp.at_ h2
    cases hx
    exact ⟨a, vs, i, j, y, rfl, rfl, hH, h3, h4, by rw [hp.length]; exact h1, hy, q _ _ _ _ (hp.eraseIdx j) ry h5⟩
theorem sm_insert : SndM K (fun x vs H Q => ∃ (l : Addr) (xs : List V) (i : Int) (y : V), x = .ref l ∧ vs = [.int i, y] ∧ H l = some (.lst xs) ∧ xs.length < sizeLine ∧ 0 ≤ i ∧ i < 2 ^ 63 ∧ Q .non (upd H l (.lst (xs.take i.toNat ++ [y] ++ xs.drop i.toNat)))) mInsert := by
  intro ω H a vs ds xs es R Q hH hp he h q
  match es, xs, he, h with
  | [.int i, d], [x, y], .cons hx (.cons hy .nil), h =>
    cases hx
    exact ⟨a, vs, i, y, rfl, rfl, hH, by rw [hp.length]; exact h.1.1, h.1.2.1, h.1.2.2, q _ _ _ _ (((hp.take _).append (.cons hy .nil)).append (hp.drop _)) .non h.2⟩
variable {e : Expr} {es : List Expr} {fa : FA} {x : Str} {p apos cpos : Pos}
theorem se_append (i : Nat) (ha : SA X [e] fa) (hN : X.N[i]? = some x := by rfl) (hv : Vis X.env.scope x := by first | exact Or.inl rfl | exact Or.inr (Or.inl rfl) | exact Or.inr (Or.inr rfl)) (hbase : attributeBase (.Name x p) "append" X.env (eval (.Name x p) X.env) = eval (.Name x p) X.env := by rfl)
    (hfew : ((backTo cpos (starEach [e] X.env)).all (fun x => !x.1) && (backToKw cpos (keywordEach [] X.env)).all (fun x => x.1.isSome) && decide ([e].length + ([] : List Keyword).length + (if ([] : List Keyword).isEmpty then 0 else 1) < 30)) = true := by rfl)
    (hline : (apos.endLine == cpos.line) = true := by rfl) (hs : starEach [e] X.env = (false, eval e X.env) :: starEach [] X.env := by rfl) (hd : (x == ("__debug__" : Str)) = false := by decide) (hcd : (x == ("__classdict__" : Str)) = false := by decide) :
    SE X (.Call (.Attribute (.Name x p) "append" apos) [e] [] cpos) (fMth i mAppend fa) := by
  obtain ⟨t, q, s⟩ := ha.ex
  exact ⟨_, pe_bm PySem.F.plainAttrs_list PySem.F.slot_list_append PySem.F.type_list_append mt_append (pe_var hN hv hd hcd) q hbase hfew hline hs rfl, snd_mth sm_append s⟩
end
end Pv

/-! Pv8: pop, stores at a place, several targets, loops. -/
namespace Pv
open PySem PySem.Spec PyProof.Rows L2

section
variable {X : Cx} {e e2 : Expr} {fa : FA} {x : Str} {p apos cpos : Pos}
theorem se_popAt (i : Nat) (ha : SA X [e] fa) (hN : X.N[i]? = some x := by rfl) (hv : Vis X.env.scope x := by first | exact Or.inl rfl | exact Or.inr (Or.inl rfl) | exact Or.inr (Or.inr rfl)) (hbase : attributeBase (.Name x p) "pop" X.env (eval (.Name x p) X.env) = eval (.Name x p) X.env := by rfl)
    (hfew : ((backTo cpos (starEach [e] X.env)).all (fun x => !x.1) && (backToKw cpos (keywordEach [] X.env)).all (fun x => x.1.isSome) && decide ([e].length + ([] : List Keyword).length + (if ([] : List Keyword).isEmpty then 0 else 1) < 30)) = true := by rfl)
    (hline : (apos.endLine == cpos.line) = true := by rfl) (hs : starEach [e] X.env = (false, eval e X.env) :: starEach [] X.env := by rfl) (hd : (x == ("__debug__" : Str)) = false := by decide) (hcd : (x == ("__classdict__" : Str)) = false := by decide) :
    SE X (.Call (.Attribute (.Name x p) "pop" apos) [e] [] cpos) (fMth i mPopAt fa) := by
  obtain ⟨t, q, s⟩ := ha.ex
  exact ⟨_, pe_bm PySem.F.plainAttrs_list PySem.F.slot_list_pop PySem.F.type_list_pop mt_popAt (pe_var hN hv hd hcd) q hbase hfew hline hs rfl, snd_mth sm_popAt s⟩
end

/-! ### x[j] = e -/
def atInt (P : Int → Prop) : D → Prop
  | .int i => P i
  | _ => False
/-- .. of a slot's own list -/
def fSetIx (i : Nat) (fa fj : FE) : FS := fun env k => fa env fun r e1 => noB [r] ∧ isOwn (getC e1 i) ∧ fj e1 fun rj e2 => onOwn (getC e2 i) fun ds => atInt (fun j => ∃ n, ixN ds.length j = some n ∧ k.nx (e2.set i (some (ow (.list (ds.set n r.d)))))) rj.d
theorem atInt_ex {P : Int → Prop} {d : D} (h : atInt P d) : ∃ i, d = .int i ∧ P i := by
  cases d <;> first
    | exact h.elim
    | exact ⟨_, rfl, h⟩
section
variable {K : Fg} {io : Nat → Bool}
theorem snd_setIx {i : Nat} {ta tj : TE} {fa fj : FE} (ha : SndE K ta fa) (hj : SndE K tj fj) : SndS K io (tAsg ta (gSub (tVar i) tj rSetL)) (fSetIx i fa fj) := by
  intro ω env σ H E k rel fr hf kr
  refine ha ω 0 env σ H _ _ rel fr hf fun v H1 ω1 e1 r rel1 st1 fr1 rr1 h1 => ?_
  obtain ⟨nb, ho, h1⟩ := h1
  obtain ⟨ds0, e0⟩ := isOwn_ex ho
  obtain ⟨a0, vs0, hσ, hH, _, _⟩ := rel1.own e0
  refine ⟨.ref a0, hσ, ?_⟩
  refine hj ω1 1 e1 σ H1 _ _ rel1 fr1 h1 fun jv H2 ω2 e2 rj rel2 st2 fr2 rr2 h2 => ?_
  obtain ⟨ds, e3, h3⟩ := onOwn_ex h2
  obtain ⟨j, ej, n, hn, hk⟩ := atInt_ex h3
  obtain ⟨a, vs, hσ1, hH2, ho2, hp2⟩ := rel2.own e3
  have ea : a0 = a := by
    rw [hσ] at hσ1
    exact V.ref.inj (Option.some.inj (Option.some.inj hσ1))
  subst ea
  have il : i < e2.length := (List.getElem?_eq_some_iff.mp (getC_some e3)).1
  have rp : Rp K (gc 0 ω2) H2 v r.d := by
    cases r with
    | b _ _ _ => exact nb.elim
    | v kk d => exact ResR.gc (env := e2) (r := .v kk d) (ResR.step (T' := 0) rr1 st2) rel2 (Nat.le_refl _)
  have hog : gc 0 ω2 a0 = .own i [] := by show gcO 0 (ω2 a0) = _; rw [ho2]; rfl
  have hpg : RpAll K (gc 0 ω2) H2 (vs.set n v) (ds.set n r.d) := RpAll.set rp n (RpAll.sh gc_sh _ _ hp2)
  obtain ⟨rel3, st3⟩ := (rel2.gc 0).wr hσ1 il hog hpg
  refine ⟨a0, vs, j, n, rfl, rr2.int_ rel2 ej, hH2, by rw [hp2.length]; exact hn, ?_⟩
  exact kr.nx σ _ (gc 0 ω2) _ rel3 (((st1.trans st2).gc fr).trans st3) gc_free Keep.refl hk
end
section
variable {X : Cx} {io : Nat → Bool} {e j : Expr} {fa fj : FE} {x : Str} {p pos' pos : Pos}
theorem ss_setIx (i : Nat) (ha : SE X e fa) (hj : SE X j fj) (hN : X.N[i]? = some x := by rfl) (hv : Vis X.env.scope x := by first | exact Or.inl rfl | exact Or.inr (Or.inl rfl) | exact Or.inr (Or.inr rfl)) (hd : (x == ("__debug__" : Str)) = false := by decide) (hcd : (x == ("__classdict__" : Str)) = false := by decide)
    (hasg : ∀ v, assign (.Subscript (.Name x p) j pos') X.env v = (do
      let ov ← holding [v] (eval (.Name x p) X.env)
      let iv ← holding [v, ov] (eval j X.env)
      standAt pos'
      holding [v, ov, iv] (setItem ov iv v)
      release [v, ov, iv] []) := by intro _; rfl)
    (hs : swapsWithSole [.Subscript (.Name x p) j pos'] e pos.line X.env = pure false := by rfl) (hw : swappedStores [.Subscript (.Name x p) j pos'] e X.env = pure none := by rfl)
    (h1 : (assignEach [.Subscript (.Name x p) j pos'] X.env).map (·.2) = [assign (.Subscript (.Name x p) j pos') X.env] := by rfl) : SSt X io (.Assign [.Subscript (.Name x p) j pos'] e pos) (fSetIx i fa fj) := by
  obtain ⟨t, q, s⟩ := ha.ex
  obtain ⟨u, q', s'⟩ := hj.ex
  exact ⟨_, ps_asg q (pg_sub (pe_var hN hv hd hcd) q' set_list hasg) hs hw h1, snd_setIx s s'⟩
end

/-! ### x += e of ints -/
def fAug (i : Nat) (op : Int → Int → Int) (fa : FE) : FS := fun env k => ∃ a : Int, getC env i = some (sh (.int a)) ∧ fa env fun r e => atInt (fun b => k.nx (e.set i (some (sh (.int (op a b)))))) r.d
section
variable {K : Fg} {io : Nat → Bool}
theorem snd_aug {i : Nat} {op : Int → Int → Int} {ta : TE} {fa : FE} (ha : SndE K ta fa) (hi : io i = false) : SndS K io (tAug i ta (ipI op)) (fAug i op fa) := by
  intro ω env σ H E k rel fr hf kr
  obtain ⟨a, e0, hf⟩ := hf
  obtain ⟨v, hv, ho⟩ := rel.cell i _ (getC_some e0)
  have hv' : v = .int a := by
    have h' : Rp K ω H v (.int a) := ho
    cases h'; rfl
  subst hv'
  refine ⟨.int a, hv, ?_⟩
  refine ha ω 0 env σ H _ _ rel fr hf fun y H1 ω1 e1 r rel1 st1 fr1 rr1 h1 => ?_
  obtain ⟨b, eb, hk⟩ := atInt_ex h1
  refine ⟨a, b, rfl, rr1.int_ rel1 eb, ?_⟩
  exact kr.nx _ H1 (gc 0 ω1) _ ((rel1.gc 0).put (c := sh (.int (op a b))) (Rp.int _)) (st1.gc fr) gc_free (Keep.set hi) hk
end
section
variable {X : Cx} {io : Nat → Bool} {e : Expr} {fa : FE} {x : Str} {pos' pos : Pos}
theorem ss_augAdd (i : Nat) (hN : X.N.Nodup) (ha : SE X e fa) (hi : X.N[i]? = some x := by rfl) (hx : Loc X.env.scope x := by first | exact Or.inl rfl | exact Or.inr rfl) (hio : io i = false := by decide)
    (hf : X.fn x = true ∨ X.env.scope.names.lookup x = some .local := by first | exact .inl rfl | exact .inr rfl | assumption) : SSt X io (.AugAssign (.Name x pos') .Add e pos) (fAug i (fun a b => a + b) fa) := by
  obtain ⟨t, q, s⟩ := ha.ex
  exact ⟨_, ps_aug hN hi hx q ip_add hf, snd_aug s hio⟩
theorem ss_augSub (i : Nat) (hN : X.N.Nodup) (ha : SE X e fa) (hi : X.N[i]? = some x := by rfl) (hx : Loc X.env.scope x := by first | exact Or.inl rfl | exact Or.inr rfl) (hio : io i = false := by decide)
    (hf : X.fn x = true ∨ X.env.scope.names.lookup x = some .local := by first | exact .inl rfl | exact .inr rfl | assumption) : SSt X io (.AugAssign (.Name x pos') .Sub e pos) (fAug i (fun a b => a - b) fa) := by
  obtain ⟨t, q, s⟩ := ha.ex
  exact ⟨_, ps_aug hN hi hx q ip_sub hf, snd_aug s hio⟩
end

/-! ### targets -/
abbrev FG := D → Env → Option Env
abbrev FGs := List D → Env → Option Env
def SndG (K : Fg) (io : Nat → Bool) (t : TG) (g : FG) : Prop := ∀ (v : V) (d : D) (ω : Om) (env : Env) (σ : Sg) (H : Hp) (env' : Env) (Q : Sg → Hp → Prop), Rel K ω env σ H → Rp K ω H v d → g d env = some env' → (∀ σ', Rel K ω env' σ' H → Keep io σ σ' → Q σ' H) → t v σ H Q
def SndGs (K : Fg) (io : Nat → Bool) (t : TGs) (g : FGs) : Prop := ∀ (vs : List V) (ds : List D) (ω : Om) (env : Env) (σ : Sg) (H : Hp) (env' : Env) (Q : Sg → Hp → Prop), Rel K ω env σ H → RpAll K ω H vs ds → g ds env = some env' → (∀ σ', Rel K ω env' σ' H → Keep io σ σ' → Q σ' H) → t vs σ H Q
structure SG (X : Cx) (io : Nat → Bool) (tg : Expr) (g : FG) : Prop where
  ex : ∃ t : TG, PG X tg t ∧ SndG X.K io t g
structure SGs (X : Cx) (io : Nat → Bool) (tgs : List Expr) (g : FGs) : Prop where
  ex : ∃ t : TGs, PGs X tgs t ∧ SndGs X.K io t g
def gN (i : Nat) : FG := fun d e => some (e.set i (some (sh d)))
def gsNil : FGs := fun ds e => match ds with
  | [] => some e
  | _ => none
def gsCons (g : FG) (gs : FGs) : FGs := fun ds e => match ds with
  | d :: r => match g d e with
    | some e' => gs r e'
    | none => none
  | _ => none
@[irreducible] def unpk (n : Nat) (gs : FGs) (d : D) (e : Env) : Option Env := match d with
  | .tuple ds => if ds.length = n then gs ds e else none
  | .list ds => if ds.length = n then gs ds e else none
  | _ => none
theorem unpk_t {n : Nat} {gs : FGs} {ds : List D} {e : Env} : unpk n gs (.tuple ds) e = if ds.length = n then gs ds e else none := by unfold unpk; rfl
theorem unpk_l {n : Nat} {gs : FGs} {ds : List D} {e : Env} : unpk n gs (.list ds) e = if ds.length = n then gs ds e else none := by unfold unpk; rfl
def gT (n : Nat) (gs : FGs) : FG := fun d e => unpk n gs d e
section
variable {X : Cx} {io : Nat → Bool} {pos : Pos}
theorem PG.or {tg : Expr} {t t' : TG} (h : PG X tg t) (h' : PG X tg t') : PG X tg (fun v σ H Q => t v σ H Q ∨ t' v σ H Q) :=
  ⟨fun pins s σ H v u Q I r w => w.elim (h.run pins s σ H v u Q I r) (h'.run pins s σ H v u Q I r)⟩
theorem sg_name (i : Nat) {x : Str} (hN : X.N.Nodup) (hi : X.N[i]? = some x := by rfl) (hx : Loc X.env.scope x := by first | exact Or.inl rfl | exact Or.inr rfl) (hio : io i = false := by decide)
    (hf : X.fn x = true ∨ X.env.scope.names.lookup x = some .local := by first | exact .inl rfl | exact .inr rfl | assumption) : SG X io (.Name x pos) (gN i) := by
  refine ⟨_, pg_name hN hi hx hf, fun v d ω env σ H env' Q rel rp he q => ?_⟩
  cases he
  exact q _ (rel.put (c := sh d) rp) (Keep.set hio)
theorem sgs_nil : SGs X io [] gsNil := by
  refine ⟨_, pgs_nil, fun vs ds ω env σ H env' Q rel rp he q => ?_⟩
  cases rp with
  | nil => cases he; exact ⟨rfl, q σ rel Keep.refl⟩
  | cons _ _ => cases he
theorem sgs_cons {e : Expr} {es : List Expr} {g : FG} {gs : FGs} (h1 : SG X io e g) (h2 : SGs X io es gs)
    (hs : (assignEach (e :: es) X.env).map (·.2) = assign e X.env :: (assignEach es X.env).map (·.2) := by rfl) : SGs X io (e :: es) (gsCons g gs) := by
  obtain ⟨t, p, s⟩ := h1.ex
  obtain ⟨u, p', s'⟩ := h2.ex
  refine ⟨_, pgs_cons p p' hs, fun vs ds ω env σ H env' Q rel rp he q => ?_⟩
  cases rp with
  | nil => cases he
  | cons r1 r2 =>
    rename_i v vs d ds
    have he' : (match g d env with | some e' => gs ds e' | none => none) = some env' := he
    cases hg : g d env with
    | none => rw [hg] at he'; cases he'
    | some e1 =>
      rw [hg] at he'
      refine ⟨v, vs, rfl, s v d ω env σ H e1 _ rel r1 hg fun σ1 rel1 k1 => ?_⟩
      exact s' vs ds ω e1 σ1 H env' Q rel1 r2 he' fun σ2 rel2 k2 => q σ2 rel2 (k1.trans k2)
theorem sg_tup {es : List Expr} {k n : Nat} {gs : FGs} (hc : X.calm = true) (h : SGs X io es gs)
    (hn : (assignEach es X.env).length = n := by rfl) (hst : (assignEach es X.env).findIdx? (·.1) = none := by rfl) : SG X io (.Tuple es k pos) (gT n gs) := by
  obtain ⟨t, p, s⟩ := h.ex
  refine ⟨_, PG.or (pg_tup hc p hn hst) (pg_unl hc p hn hst), fun v d ω env σ H env' Q rel rp he q => ?_⟩
  unfold gT unpk at he
  cases d <;> first
    | (cases he; done)
    | skip
  · rename_i ds
    have he' : (if ds.length = n then gs ds env else none) = some env' := he
    by_cases hl : ds.length = n
    · rw [if_pos hl] at he'
      cases rp with
      | lst hs ha => exact .inr ⟨_, _, rfl, hs.seq, by rw [ha.length]; exact hl, s _ _ ω env σ H env' Q rel ha he' q⟩
    · rw [if_neg hl] at he'; cases he'
  · rename_i ds
    have he' : (if ds.length = n then gs ds env else none) = some env' := he
    by_cases hl : ds.length = n
    · rw [if_pos hl] at he'
      obtain ⟨a, vs, rfl, hs, ha⟩ := rp.tup_
      exact .inl ⟨_, _, rfl, hs, by rw [ha.length]; exact hl, s _ _ ω env σ H env' Q rel ha he' q⟩
    · rw [if_neg hl] at he'; cases he'
end
/-- targets = e -/
def toEnv (P : Env → Prop) : Option Env → Prop
  | some e => P e
  | none => False
def fUnp (g : FG) (fa : FE) : FS := fun env k => fa env fun r e => noB [r] ∧ toEnv k.nx (g r.d e)
theorem unpk_tE {P : Env → Prop} {n : Nat} {gs : FGs} {ds : List D} {e : Env} (h : toEnv P (if ds.length = n then gs ds e else none)) : toEnv P (unpk n gs (.tuple ds) e) := by rw [unpk_t]; exact h
theorem unpk_lE {P : Env → Prop} {n : Nat} {gs : FGs} {ds : List D} {e : Env} (h : toEnv P (if ds.length = n then gs ds e else none)) : toEnv P (unpk n gs (.list ds) e) := by rw [unpk_l]; exact h
section
variable {X : Cx} {io : Nat → Bool} {tg e : Expr} {g : FG} {fa : FE} {pos : Pos}
theorem toEnv_ex {P : Env → Prop} {o : Option Env} (h : toEnv P o) : ∃ e, o = some e ∧ P e := by
  cases o with
  | none => exact h.elim
  | some e => exact ⟨e, rfl, h⟩
theorem ss_unp (ha : SE X e fa) (hg : SG X io tg g) (hs : swapsWithSole [tg] e pos.line X.env = pure false := by rfl) (hw : swappedStores [tg] e X.env = pure none := by rfl)
    (h1 : (assignEach [tg] X.env).map (·.2) = [assign tg X.env] := by rfl) : SSt X io (.Assign [tg] e pos) (fUnp g fa) := by
  obtain ⟨t, p, s⟩ := ha.ex
  obtain ⟨u, p', s'⟩ := hg.ex
  refine ⟨_, ps_asg p p' hs hw h1, fun ω env σ H E k rel fr hf kr => ?_⟩
  refine s ω 0 env σ H _ _ rel fr hf fun v H1 ω1 e1 r rel1 st1 fr1 rr1 h1 => ?_
  obtain ⟨nb, h1⟩ := h1
  obtain ⟨e2, he, hk⟩ := toEnv_ex h1
  cases r with
  | b _ _ _ => exact nb.elim
  | v n d =>
    have rp : Rp X.K (gc 0 ω1) H1 v d := rr1.gc rel1 (Nat.le_refl _)
    exact s' v d (gc 0 ω1) e1 σ H1 e2 _ (rel1.gc 0) rp he fun σ2 rel2 k2 => kr.nx σ2 H1 (gc 0 ω1) e2 rel2 (st1.gc fr) gc_free k2 hk
end

/-! ### what is walked -/
def sameAt (r : Res) (σ σ1 : Sg) : Prop := match r with
  | .v _ _ => True
  | .b i _ _ => σ1[i]? = σ[i]?
def Iters (K : Fg) (σ : Sg) (ω : Om) (H : Hp) (J : It) (r : Res) (items : List D) : Prop := ∀ (ω1 : Om) (H1 : Hp) (env1 : Env) (σ1 : Sg), Rel K ω1 env1 σ1 H1 → Sh ω H ω1 H1 → okb env1 r → sameAt r σ σ1 → ∀ i : Nat,
  (∀ d, items[i]? = some d → J.go i H1 ∧ ∀ x H2, J.yld i H1 x H2 → ∃ ω2, Grow ω1 H1 ω2 H2 ∧ (∀ T, Free ω1 T → Free ω2 T) ∧ Rp K ω2 H2 x d) ∧ (items.length ≤ i → J.stop i H1)
abbrev FI := Env → (Res → List D → Env → Prop) → Prop
def SndI (K : Fg) (wi : TI) (f : FI) : Prop := ∀ (ω : Om) (T : Nat) (env : Env) (σ : Sg) (H : Hp) (R : Res → List D → Env → Prop) (Q : It → Hp → Prop), Rel K ω env σ H → Free ω T → f env R →
  (∀ J H' ω' env' r items, Rel K ω' env' σ H' → Step ω H ω' H' → Free ω' T → Iters K σ ω' H' J r items → okb env' r → R r items env' → Q J H') → wi σ H Q
structure SI (X : Cx) (tg iter : Expr) (f : FI) : Prop where
  ex : ∃ wi : TI, PI X tg iter wi ∧ SndI X.K wi f
/-- a list or a tuple -/
def overSeq (r : Res) (P : Res → List D → Prop) : D → Prop
  | .list ds => flat r ∧ P r ds
  | .tuple ds => P (.v 0 .none) ds
  | _ => False
def fSeqI (fa : FE) : FI := fun env R => fa env fun r e => ovr (overSeq r fun r' ds => R r' ds e) r.d
/-- range -/
def rngD (lo hi : Int) : List D := (List.range (hi - lo).toNat).map fun i => PyData.int (lo + (i : Nat))
def fRange1 (fa : FA) : FI := fun env R => fa env fun rs e => match rs with
  | [r] => atInt (fun n => (-(2 ^ 62) ≤ n ∧ n < 2 ^ 62) ∧ R (.v 0 .none) (rngD 0 n) e) r.d
  | _ => False
def fRange2 (fa : FA) : FI := fun env R => fa env fun rs e => match rs with
  | [r, r'] => atInt (fun m => atInt (fun n => (-(2 ^ 62) ≤ m ∧ m < 2 ^ 62 ∧ -(2 ^ 62) ≤ n ∧ n < 2 ^ 62) ∧ R (.v 0 .none) (rngD m n) e) r'.d) r.d
  | _ => False
section
variable {X : Cx} {K : Fg} {σ : Sg} {ω : Om} {H : Hp}
theorem PI.or {tg iter : Expr} {w1 w2 : TI} (h : PI X tg iter w1) (h' : PI X tg iter w2) : PI X tg iter (fun σ H R => w1 σ H R ∨ w2 σ H R) :=
  ⟨fun pins s σ H R I w => w.elim (h.run pins s σ H R I) (h'.run pins s σ H R I)⟩
theorem iters_list {a : Addr} {vs : List V} {ds : List D} (h : H a = some (.lst vs)) (ho : ω a = .shr) (hp : RpAll K ω H vs ds) {k : Nat} {d : D} : Iters K σ ω H (Itl K a) (.v k d) ds := by
  intro ω1 H1 env1 σ1 rel g _ _ i
  obtain ⟨h1, _⟩ := g a _ h ho
  have hs : SqL K H1 a vs := .inl (.inl h1)
  have hp1 := RpAll.sh g _ _ hp
  refine ⟨fun c hc => ?_, fun hl => ⟨vs, hs, by rw [hp.length]; exact hl⟩⟩
  obtain ⟨v, hv, rv⟩ := hp1.at_ hc
  refine ⟨⟨vs, v, hs, hv⟩, fun x H2 y => ?_⟩
  obtain ⟨y1, y2⟩ := y
  subst y1
  have e := y2 vs hs
  rw [hv] at e
  cases e
  exact ⟨ω1, Grow.refl, fun _ f => f, rv⟩
theorem iters_tup {a : Addr} {vs : List V} {ds : List D} (h : SU K ω H a vs) (hp : RpAll K ω H vs ds) {k : Nat} {d : D} : Iters K σ ω H (Itt K a) (.v k d) ds := by
  intro ω1 H1 env1 σ1 rel g _ _ i
  have hs : SqT K H1 a vs := (h.sh g).seq
  have hp1 := RpAll.sh g _ _ hp
  refine ⟨fun c hc => ?_, fun hl => ⟨vs, hs, by rw [hp.length]; exact hl⟩⟩
  obtain ⟨v, hv, rv⟩ := hp1.at_ hc
  refine ⟨⟨vs, v, hs, hv⟩, fun x H2 y => ?_⟩
  obtain ⟨y1, y2⟩ := y
  subst y1
  have e := y2 vs hs
  rw [hv] at e
  cases e
  exact ⟨ω1, Grow.refl, fun _ f => f, rv⟩
theorem iters_own {i0 k : Nat} {a : Addr} {ds : List D} (hσ : σ[i0]? = some (some (.ref a))) (hk : k ≤ 1) : Iters K σ ω H (Itl K a) (.b i0 k (.list ds)) ds := by
  intro ω1 H1 env1 σ1 rel g hb hs i
  obtain ⟨v, hv, ho⟩ := rel.cell i0 _ hb
  have ev : v = .ref a := by
    have e : σ1[i0]? = σ[i0]? := hs
    rw [hv, hσ] at e
    exact Option.some.inj (Option.some.inj e)
  subst ev
  obtain ⟨a', vs, e1, h1, hp1⟩ : ∃ a' vs, V.ref a = .ref a' ∧ H1 a' = some (.lst vs) ∧ RpAll K ω1 H1 vs ds := Vw.lst (r := .b i0 k (.list ds)) ho hk rfl
  cases e1
  have hs : SqL K H1 a vs := .inl (.inl h1)
  refine ⟨fun c hc => ?_, fun hl => ⟨vs, hs, by rw [hp1.length]; exact hl⟩⟩
  obtain ⟨v, hv, rv⟩ := hp1.at_ hc
  refine ⟨⟨vs, v, hs, hv⟩, fun x H2 y => ?_⟩
  obtain ⟨y1, y2⟩ := y
  subst y1
  have e := y2 vs hs
  rw [hv] at e
  cases e
  exact ⟨ω1, Grow.refl, fun _ f => f, rv⟩
theorem iters_rng {lo hi : Int} {k : Nat} {d : D} : Iters K σ ω H (Itr lo (hi - lo).toNat) (.v k d) (rngD lo hi) := by
  intro ω1 H1 env1 σ1 rel g _ _ i
  refine ⟨fun c hc => ?_, fun hl => by
    show (hi - lo).toNat ≤ i
    unfold rngD at hl
    rw [List.length_map, List.length_range] at hl
    exact hl⟩
  unfold rngD at hc
  rw [List.getElem?_map] at hc
  cases hr : (List.range (hi - lo).toNat)[i]? with
  | none => rw [hr] at hc; cases hc
  | some j =>
    obtain ⟨hlt, ej⟩ := List.getElem?_eq_some_iff.mp hr
    rw [List.getElem_range] at ej
    subst ej
    rw [hr] at hc
    cases hc
    rw [List.length_range] at hlt
    refine ⟨hlt, fun x H2 y => ?_⟩
    obtain ⟨y1, y2⟩ := y
    subst y1 y2
    exact ⟨ω1, Grow.refl, fun _ f => f, .int _⟩
def iSeqA (K : Fg) (tl : TE) : TI := fun σ H R => tl σ H fun x H1 => (∃ a, x = .ref a ∧ (∃ xs, SqL K H1 a xs) ∧ R (Itl K a) H1) ∨ (∃ a, x = .ref a ∧ (∃ xs, SqT K H1 a xs) ∧ R (Itt K a) H1)
theorem pi_seqA {tg l : Expr} {tl : TE} (hl : PE X l tl) : PI X tg l (iSeqA X.K tl) := by
  refine ⟨fun pins s σ H R I h => ?_⟩
  refine thn (hl.run pins s σ H _ I h) fun v s1 ⟨x, H1, I1, r1, q1⟩ => ?_
  rcases q1 with q1 | q1
  · obtain ⟨a, e, ⟨xs, hq⟩, q⟩ := q1
    subst e
    cases r1
    obtain ⟨its, rv, p, hz⟩ := I1.list hq
    refine wpAny_pyIter_list p.isList ?_
    refine ⟨s1.heap.objs.size, [s1.heap.objs.size], _, _, H1, rfl, I1.kept (t' := s1.toks) fun b o e => Heap.get?_push_of_some _ e, turn_list a _, ⟨_, Heap.get?_push_size _ rfl, rfl, rfl⟩, fun b hb => ?_, q⟩
    have e : b = s1.heap.objs.size := by simpa using hb
    subst e
    exact I1.fpOk (Nat.le_refl _) (I1.hok.fresh (Nat.le_refl _))
  · obtain ⟨a, e, ⟨xs, hq⟩, q⟩ := q1
    subst e
    cases r1
    obtain ⟨its, rv, p, hz⟩ := I1.tuple hq
    refine wpAny_pyIter_tuple (show s1.heap.IsTuple a its.toArray from p) ?_
    refine ⟨s1.heap.objs.size, [s1.heap.objs.size], _, _, H1, rfl, I1.kept (t' := s1.toks) fun b o e => Heap.get?_push_of_some _ e, turn_tuple a _, ⟨_, Heap.get?_push_size _ rfl, rfl, rfl⟩, fun b hb => ?_, q⟩
    have e : b = s1.heap.objs.size := by simpa using hb
    subst e
    exact I1.fpOk (Nat.le_refl _) (I1.hok.fresh (Nat.le_refl _))
theorem okb_of {ω : Om} {H : Hp} {σ : Sg} {env : Env} {T : Nat} {v : V} {r : Res} (h : ResR K ω H σ env T v r) : okb env r := by
  cases r with
  | v k d => trivial
  | b i k d => exact h.1
theorem snd_seqI {t : TE} {fa : FE} (ha : SndE K t fa) : SndI K (iSeqA K t) (fSeqI fa) := by
  intro ω T env σ H R Q rel fr hR q
  refine ha ω T env σ H _ _ rel fr hR fun x H1 ω1 e1 r rel1 st1 fr1 rr1 h1 => ?_
  have vw := rr1.gc (T := T) rel1 (Nat.le_refl _)
  have ok := okb_of rr1
  have h1 := ovr_cl h1
  generalize ed : r.d = d at h1
  cases d <;> first
    | exact h1.elim
    | skip
  · rename_i ds
    obtain ⟨f, h1⟩ := h1
    cases r with
    | v k d' =>
      have ed' : d' = .list ds := ed
      subst ed'
      have rp : Rp K (gc T ω1) H1 x (.list ds) := vw
      cases rp with
      | lst hs hp => exact .inl ⟨_, rfl, ⟨_, hs.seq⟩, q _ H1 (gc T ω1) e1 _ ds (rel1.gc T) (st1.gc fr) gc_free (iters_list hs.1 hs.2 hp) ok h1⟩
    | b i k d' =>
      have ed' : d' = .list ds := ed
      subst ed'
      obtain ⟨a, vs, rfl, ha', hp⟩ := vw.lst f rfl
      exact .inl ⟨a, rfl, ⟨vs, .inl (.inl ha')⟩, q _ H1 (gc T ω1) e1 _ ds (rel1.gc T) (st1.gc fr) gc_free (iters_own rr1.2 f) ok h1⟩
  · rename_i ds
    have rp := vw.rpT ed
    cases rp with
    | tup hs hp => exact .inr ⟨_, rfl, ⟨_, hs.seq⟩, q _ H1 (gc T ω1) e1 (.v 0 .none) ds (rel1.gc T) (st1.gc fr) gc_free (iters_tup hs hp) trivial h1⟩
theorem si_seq {tg e : Expr} {fa : FE} (ha : SE X e fa) : SI X tg e (fSeqI fa) := by
  obtain ⟨t, p, s⟩ := ha.ex
  exact ⟨_, pi_seqA p, snd_seqI s⟩
theorem VwAll.one {vs : List V} {r : Res} (h : VwAll K ω H vs [r]) : ∃ v, vs = [v] ∧ Vw K ω H v r := by
  match vs, h with
  | [v], h => exact ⟨v, rfl, h.1⟩
theorem VwAll.two {vs : List V} {r r' : Res} (h : VwAll K ω H vs [r, r']) : ∃ v v', vs = [v, v'] ∧ Vw K ω H v r ∧ Vw K ω H v' r' := by
  match vs, h with
  | [v, v'], h => exact ⟨v, v', rfl, h.1, h.2.1⟩
theorem si_range1 {tg a : Expr} {fa : FA} {p pos : Pos} (hm : X.mg "range" = none) (ha : SA X [a] fa) (hg : Gl X "range" := by rfl) (hs : starEach [a] X.env = [(false, eval a X.env)] := by rfl) : SI X tg (.Call (.Name "range" p) [a] [] pos) (fRange1 fa) := by
  obtain ⟨t, p, s⟩ := ha.ex
  refine ⟨_, pi_range1 hg hm p hs, fun ω T env σ H R Q rel fr hR q => ?_⟩
  refine s ω T env σ H _ _ rel fr hR fun vs H1 ω1 e1 rs rel1 st1 fr1 rr1 h1 => ?_
  match rs, h1, rr1 with
  | [r], h1, rr1 =>
    obtain ⟨n, en, ⟨b1, b2⟩, hn⟩ := atInt_ex h1
    obtain ⟨v, rfl, hv⟩ := (rr1.gc (T0 := T) rel1 (Nat.le_refl _)).one
    refine ⟨n, by rw [hv.int en], b1, b2, ?_⟩
    have it : Iters X.K σ (gc T ω1) H1 (Itr 0 n.toNat) (.v 0 .none) (rngD 0 n) := by
      have := iters_rng (K := X.K) (σ := σ) (ω := gc T ω1) (H := H1) (lo := 0) (hi := n) (k := 0) (d := .none)
      rw [show (n - 0).toNat = n.toNat by rw [Int.sub_zero]] at this
      exact this
    exact q _ H1 (gc T ω1) e1 _ _ (rel1.gc T) (st1.gc fr) gc_free it trivial hn
end

/-! ### for, while -/
def forGo (g : FG) (body : FS) (k : Kt) : List D → Env → Prop
  | [], e => k.nx e
  | d :: ds, e => toEnv (fun e1 => body e1 { k with nx := forGo g body k ds, ct := forGo g body k ds, bk := k.nx }) (g d e)
/-- a walk that is looked at as a whole -/
@[irreducible] def apF (P : List D → Env → Prop) (ds : List D) (e : Env) : Prop := P ds e
theorem apF_op {P : List D → Env → Prop} {ds : List D} {e : Env} (h : P ds e) : apF P ds e := by unfold apF; exact h
theorem apF_cl {P : List D → Env → Prop} {ds : List D} {e : Env} (h : apF P ds e) : P ds e := by unfold apF at h; exact h
theorem apF_eq {P : List D → Env → Prop} {ds : List D} {e : Env} : apF P ds e = P ds e := by unfold apF; rfl
@[irreducible] def apL (P : List D → List D → Env → Prop) (ds acc : List D) (e : Env) : Prop := P ds acc e
theorem apL_op {P : List D → List D → Env → Prop} {ds acc : List D} {e : Env} (h : P ds acc e) : apL P ds acc e := by unfold apL; exact h
theorem apL_cl {P : List D → List D → Env → Prop} {ds acc : List D} {e : Env} (h : apL P ds acc e) : P ds acc e := by unfold apL at h; exact h
theorem apL_eq {P : List D → List D → Env → Prop} {ds acc : List D} {e : Env} : apL P ds acc e = P ds acc e := by unfold apL; rfl
def fFor (fi : FI) (g : FG) (body : FS) : FS := fun env k => fi env fun r ds e => noB [r] ∧ apF (forGo g body k) ds e
def whGo (c : FT) (body : FS) (k : Kt) : Nat → Env → Prop
  | 0, _ => False
  | n + 1, e => c e fun b e' => match b with
    | true => body e' { k with nx := whGo c body k n, ct := whGo c body k n, bk := k.nx }
    | false => k.nx e'
def fWhile (c : FT) (body : FS) : FS := fun env k => ∃ n, whGo c body k n env
section
variable {K : Fg} {io : Nat → Bool}
theorem snd_for {wi : TI} {t : TG} {tb : TS} {fi : FI} {g : FG} {body : FS} (hi : SndI K wi fi) (hg : SndG K io t g) (hb : SndS K io tb body) : SndS K io (tFor wi t tb) (fFor fi g body) := by
  intro ω env σ H E k rel fr hf kr
  refine hi ω 0 env σ H _ _ rel fr hf fun J H1 ω1 e1 r items rel1 st1 fr1 it ok1 h1 => ?_
  obtain ⟨nb, h1⟩ := h1
  have h1 := apF_cl h1
  cases r with
  | b _ _ _ => exact nb.elim
  | v kk dd =>
    refine ⟨fun i m σ2 H2 => m = items.length - i ∧ i ≤ items.length ∧ ∃ ω2 e2, Rel K ω2 e2 σ2 H2 ∧ Step ω1 H1 ω2 H2 ∧ Free ω2 0 ∧ Keep io σ σ2 ∧ forGo g body k (items.drop i) e2,
      ⟨items.length, by simp, Nat.zero_le _, ω1, e1, rel1, Step.refl, fr1, Keep.refl, h1⟩, ?_⟩
    rintro i m σ2 H2 ⟨rfl, hil, ω2, e2, rel2, st2, fr2, kp2, h2⟩
    obtain ⟨go, stop⟩ := it ω2 H2 e2 σ2 rel2 st2.sh trivial trivial i
    by_cases hlt : i < items.length
    · refine .inr ?_
      have e0 : items[i]? = some items[i] := List.getElem?_eq_getElem hlt
      have ed : items.drop i = items[i] :: items.drop (i + 1) := List.drop_eq_getElem_cons hlt
      rw [ed] at h2
      obtain ⟨g1, g2⟩ := go _ e0
      refine ⟨g1, fun σ' H' => ∃ ω' e', Rel K ω' e' σ' H' ∧ Step ω1 H1 ω' H' ∧ Free ω' 0 ∧ Keep io σ σ' ∧ forGo g body k (items.drop (i + 1)) e', fun σ' H' ⟨ω', e', a1, a2, a3, a4, a5⟩ => ⟨items.length - (i + 1), by omega, rfl, hlt, ω', e', a1, a2, a3, a4, a5⟩, fun x H3 y => ?_⟩
      obtain ⟨ω3, gr, fr3, rp⟩ := g2 x H3 y
      obtain ⟨e3, he, hbody⟩ := toEnv_ex (P := fun e1 => body e1 { k with nx := forGo g body k (items.drop (i + 1)), ct := forGo g body k (items.drop (i + 1)), bk := k.nx }) h2
      refine hg x _ ω3 e2 σ2 H3 e3 _ (rel2.grow gr) rp he fun σ4 rel4 kp4 => ?_
      refine hb ω3 e3 σ4 H3 _ _ rel4 (fr3 0 fr2) hbody ⟨fun σ' H' ω' env' a b c d e => ?_, fun σ' H' ω' env' a b c d e => ?_, fun σ' H' ω' env' a b c d e => ?_, fun v σ' H' ω' env' r a b c d e f => ?_⟩
      · exact ⟨ω', env', a, (st2.grow gr).trans b, c, (kp2.trans kp4).trans d, e⟩
      · exact kr.nx σ' H' ω' env' a (st1.trans ((st2.grow gr).trans b)) c ((kp2.trans kp4).trans d) e
      · exact ⟨ω', env', a, (st2.grow gr).trans b, c, (kp2.trans kp4).trans d, e⟩
      · exact kr.rt v σ' H' ω' env' r a (st1.trans ((st2.grow gr).trans b)) c ((kp2.trans kp4).trans d) e f
    · have ei : i = items.length := by omega
      subst ei
      rw [List.drop_length] at h2
      exact .inl ⟨stop (Nat.le_refl _), kr.nx σ2 H2 ω2 e2 rel2 (st1.trans st2) fr2 kp2 h2⟩
theorem snd_while {c : TT} {tb : TS} {fc : FT} {body : FS} (hc : SndT K c fc) (hb : SndS K io tb body) : SndS K io (tWhile c tb) (fWhile fc body) := by
  intro ω env σ H E k rel fr hf kr
  obtain ⟨n, hf⟩ := hf
  refine ⟨fun m σ2 H2 => ∃ ω2 e2, Rel K ω2 e2 σ2 H2 ∧ Step ω H ω2 H2 ∧ Free ω2 0 ∧ Keep io σ σ2 ∧ whGo fc body k m e2, ⟨n, ω, env, rel, Step.refl, fr, Keep.refl, hf⟩, ?_⟩
  rintro m σ2 H2 ⟨ω2, e2, rel2, st2, fr2, kp2, h2⟩
  cases m with
  | zero => exact h2.elim
  | succ m =>
    refine hc ω2 0 e2 σ2 H2 _ _ rel2 fr2 h2 fun b H3 ω3 e3 rel3 st3 fr3 h3 => ?_
    cases b with
    | false => exact kr.nx σ2 H3 ω3 e3 rel3 (st2.trans st3) fr3 kp2 h3
    | true =>
      refine ⟨fun σ' H' => ∃ ω' e', Rel K ω' e' σ' H' ∧ Step ω H ω' H' ∧ Free ω' 0 ∧ Keep io σ σ' ∧ whGo fc body k m e', fun σ' H' h => ⟨m, Nat.lt_succ_self _, h⟩, ?_⟩
      refine hb ω3 e3 σ2 H3 _ _ rel3 fr3 h3 ⟨fun σ' H' ω' env' a b c d e => ?_, fun σ' H' ω' env' a b c d e => ?_, fun σ' H' ω' env' a b c d e => ?_, fun v σ' H' ω' env' r a b c d e f => ?_⟩
      · exact ⟨ω', env', a, (st2.trans st3).trans b, c, kp2.trans d, e⟩
      · exact kr.nx σ' H' ω' env' a ((st2.trans st3).trans b) c (kp2.trans d) e
      · exact ⟨ω', env', a, (st2.trans st3).trans b, c, kp2.trans d, e⟩
      · exact kr.rt v σ' H' ω' env' r a ((st2.trans st3).trans b) c (kp2.trans d) e f
end
section
variable {X : Cx} {io : Nat → Bool} {tg iter c : Expr} {body : List Stmt} {fi : FI} {g : FG} {fc : FT} {fb : FS} {pos : Pos}
theorem ss_for (hp : PassesOwn (model X.prog X.w) X.A X.env X.xe) (hc : X.calm = true) (hi : SI X tg iter fi) (hg : SG X io tg g) (hb : SSs X io body fb)
    (hs : ∀ x, foldedSetIterable iter X.env x = pure x := by intro _; rfl) : SSt X io (.For tg iter body [] pos) (fFor fi g fb) := by
  obtain ⟨w, p, s⟩ := hi.ex
  obtain ⟨t, p1, s1⟩ := hg.ex
  obtain ⟨u, p2, s2⟩ := hb.ex
  exact ⟨_, ps_for hp hc p p1 p2 hs, snd_for s s1 s2⟩
theorem ss_while (hp : PassesOwn (model X.prog X.w) X.A X.env X.xe) (hc : STs X c fc) (hb : SSs X io body fb) : SSt X io (.While c body [] pos) (fWhile fc fb) := by
  obtain ⟨t, p, s⟩ := hc.ex
  obtain ⟨u, p', s'⟩ := hb.ex
  exact ⟨_, ps_while hp p p', snd_while s s'⟩
end
end Pv

/-! Pv9: list comprehensions. -/
namespace Pv
open PySem PySem.Spec PyProof.Rows L2

/-! ### readings that lean on the data alone -/
def tOfE (K : Fg) (f : FE) : TE := fun σ H Q => ∃ (ω : Om) (T : Nat) (env : Env) (R : Res → Env → Prop), Rel K ω env σ H ∧ Free ω T ∧ f env R ∧
  ∀ v H' ω' env' r, Rel K ω' env' σ H' → Step ω H ω' H' → Free ω' (T + 1) → ResR K ω' H' σ env' T v r → R r env' → Q v H'
def tOfT (K : Fg) (f : FT) : TT := fun σ H Q => ∃ (ω : Om) (T : Nat) (env : Env) (R : Bool → Env → Prop), Rel K ω env σ H ∧ Free ω T ∧ f env R ∧
  ∀ b H' ω' env', Rel K ω' env' σ H' → Step ω H ω' H' → Free ω' T → R b env' → Q b H'
def tOfG (K : Fg) (pr : Nat → Bool) (g : FG) : TG := fun v σ H Q => ∃ (d : D) (ω : Om) (env env' : Env), Rel K ω env σ H ∧ Rp K ω H v d ∧ g d env = some env' ∧ ∀ σ', Rel K ω env' σ' H → Keep pr σ σ' → Q σ' H
section
variable {X : Cx} {K : Fg}
theorem SE.pe {e : Expr} {f : FE} (h : SE X e f) : PE X e (tOfE X.K f) := by
  obtain ⟨t, p, s⟩ := h.ex
  exact ⟨fun pins st σ H Q I ⟨ω, T, env, R, rel, fr, hf, q⟩ => p.run pins st σ H Q I (s ω T env σ H R Q rel fr hf q)⟩
theorem STs.pt {e : Expr} {f : FT} (h : STs X e f) : PT X e (tOfT X.K f) := by
  obtain ⟨t, p, s⟩ := h.ex
  exact ⟨fun pins st σ H Q I ⟨ω, T, env, R, rel, fr, hf, q⟩ => p.run pins st σ H Q I (s ω T env σ H R Q rel fr hf q)⟩
theorem SG.pg {pr : Nat → Bool} {e : Expr} {g : FG} (h : SG X pr e g) : PG X e (tOfG X.K pr g) := by
  obtain ⟨t, p, s⟩ := h.ex
  exact ⟨fun pins st σ H v u Q I r ⟨d, ω, env, env', rel, rp, he, q⟩ => p.run pins st σ H v u Q I r (s v d ω env σ H env' Q rel rp he q)⟩
end
/-- a comprehension's tests -/
structure SFs (X : Cx) (ifs : List Expr) (f : FT) : Prop where
  ex : ∃ t : TT, PTs X ifs t ∧ SndT X.K t f
def fYes : FT := fun env R => R true env
section
variable {X : Cx}
theorem sf_nil : SFs X [] fYes := ⟨_, pts_nil, fun ω T env σ H R Q rel fr hf q => q true H ω env rel Step.refl fr hf⟩
theorem sf_one {c : Expr} {f : FT} (h : STs X c f) : SFs X [c] f := by
  obtain ⟨t, p, s⟩ := h.ex
  exact ⟨_, pts_one p, s⟩
theorem SFs.pt {ifs : List Expr} {f : FT} (h : SFs X ifs f) : PTs X ifs (tOfT X.K f) := by
  obtain ⟨t, p, s⟩ := h.ex
  exact ⟨fun pins st σ H Q I ⟨ω, T, env, R, rel, fr, hf, q⟩ => p.run pins st σ H Q I (s ω T env σ H R Q rel fr hf q)⟩
end

/-! ### [elt for target in iter if test] -/
def wipeE (env : Env) : List Nat → Env
  | [] => env
  | v :: vs => (wipeE env vs).set v none
/-- the block's own names as they stood ahead of it -/
def keepC : Option Cell → Option Cell
  | some ⟨0, d⟩ => some (sh d)
  | _ => none
def back (env0 : Env) (env : Env) : List Nat → Env
  | [] => env
  | v :: vs => (back env0 env vs).set v (keepC (getC env0 v))
def away (r : Res) (own : List Nat) : Bool := match r with
  | .v _ _ => true
  | .b i _ _ => !own.contains i
def lcGo (own : List Nat) (g : FG) (ft : FT) (fe : FE) (r : Res) (R : List D → Env → Prop) : List D → List D → Env → Prop
  | [], acc, env => okb env r ∧ R acc env
  | d :: ds, acc, env => okb env r ∧ toEnv (fun e1 => ft e1 fun b e2 => match b with
      | true => fe e2 fun ry e3 => noB [ry] ∧ acc.length < sizeLine ∧ lcGo own g ft fe r R ds (acc ++ [ry.d]) (wipeE e3 own)
      | false => lcGo own g ft fe r R ds acc (wipeE e2 own)) (g d env)
def fLc (own : List Nat) (fi : FI) (g : FG) (ft : FT) (fe : FE) : FE := fun env R => fi env fun r ds e1 => away r own = true ∧ apL (lcGo own g ft fe r fun acc e2 => R (.v 1 (.list acc)) (back e1 e2 own)) ds [] (wipeE e1 own)
section
variable {K : Fg} {ω : Om} {H : Hp} {env : Env} {σ : Sg}
theorem wipeE_length {env : Env} : ∀ vs : List Nat, (wipeE env vs).length = env.length
  | [] => rfl
  | v :: vs => by unfold wipeE; rw [List.length_set, wipeE_length vs]
theorem wipeE_some {env : Env} {i : Nat} {c : Cell} : ∀ {vs : List Nat}, (wipeE env vs)[i]? = some (some c) → env[i]? = some (some c) ∧ i ∉ vs
  | [], h => ⟨h, by simp⟩
  | v :: vs, h => by
    unfold wipeE at h
    by_cases e : v = i
    · subst e
      have hl : v < (wipeE env vs).length := by
        have := (List.getElem?_eq_some_iff.mp h).1
        rwa [List.length_set] at this
      rw [List.getElem?_set_self hl] at h
      cases h
    · rw [List.getElem?_set_ne e] at h
      obtain ⟨h1, h2⟩ := wipeE_some h
      exact ⟨h1, by simp [h2, Ne.symm e]⟩
theorem wipe_get {σ : Sg} {i : Nat} : ∀ {vs : List Nat}, i ∉ vs → (wipe σ vs)[i]? = σ[i]?
  | [], _ => rfl
  | v :: vs, h => by
    unfold wipe
    have h1 : v ≠ i := fun e => h (by simp [e])
    rw [List.getElem?_set_ne h1]
    exact wipe_get fun z => h (by simp [z])
theorem wipe_none {σ : Sg} {i : Nat} : ∀ {vs : List Nat}, i ∈ vs → i < σ.length → (wipe σ vs)[i]? = some none
  | [], h, _ => by simp at h
  | v :: vs, h, hl => by
    unfold wipe
    by_cases e : v = i
    · subst e
      rw [List.getElem?_set_self (by rw [wipe_length]; exact hl)]
    · rw [List.getElem?_set_ne e]
      rcases List.mem_cons.mp h with z | z
      · exact absurd z.symm e
      · exact wipe_none z hl
theorem wipe_eq {σ σ' : Sg} {vs : List Nat} (hl : σ'.length = σ.length) (hk : ∀ i, i ∉ vs → σ'[i]? = σ[i]?) : wipe σ' vs = wipe σ vs := by
  apply List.ext_getElem?
  intro i
  by_cases hi : i ∈ vs
  · by_cases hlt : i < σ.length
    · rw [wipe_none hi (by rw [hl]; exact hlt), wipe_none hi hlt]
    · rw [List.getElem?_eq_none (by rw [wipe_length, hl]; omega), List.getElem?_eq_none (by rw [wipe_length]; omega)]
  · rw [wipe_get hi, wipe_get hi, hk i hi]
theorem wipe_wipe {σ : Sg} {vs : List Nat} : wipe (wipe σ vs) vs = wipe σ vs := wipe_eq (wipe_length _ _) fun i hi => wipe_get hi
theorem Rel.wipe (rel : Rel K ω env σ H) (vs : List Nat) : Rel K ω (wipeE env vs) (L2.wipe σ vs) H := by
  refine ⟨rel.tab, by rw [wipeE_length, wipe_length]; exact rel.len, fun i c e => ?_⟩
  obtain ⟨h1, h2⟩ := wipeE_some e
  obtain ⟨v, hv, ho⟩ := rel.cell i c h1
  exact ⟨v, by rw [wipe_get h2]; exact hv, ho⟩
/-- behind the block -/
theorem Rel.back {ω0 : Om} {H0 : Hp} {env0 : Env} (rel0 : Rel K ω0 env0 σ H0) (st : Step ω0 H0 ω H) {own : List Nat} (rel : Rel K ω env (L2.wipe σ own) H) : ∀ {vs : List Nat}, (∀ i ∈ vs, i ∈ own) → Rel K ω (Pv.back env0 env vs) σ H
  | [], _ => by
    refine ⟨rel.tab, by rw [show Pv.back env0 env [] = env from rfl, ← rel.len, wipe_length], fun i c e => ?_⟩
    obtain ⟨v, hv, ho⟩ := rel.cell i c e
    exact ⟨v, (wipe_some hv).1, ho⟩
  | v :: vs, h => by
    have ih := Rel.back rel0 st rel (vs := vs) fun i hi => h i (by simp [hi])
    unfold Pv.back
    have drop : Rel K ω ((Pv.back env0 env vs).set v none) σ H := ⟨ih.tab, by rw [List.length_set]; exact ih.len, fun i c e => by
      by_cases ej : v = i
      · subst ej
        by_cases hl : v < (Pv.back env0 env vs).length
        · rw [List.getElem?_set_self hl] at e; cases e
        · rw [List.getElem?_eq_none (by rw [List.length_set]; omega)] at e; cases e
      · rw [List.getElem?_set_ne ej] at e; exact ih.cell i c e⟩
    cases hc : getC env0 v with
    | none => exact drop
    | some c =>
      obtain ⟨k, d⟩ := c
      cases k with
      | succ k => exact drop
      | zero =>
        obtain ⟨u, hu, ho⟩ := rel0.cell v _ (getC_some hc)
        have rp : Rp K ω H u d := Rp.sh st.sh _ _ ho
        have := ih.put (i := v) (v := u) (c := sh d) rp
        have e : σ.set v (some u) = σ := by
          apply List.ext_getElem?
          intro j
          by_cases ej : v = j
          · subst ej
            have hl : v < σ.length := (List.getElem?_eq_some_iff.mp hu).1
            rw [List.getElem?_set_self hl, hu]
          · rw [List.getElem?_set_ne ej]
        rw [e] at this
        exact this
theorem snd_lc {wi : TI} {fi : FI} {g : FG} {ft : FT} {fe : FE} {own : List Nat} (hi : SndI K wi fi) : SndE K (tLc wi (tOfG K (fun j => !own.contains j) g) (tOfT K ft) (tOfE K fe) own) (fLc own fi g ft fe) := by
  intro ω T env σ H R Q rel fr hR q
  refine hi ω T env σ H _ _ rel fr hR fun J H1 ω1 e1 r items rel1 st1 fr1 it ok1 h1 => ?_
  obtain ⟨haw, h1⟩ := h1
  have h1 := apL_cl h1
  intro D hD
  have sameR : ∀ σ1 : Sg, (∀ i, i ∉ own → σ1[i]? = σ[i]?) → sameAt r σ σ1 := fun σ1 hs => by
    cases r with
    | v _ _ => trivial
    | b i _ _ =>
      refine hs i fun z => ?_
      have haw' : (!own.contains i) = true := haw
      rw [List.contains_iff_mem.mpr z] at haw'
      cases haw'
  have g0 : Grow ω1 H1 (putO D (.tmp T []) ω1) (upd H1 D (.lst [])) := put_grow hD
  refine ⟨fun i m H' => m = items.length - i ∧ i ≤ items.length ∧ ∃ (ω' : Om) (env' : Env) (acc : List V) (accd : List PyData), Rel K ω' env' (L2.wipe σ own) H' ∧ Step ω1 H1 ω' H' ∧ Free ω' (T + 1) ∧ H' D = some (.lst acc) ∧ ω' D = .tmp T [] ∧ RpAll K ω' H' acc accd ∧
      lcGo own g ft fe r (fun acc e2 => R (.v 1 (.list acc)) (Pv.back e1 e2 own)) (items.drop i) accd env',
    ⟨items.length, by simp, Nat.zero_le _, putO D (.tmp T []) ω1, wipeE e1 own, [], [], (rel1.grow g0).wipe own, g0.step, put_free fr1, upd_same, putO_same, .nil, h1⟩, ?_⟩
  rintro i m H2 ⟨rfl, hil, ω2, e2, acc, accd, rel2, st2, fr2, hD2, oD2, rp2, h2⟩
  by_cases hlt : i < items.length
  · have ed : items.drop i = items[i] :: items.drop (i + 1) := List.drop_eq_getElem_cons hlt
    rw [ed] at h2
    obtain ⟨okr, h2⟩ := h2
    obtain ⟨go, _⟩ := it ω2 H2 e2 (L2.wipe σ own) rel2 st2.sh okr (sameR _ fun i hi => wipe_get hi) i
    obtain ⟨g1, g2⟩ := go _ (List.getElem?_eq_getElem hlt)
    refine .inr ⟨g1, fun H' => ∃ (ω' : Om) (env' : Env) (acc : List V) (accd : List PyData), Rel K ω' env' (L2.wipe σ own) H' ∧ Step ω1 H1 ω' H' ∧ Free ω' (T + 1) ∧ H' D = some (.lst acc) ∧ ω' D = .tmp T [] ∧ RpAll K ω' H' acc accd ∧
      lcGo own g ft fe r (fun acc e2 => R (.v 1 (.list acc)) (Pv.back e1 e2 own)) (items.drop (i + 1)) accd env', fun H' h => ⟨items.length - (i + 1), by omega, rfl, hlt, h⟩, fun x H3 y => ?_⟩
    obtain ⟨ω3, gr, fr3, rpx⟩ := g2 x H3 y
    obtain ⟨e3, he, h3⟩ := toEnv_ex h2
    have D3 : H3 D = some (.lst acc) ∧ ω3 D = .tmp T [] := by
      obtain ⟨a, b⟩ := gr D _ hD2
      exact ⟨a, b.trans oD2⟩
    refine ⟨_, ω3, e2, e3, rel2.grow gr, rpx, he, fun σ4 rel4 kp4 => ?_⟩
    have wp4 : L2.wipe σ4 own = L2.wipe σ own := by
      refine (wipe_eq (σ := L2.wipe σ own) kp4.1 fun j hj => ?_).trans wipe_wipe
      exact kp4.2 j (by
        show (!own.contains j) = true
        cases z : own.contains j with
        | false => rfl
        | true => exact absurd (List.contains_iff_mem.mp z) hj)
    refine ⟨wp4, ω3, T + 1, e3, _, rel4, fr3 _ fr2, h3, fun b H5 ω5 e5 rel5 st5 fr5 h5 => ?_⟩
    have D5 : H5 D = some (.lst acc) ∧ ω5 D = .tmp T [] := by
      rcases st5 D _ D3.1 (by rw [D3.2]; exact nofun) with ⟨_, _, z⟩ | ⟨z1, z2⟩
      · rw [D3.2] at z; cases z
      · exact ⟨z1, z2.trans D3.2⟩
    cases b with
    | false =>
      show ∃ _, _
      exact ⟨ω5, wipeE e5 own, acc, accd, by rw [← wp4]; exact rel5.wipe own, (st2.grow gr).trans st5, fr5, D5.1, D5.2, RpAll.sh st5.sh _ _ (RpAll.sh gr.step.sh _ _ rp2), h5⟩
    | true =>
      show tOfE K fe σ4 H5 _
      refine ⟨ω5, T + 1, e5, _, rel5, fr5, h5, fun yv H6 ω6 e6 ry rel6 st6 fr6 rr6 h6 => ?_⟩
      obtain ⟨nb, hlen, h6⟩ := h6
      have D6 : H6 D = some (.lst acc) ∧ ω6 D = .tmp T [] := by
        rcases st6 D _ D5.1 (by rw [D5.2]; exact nofun) with ⟨_, _, z⟩ | ⟨z1, z2⟩
        · rw [D5.2] at z; cases z
        · exact ⟨z1, z2.trans D5.2⟩
      have rp6 : RpAll K ω6 H6 acc accd := RpAll.sh st6.sh _ _ (RpAll.sh st5.sh _ _ (RpAll.sh gr.step.sh _ _ rp2))
      refine ⟨acc, D6.1, by rw [rp6.length]; exact hlen, ?_⟩
      have ry6 : Rp K (gc (T + 1) ω6) H6 yv ry.d := by
        cases ry with
        | b _ _ _ => exact nb.elim
        | v kk dd => exact ResR.gc (env := e6) (r := .v kk dd) rr6 rel6 (Nat.le_refl _)
      have oD : gc (T + 1) ω6 D = .tmp T [] := by
        show gcO (T + 1) (ω6 D) = _
        rw [D6.2]
        show (if T + 1 ≤ T then Ow.shr else .tmp T []) = _
        rw [if_neg (by omega)]
      have shD : Sh (gc (T + 1) ω6) H6 (gc (T + 1) ω6) (upd H6 D (.lst (acc ++ [yv]))) := sh_upd (by rw [oD]; exact fun z => by cases z)
      refine ⟨gc (T + 1) ω6, wipeE e6 own, acc ++ [yv], accd ++ [ry.d], ?_, ?_, gc_free, upd_same, oD, RpAll.sh shD _ _ ((RpAll.sh gc_sh _ _ rp6).append (.cons ry6 .nil)), h6⟩
      · -- the slots' own objects are not the new list
        have rw6 : Rel K (gc (T + 1) ω6) (wipeE e6 own) (L2.wipe σ own) H6 := by rw [← wp4]; exact (rel6.gc (T + 1)).wipe own
        refine ⟨rw6.tab.go fun b o hb e => ⟨by rw [upd_ne (fun z => by subst z; rw [oD] at e; cases e)]; exact hb, e⟩, rw6.len, fun n c e => ?_⟩
        obtain ⟨v', hv, ho⟩ := rw6.cell n c e
        refine ⟨v', hv, OwR.go shD (fun a u p z1 z2 => ⟨?_, z2⟩) _ _ _ _ ho⟩
        have ne : a ≠ D := fun z => by subst z; rw [oD] at z2; cases z2
        rw [upd_ne ne]; exact z1
      · intro a o ha na
        have st : Step ω1 H1 (gc (T + 1) ω6) H6 := (((st2.grow gr).trans st5).trans st6).gc (fun a t p e => Nat.lt_succ_of_lt (fr1 a t p e))
        rcases st a o ha na with z | ⟨z1, z2⟩
        · exact .inl z
        · refine .inr ⟨?_, z2⟩
          rw [upd_ne (ne_of_none ha hD)]; exact z1
  · have ei : i = items.length := by omega
    subst ei
    rw [List.drop_length] at h2
    obtain ⟨_, stop⟩ := it ω2 H2 e2 (L2.wipe σ own) rel2 st2.sh h2.1 (sameR _ fun i hi => wipe_get hi) items.length
    refine .inl ⟨stop (Nat.le_refl _), ?_⟩
    refine q (.ref D) H2 ω2 _ (.v 1 (.list accd)) (Rel.back rel1 st2 rel2 fun i hi => hi) (st1.trans st2) fr2 ?_ h2.2
    exact .inr (.inl ⟨D, acc, accd, rfl, rfl, hD2, oD2, rp2.length, fun j v' d' z1 z2 => rp2.get z1 z2⟩)
end
section
variable {X : Cx} {elt tg iter : Expr} {ifs : List Expr} {scope : Scope} {own : List (Str × Nat)} {pos : Pos} {fi : FI} {g : FG} {ft : FT} {fe : FE}
theorem se_lc (hc : X.calm = true) (hN : X.N.Nodup) (hi : SI X tg iter fi) (ok : BlkOk X.N X.env.scope scope own)
    (hg : ∀ (s : Shared) (H : Hp) (C : Addr) (cl : List (Str × Addr)) (fp : List Addr), SG (X.blk s H scope (compEnvC scope cl C X.env) fp) (fun j => !(own.map (·.2)).contains j) tg g)
    (ht : ∀ (s : Shared) (H : Hp) (C : Addr) (cl : List (Str × Addr)) (fp : List Addr), SFs (X.blk s H scope (compEnvC scope cl C X.env) fp) ifs ft)
    (he : ∀ (s : Shared) (H : Hp) (C : Addr) (cl : List (Str × Addr)) (fp : List Addr), SE (X.blk s H scope (compEnvC scope cl C X.env) fp) elt fe) (hs : ∀ x, foldedSetIterable iter X.env x = pure x := by intro _; rfl) :
    SE X (.ListComp elt [⟨tg, iter, ifs, 0⟩] scope pos) (fLc (own.map (·.2)) fi g ft fe) := by
  obtain ⟨w, p, s⟩ := hi.ex
  exact ⟨_, pe_lc hc hN p ok (fun a b c d e => (hg a b c d e).pg) (fun a b c d e => (ht a b c d e).pt) (fun a b c d e => (he a b c d e).pe) hs, snd_lc s⟩
variable {io : Nat → Bool} {y : Str} {py spos : Pos}
theorem ss_setLc (i : Nat) (hc : X.calm = true) (hN : X.N.Nodup) (hsw : swapsWith (.ListComp elt [⟨tg, iter, ifs, 0⟩] scope pos) (some (.Name y py)) spos.line X.env = pure true) (hi : SI X tg iter fi) (ok : BlkOk X.N X.env.scope scope own)
    (hg : ∀ (s : Shared) (H : Hp) (C : Addr) (cl : List (Str × Addr)) (fp : List Addr), SG (X.blk s H scope (compEnvC scope cl C X.env) fp) (fun j => !(own.map (·.2)).contains j) tg g)
    (ht : ∀ (s : Shared) (H : Hp) (C : Addr) (cl : List (Str × Addr)) (fp : List Addr), SFs (X.blk s H scope (compEnvC scope cl C X.env) fp) ifs ft)
    (he : ∀ (s : Shared) (H : Hp) (C : Addr) (cl : List (Str × Addr)) (fp : List Addr), SE (X.blk s H scope (compEnvC scope cl C X.env) fp) elt fe) (hy : X.N[i]? = some y := by rfl) (hyl : X.env.scope.names.lookup y = some .local := by rfl) (hio : io i = false := by decide) (hs : ∀ x, foldedSetIterable iter X.env x = pure x := by intro _; rfl) :
    SSt X io (.Assign [.Name y py] (.ListComp elt [⟨tg, iter, ifs, 0⟩] scope pos) spos) (fAsg i (fLc (own.map (·.2)) fi g ft fe)) := by
  obtain ⟨w, p, s⟩ := hi.ex
  exact ⟨_, ps_setLc hc hN hy hyl hsw p ok (fun a b c d e => (hg a b c d e).pg) (fun a b c d e => (ht a b c d e).pt) (fun a b c d e => (he a b c d e).pe) hs, snd_asg (snd_lc s) hio⟩
end
end Pv

/-! Pv10: a def's promise by its body; calls with keywords; several stores at once. -/
namespace Pv
open PySem PySem.Spec PyProof.Rows L2

/-! ### the promise of a def -/
def startE (n : Nat) (args : List Cell) : Env := args.map some ++ List.replicate (n - args.length) none
def ioP (ms : List Bool) : Nat → Bool := fun j => ms.getD j false
def ioC : List Bool → Env → (List Cell → Prop) → Prop
  | [], _, P => P []
  | true :: ms, some c :: e, P => ioC ms e fun cs => P (c :: cs)
  | false :: ms, _ :: e, P => ioC ms e P
  | _, _, _ => False
def defK (ms : List Bool) (R : Cell → List Cell → Prop) : Kt where
  nx := fun e => ioC ms e fun ios => R (sh .none) ios
  rt := fun r e => match r with
    | .v k d => ioC ms e fun ios => R ⟨k, d⟩ ios
    | .b _ _ _ => False
section
variable {K : Fg} {ω : Om} {H : Hp}
theorem ArgR.at_ : ∀ {vs : List V} {ms : List Bool} {cs : List Cell} {j i : Nat} {c : Cell}, ArgR K ω H j vs ms cs → cs[i]? = some c → ∃ v, vs[i]? = some v ∧ OwR K ω H c.k (Ow.own (j + i)) [] v c.d
  | v :: vs, true :: ms, c' :: cs, j, 0, c, h, e => by
    have e' := Option.some.inj e
    subst e'
    exact ⟨v, rfl, h.1⟩
  | v :: vs, false :: ms, c' :: cs, j, 0, c, h, e => by
    have e' := Option.some.inj e
    subst e'
    refine ⟨v, rfl, ?_⟩
    rw [h.1.1]
    exact h.1.2
  | v :: vs, true :: ms, c' :: cs, j, i + 1, c, h, e => by
    obtain ⟨u, hu, ho⟩ := ArgR.at_ (i := i) h.2 (by simpa using e)
    exact ⟨u, by simpa using hu, by rw [show j + (i + 1) = j + 1 + i by omega]; exact ho⟩
  | v :: vs, false :: ms, c' :: cs, j, i + 1, c, h, e => by
    obtain ⟨u, hu, ho⟩ := ArgR.at_ (i := i) h.2 (by simpa using e)
    exact ⟨u, by simpa using hu, by rw [show j + (i + 1) = j + 1 + i by omega]; exact ho⟩
  | [], [], [], _, _, _, _, e => by simp at e
  | [], [], _ :: _, _, _, _, h, _ => h.elim
  | [], _ :: _, _, _, _, _, h, _ => h.elim
  | _ :: _, [], _, _, _, _, h, _ => h.elim
  | _ :: _, true :: _, [], _, _, _, h, _ => h.elim
  | _ :: _, false :: _, [], _, _, _, h, _ => h.elim
theorem io_out : ∀ {ms : List Bool} {e : Env} {vs : List V} {P : List Cell → Prop} (j : Nat), vs.length = ms.length → (∀ (n : Nat) (c : Cell) (v : V), e[n]? = some (some c) → ms[n]? = some true → vs[n]? = some v → OwR K ω H c.k (Ow.own (j + n)) [] v c.d) → ioC ms e P →
    ∃ ios, P ios ∧ IoOut K ω H j vs ms ios
  | [], e, [], P, j, _, _, h => ⟨[], h, trivial⟩
  | [], _, _ :: _, _, _, hl, _, _ => by cases hl
  | _ :: _, _, [], _, _, hl, _, _ => by cases hl
  | true :: ms, some c :: e, v :: vs, P, j, hl, ho, h => by
    obtain ⟨ios, h1, h2⟩ := io_out (ms := ms) (e := e) (vs := vs) (j + 1) (Nat.succ.inj hl) (fun n c v a b d => by
      have := ho (n + 1) c v (by simpa using a) (by simpa using b) (by simpa using d)
      rw [show j + 1 + n = j + (n + 1) by omega]; exact this) h
    exact ⟨c :: ios, h1, ho 0 c v rfl rfl rfl, h2⟩
  | false :: ms, o :: e, v :: vs, P, j, hl, ho, h => by
    obtain ⟨ios, h1, h2⟩ := io_out (ms := ms) (e := e) (vs := vs) (j + 1) (Nat.succ.inj hl) (fun n c v a b d => by
      have := ho (n + 1) c v (by simpa using a) (by simpa using b) (by simpa using d)
      rw [show j + 1 + n = j + (n + 1) by omega]; exact this) h
    exact ⟨ios, h1, h2⟩
  | true :: _, none :: _, _ :: _, _, _, _, _, h => h.elim
  | true :: _, [], _ :: _, _, _, _, _, h => h.elim
  | false :: _, [], _ :: _, _, _, _, _, h => h.elim
end
section
variable {P : Program} {w : World} {K : Fg} {mg : Str → Option Value} {base : Heap}
/-- THE RULE of a def -/
theorem fnok_mkC {x qual : Str} {st : Stmt} {f : Addr} {fd : FuncData} {N ps : List Str} {k : Nat} {ms : List Bool} {φ : Phi} (F : Fun K x qual st f fd) (S : FnScope N ps (defScope st)) (body : FS)
    (hbody : ∀ (cdv : Value), fd.code = cdv → ∀ (A : Around) (outer : List PySem.Env) (s : Shared) (H : Hp) (E : XK), Room k (A.deeper (envOfC qual (defScope st) s.heap.objs.size f cdv)) → (A.deeper (envOfC qual (defScope st) s.heap.objs.size f cdv)).guards = some [] → SSs (cxOf CX0 P w K mg base N qual (defScope st) f cdv A outer s H E).nox (ioP ms) (defBody st) body)
    (vc : ∀ args R, φ args R → body (startE N.length args) (defK ms R)) (hms : ms.length = ps.length := by rfl) : FnG P w K mg base CX0 (k + 1) f fd ps (spOf K ms φ) := by
  refine fng_of F S (fun vs H Q E h => (spOf_len h).trans hms) (fun cdv hcdv A outer s H vs Q E hr hG h => ?_)
  obtain ⟨ω, args, R, ha, ⟨tab, fr⟩, hφ, q⟩ := h
  obtain ⟨t, pt, sn⟩ := (hbody cdv hcdv A outer s H E hr hG).ex
  refine ⟨t, pt, ?_⟩
  obtain ⟨l1, l2⟩ := ha.length
  have σ0 : ∀ (n : Nat) (v : V), vs[n]? = some v → (L2.start N vs)[n]? = some (some v) := fun n v hv => by
    unfold L2.start
    have hl : n < vs.length := (List.getElem?_eq_some_iff.mp hv).1
    rw [List.getElem?_append_left (by rw [List.length_map]; exact hl), List.getElem?_map, hv]
    rfl
  have rel : Rel K ω (startE N.length args) (L2.start N vs) H := by
    refine ⟨tab, by unfold startE L2.start; rw [List.length_append, List.length_append, List.length_map, List.length_map, List.length_replicate, List.length_replicate, l2], fun i c e => ?_⟩
    unfold startE at e
    by_cases hi : i < args.length
    · rw [List.getElem?_append_left (by rw [List.length_map]; exact hi), List.getElem?_map] at e
      cases hc : args[i]? with
      | none => rw [hc] at e; cases e
      | some c' =>
        rw [hc] at e
        have e' : c' = c := Option.some.inj (Option.some.inj e)
        subst e'
        obtain ⟨v, hv, ho⟩ := ha.at_ hc
        rw [Nat.zero_add] at ho
        exact ⟨v, σ0 i v hv, ho⟩
    · rw [List.getElem?_append_right (by rw [List.length_map]; omega)] at e
      have := List.mem_of_getElem? e
      have := List.eq_of_mem_replicate this
      cases this
  have fin : ∀ {σ' : Sg} {H' : Hp} {ω' : Om} {env' : Env} {Pk : List Cell → Prop}, Rel K ω' env' σ' H' → Keep (ioP ms) (L2.start N vs) σ' → ioC ms env' Pk → ∃ ios, Pk ios ∧ IoOut K ω' H' 0 vs ms ios := fun {σ' H' ω' env' Pk} rel' kp h => by
    refine io_out 0 l1 (fun n c v a b d => ?_) h
    obtain ⟨v', hv, ho⟩ := rel'.cell n c a
    have e1 := kp.2 n (by unfold ioP; rw [List.getD_eq_getElem?_getD, b]; rfl)
    rw [hv, σ0 n v d] at e1
    have e2 : v' = v := Option.some.inj (Option.some.inj e1)
    subst e2
    rw [Nat.zero_add]
    exact ho
  refine sn ω (startE N.length args) (L2.start N vs) H _ (defK ms R) rel fr (vc args R hφ) ⟨fun σ' H' ω' env' a b c d e => ?_, fun σ' H' ω' env' a b c d e => e, fun σ' H' ω' env' a b c d e => e, fun v σ' H' ω' env' r a b c d e f => ?_⟩
  · obtain ⟨ios, h1, h2⟩ := fin a d e
    exact q .non H' ω' (sh .none) ios ⟨a.tab, b⟩ h2 Rp.non h1
  · cases r with
    | b _ _ _ => exact f.elim
    | v kk dd =>
      obtain ⟨ios, h1, h2⟩ := fin a d f
      exact q v H' ω' ⟨kk, dd⟩ ios ⟨a.tab, b⟩ h2 e h1
theorem fnok_mk {x qual : Str} {st : Stmt} {f : Addr} {fd : FuncData} {N ps : List Str} {k : Nat} {ms : List Bool} {φ : Phi} (F : Fun K x qual st f fd) (S : FnScope N ps (defScope st)) (body : FS)
    (hbody : ∀ (cdv : Value) (A : Around) (outer : List PySem.Env) (s : Shared) (H : Hp) (E : XK), Room k (A.deeper (envOfC qual (defScope st) s.heap.objs.size f cdv)) → (A.deeper (envOfC qual (defScope st) s.heap.objs.size f cdv)).guards = some [] → SSs (cxOf CX0 P w K mg base N qual (defScope st) f cdv A outer s H E).nox (ioP ms) (defBody st) body)
    (vc : ∀ args R, φ args R → body (startE N.length args) (defK ms R)) (hms : ms.length = ps.length := by rfl) : FnG P w K mg base CX0 (k + 1) f fd ps (spOf K ms φ) := fnok_mkC F S body (fun cdv _ A outer s H E => hbody cdv A outer s H E) vc hms
/-- a weaker promise -/
theorem Fnc.imp {k : Nat} {x : Str} {ms : List Bool} {φ ψ : Phi} (h : Fnc P w K mg base k x ms φ) (hi : ∀ args R, ψ args R → φ args R) : Fnc P w K mg base k x ms ψ := by
  obtain ⟨f, fd, ps, F, a, b, c⟩ := h.ex
  exact ⟨f, fd, ps, F.imp fun vs H Q E ⟨ω, args, R, z1, z2, z3, z4⟩ => ⟨ω, args, R, z1, z2, hi args R z3, z4⟩, a, b, c⟩
theorem Fnc.mono {j k : Nat} {x : Str} {ms : List Bool} {φ : Phi} (h : Fnc P w K mg base j x ms φ) (hk : j ≤ k) : Fnc P w K mg base k x ms φ := by
  obtain ⟨f, fd, ps, F, a, b, c⟩ := h.ex
  exact ⟨f, fd, ps, F.mono hk, a, b, c⟩
end

/-! ### f(.., k = v) -/
/-- how a call with keywords binds: perm tells, parameter by parameter, which of the values as written it takes -/
def KwB (K : Fg) (fd : FuncData) (ps : List Str) (n : Nat) (ks : List Str) (perm : List Nat) : Prop := KBn K fd ps n ks (fun us ws => permU perm (us ++ ws)) (fun vs zs => permV perm (vs ++ zs))
theorem kwb_of {K : Fg} {x qual : Str} {st : Stmt} {f : Addr} {fd : FuncData} {ps ks : List Str} {n : Nat} {perm : List Nat} (F : Fun K x qual st f fd)
    (h : ∀ (kV doc pm : Value) (an : Option Addr) (cdv ct : Value) (us ws : List Value), us.length = n → ws.length = ks.length → bindArgs (PySem.W.fnOf x qual (defArgs st) (defBody st) (defScope st) .none kV doc pm an cdv ct) ⟨us, ks.zip ws⟩ = pure (ps.zip (permU perm (us ++ ws)))) : KwB K fd ps n ks perm := by
  obtain ⟨oc, od, kV, doc, pm, an, cdv, ct, osl, rfl, lk, hcd⟩ := F.ex
  exact ⟨fun s us ws _ l1 l2 => .of_eq (h kV doc pm an cdv ct us ws l1 l2), fun r1 r2 => Pv.Vals.perm (r1.append r2) perm⟩
/-- a def that may be called with these keywords -/
structure FncK (P : Program) (w : World) (K : Fg) (mg : Str → Option Value) (base : Heap) (k : Nat) (x : Str) (m n : Nat) (ks : List Str) (perm : List Nat) (φ : Phi) : Prop where
  ex : ∃ (f : Addr) (fd : FuncData) (ps : List Str), FnG P w K mg base CX0 k f fd ps (spOf K (List.replicate m false) φ) ∧ mg x = some (.ref f) ∧ PySem.W.keepIn K (.ref f) = true ∧ KwB K fd ps n ks perm
section
variable {X : Cx} {K : Fg}
theorem snd_callK {m n nk : Nat} {perm : List Nat} {φ : Phi} {ta tk : TA} {fa fk : FA} (hp : perm.length = m) (ha : SndA K ta fa) (hk : SndA K tk fk) :
    SndE K (tCallN n nk (spOf K (List.replicate m false) φ) (fun vs zs => permV perm (vs ++ zs)) (fun _ _ _ => False) ta tk) (fCallK n nk perm φ fa fk) := by
  intro ω T env σ H R Q rel fr hR q
  refine ha ω T env σ H _ _ rel fr hR fun vs H1 ω1 e1 rs rel1 st1 fr1 rr1 h1 => ?_
  obtain ⟨nb, hl, h1⟩ := h1
  have va := (rr1.gc (T0 := T) rel1 (Nat.le_refl _)).rp nb
  refine hk (gc T ω1) T e1 σ H1 _ _ (rel1.gc T) gc_free h1 fun zs H2 ω2 e2 ks' rel2 st2 fr2 rr2 h2 => ?_
  obtain ⟨nb2, hkl, h2⟩ := h2
  have vz := (rr2.gc (T0 := T) rel2 (Nat.le_refl _)).rp nb2
  have va2 : RpAll K (gc T ω2) H2 vs (dsOf rs) := RpAll.sh gc_sh _ _ (RpAll.sh st2.sh _ _ va)
  have all := RpAll.perm (va2.append vz) perm
  have lz : (permD perm (dsOf rs ++ dsOf ks')).length = m := by unfold permD; rw [List.length_map]; exact hp
  refine ⟨?_, ?_, ?_⟩
  · rw [va.length]; unfold dsOf; rw [List.length_map]; exact hl
  · rw [vz.length]; unfold dsOf; rw [List.length_map]; exact hkl
  · refine call_core (T := T) (rs := allV (permD perm (dsOf rs ++ dsOf ks'))) (R := R) fr (rel2.gc T) (((st1.gc fr).trans st2).gc fr) (resAll_v T all) ?_ ?_ (args := (permD perm (dsOf rs ++ dsOf ks')).map sh) ?_ q
    · rw [ioIx_v]; rfl
    · rw [← lz]; exact mkArgs_v _
    · have e : (fun (c : Cell) (ios : List Cell) => R (.v c.k c.d) (putIos e2 (List.replicate m false) (allV (permD perm (dsOf rs ++ dsOf ks'))) ios)) = fun c _ => R (.v c.k c.d) e2 := by
        funext c ios
        rw [putIos_v]
      rw [e]
      exact (apP_cl h2)
variable {k j m n nk : Nat} {x : Str} {ks : List Str} {perm : List Nat} {φ : Phi} {e : Expr} {es : List Expr} {kws : List Keyword} {fa fk : FA} {p pos : Pos}
theorem se_callK0 (c : FncK X.prog X.w X.K X.mg X.base k x m 0 ks perm φ) (hr : Room j X.A) (hG : X.A.guards = some []) (hkw : SK X kws fk) (hp : perm.length = m := by rfl) (hk : k ≤ j := by decide) (hg : Gl X x := by rfl)
    (hall : (backToKw pos (keywordEach kws X.env)).all (·.1.isSome) = true := by rfl) (hks : (backToKw pos (keywordEach kws X.env)).filterMap (·.1) = ks := by rfl)
    (hdb : (x == ("__debug__" : Str)) = false := by decide) (hpl : ((backTo pos (starEach [] X.env)).any (·.1) || (backToKw pos (keywordEach kws X.env)).any (·.1.isNone)) = false := by rfl) (hnk : ks.length = nk := by rfl) : SE X (.Call (.Name x p) [] kws pos) (fCallK 0 nk perm φ fNil fk) := by
  subst hnk
  obtain ⟨f, fd, ps, F, hm, hkp, hb⟩ := c.ex
  obtain ⟨u, q', s'⟩ := hkw.ex
  exact ⟨_, pe_gN0 F hG (hr.mono hk) hg hm hkp hb q' hall hks hdb hpl, snd_callK hp snd_nil s'⟩
end

/-! ### a, b = x, y -/
def setRes : List Nat → List Bool → List Res → Env → Option Env
  | [], [], [], e => some e
  | i :: is, b :: bs, .v n d :: rs, e => setRes is bs rs (e.set i (some (if b then ⟨n, d⟩ else sh d)))
  | _, _, _, _ => none
def fPar (is : List Nat) (bs : List Bool) (fa : FA) : FS := fun env k => fa env fun rs e => toEnv k.nx (setRes is bs rs e)
def setSt : List Nat → List V → Sg → Sg
  | i :: is, v :: vs, σ => setSt is vs (σ.set i (some v))
  | _, _, σ => σ
def parO (is : List Nat) (bs : List Bool) : Ow → Ow
  | .tmp t p => match is[t]?, bs[t]? with
    | some i, some true => .own i p
    | _, _ => .shr
  | o => o
section
variable {K : Fg} {io : Nat → Bool} {ω : Om} {H : Hp}
theorem set_res {IS : List Nat} {BS : List Bool} {σ0 : Sg} {env0 : Env} : ∀ {is : List Nat} {bs : List Bool} {vs : List V} {rs : List Res} {env env' : Env} {σ : Sg} (j : Nat), (∀ n, is[n]? = IS[j + n]?) → (∀ n, bs[n]? = BS[j + n]?) → ResAll K ω H σ0 env0 j vs rs → Rel K (ren (parO IS BS) ω) env σ H → (∀ i ∈ is, io i = false) → setRes is bs rs env = some env' →
    Rel K (ren (parO IS BS) ω) env' (setSt is vs σ) H ∧ Keep io σ (setSt is vs σ)
  | [], [], [], [], env, env', σ, j, _, _, _, rel, _, h => by
    cases h
    exact ⟨rel, Keep.refl⟩
  | i :: is, b :: bs, v :: vs, .v n d :: rs, env, env', σ, j, hi, hb, hA, rel, hio, h => by
    obtain ⟨h1, h2⟩ := hA
    have gsh : Sh ω H (ren (parO IS BS) ω) H := fun a o h e => ⟨h, by show parO IS BS (ω a) = _; rw [e]; rfl⟩
    have i0 : IS[j]? = some i := (hi 0).symm
    have b0 : BS[j]? = some b := (hb 0).symm
    have ow : OwR K (ren (parO IS BS) ω) H (if b then (⟨n, d⟩ : Cell) else sh d).k (Ow.own i) [] v (if b then (⟨n, d⟩ : Cell) else sh d).d := by
      cases b with
      | true =>
        exact OwR.go gsh (fun a u p z1 z2 => ⟨z1, by
          show parO IS BS (ω a) = _
          rw [z2]
          show (match IS[j]?, BS[j]? with | some i, some true => Ow.own i p | _, _ => Ow.shr) = _
          rw [i0, b0]⟩) _ _ _ _ h1
      | false =>
        exact OwR.fz gsh (fun a u p z1 z2 => ⟨z1, by
          show parO IS BS (ω a) = _
          rw [z2]
          show (match IS[j]?, BS[j]? with | some i, some true => Ow.own i p | _, _ => Ow.shr) = _
          rw [i0, b0]⟩) _ _ _ _ h1
    have rel' := rel.put (i := i) ow
    have hr := set_res (j + 1) (is := is) (bs := bs) (vs := vs) (rs := rs) (fun n => by
      have := hi (n + 1)
      rw [List.getElem?_cons_succ] at this
      rw [this]; congr 1; omega) (fun n => by
      have := hb (n + 1)
      rw [List.getElem?_cons_succ] at this
      rw [this]; congr 1; omega) h2 rel' (fun i' hi' => hio i' (List.mem_cons_of_mem _ hi')) h
    exact ⟨hr.1, (Keep.set (hio i List.mem_cons_self)).trans hr.2⟩
  | [], [], [], _ :: _, _, _, _, _, _, _, hA, _, _, _ => hA.elim
  | [], [], _ :: _, [], _, _, _, _, _, _, hA, _, _, _ => hA.elim
  | [], [], _ :: _, _ :: _, _, _, _, _, _, _, _, _, _, h => by cases h
  | [], _ :: _, _, _, _, _, _, _, _, _, _, _, _, h => by cases h
  | _ :: _, [], _, _, _, _, _, _, _, _, _, _, _, h => by cases h
  | _ :: _, _ :: _, _, [], _, _, _, _, _, _, _, _, _, h => by cases h
  | _ :: _, _ :: _, _, .b _ _ _ :: _, _, _, _, _, _, _, _, _, _, h => by cases h
  | _ :: _, _ :: _, [], .v _ _ :: _, _, _, _, _, _, _, hA, _, _, _ => hA.elim
theorem par_fin {is : List Nat} {bs : List Bool} {σ : Sg} {E : Ends} {k : Kt} {vs : List V} {H1 : Hp} {ω1 : Om} {e1 : Env} {rs : List Res} (hio : ∀ i ∈ is, io i = false) (fr : Free ω 0) (kr : KR K io ω σ H k E)
    (rel1 : Rel K ω1 e1 σ H1) (st1 : Step ω H ω1 H1) (rr1 : ResAll K ω1 H1 σ e1 0 vs rs) (h1 : toEnv k.nx (setRes is bs rs e1)) :
    vs.length = is.length ∧ ∀ H2, (H2 = H1 ∨ ∃ p, H1 p = none ∧ H2 = upd H1 p (.tup vs)) → E.nx (setSt is vs σ) H2 := by
  obtain ⟨e2, he, hk⟩ := toEnv_ex h1
  have rel2 : Rel K (ren (parO is bs) ω1) e1 σ H1 := by
    refine ⟨rel1.tab.ren rfl, rel1.len, fun j c e => ?_⟩
    obtain ⟨v', hv, ho⟩ := rel1.cell j c e
    exact ⟨v', hv, OwR.go (fun a o h e => ⟨h, by show parO is bs (ω1 a) = _; rw [e]; rfl⟩) (fun a u p z1 z2 => ⟨z1, by show parO is bs (ω1 a) = _; rw [z2]; rfl⟩) _ _ _ _ ho⟩
  obtain ⟨rel3, kp3⟩ := set_res (io := io) 0 (fun n => by rw [Nat.zero_add]) (fun n => by rw [Nat.zero_add]) rr1 rel2 hio he
  have stp : Step ω H (ren (parO is bs) ω1) H1 := fun a o h n => by
    rcases st1 a o h n with z | ⟨z1, z2⟩
    · exact .inl z
    · refine .inr ⟨z1, ?_⟩
      show parO is bs (ω1 a) = _
      rw [z2]
      cases y : ω a with
      | tmp t p => exact absurd (fr a t p y) (Nat.not_lt_zero _)
      | _ => rfl
  have frp : Free (ren (parO is bs) ω1) 0 := fun a t p e => by
    have e' : parO is bs (ω1 a) = .tmp t p := e
    cases y : ω1 a with
    | tmp t' p' =>
      rw [y] at e'
      have e2 : (match is[t']?, bs[t']? with | some i, some true => Ow.own i p' | _, _ => Ow.shr) = .tmp t p := e'
      revert e2
      cases is[t']? with
      | none => intro z; cases z
      | some i =>
        cases bs[t']? with
        | none => intro z; cases z
        | some b => cases b <;> (intro z; cases z)
    | shr => rw [y] at e'; cases e'
    | far => rw [y] at e'; cases e'
    | tab => rw [y] at e'; cases e'
    | own _ _ => rw [y] at e'; cases e'
  refine ⟨?_, fun H2 hH2 => ?_⟩
  · have : ∀ (is : List Nat) (bs : List Bool) (vs : List V) (rs : List Res) (T : Nat) (e e' : Env), ResAll K ω1 H1 σ e1 T vs rs → setRes is bs rs e = some e' → vs.length = is.length := by
      intro is
      induction is with
      | nil =>
        intro bs vs rs T e e' hA h
        cases bs with
        | cons _ _ => cases h
        | nil =>
          cases rs with
          | cons _ _ => cases h
          | nil =>
            cases vs with
            | nil => rfl
            | cons _ _ => exact hA.elim
      | cons i is ih =>
        intro bs vs rs T e e' hA h
        cases bs with
        | nil => cases h
        | cons b bs =>
          cases rs with
          | nil => cases h
          | cons r rs =>
            cases r with
            | b _ _ _ => cases h
            | v n d =>
              cases vs with
              | nil => exact hA.elim
              | cons v vs => rw [List.length_cons, List.length_cons, ih bs vs rs _ _ _ hA.2 h]
    exact this is bs vs rs 0 e1 e2 rr1 he
  · rcases hH2 with rfl | ⟨p, hp, rfl⟩
    · exact kr.nx _ _ (ren (parO is bs) ω1) e2 rel3 stp frp kp3 hk
    · have gr : Grow (ren (parO is bs) ω1) H1 (ren (parO is bs) ω1) (upd H1 p (.tup vs)) := fun a x h => ⟨by rw [upd_ne (ne_of_none h hp)]; exact h, rfl⟩
      exact kr.nx _ _ (ren (parO is bs) ω1) e2 (rel3.grow gr) (stp.grow gr) frp kp3 hk
end
section
variable {X : Cx} {io : Nat → Bool} {fa : FA} {pos : Pos} {bs : List Bool}
theorem ss_par2 {x y : Str} {a b : Expr} {px py pt : Pos} {kt k2 pt2} (i j : Nat) (bs : List Bool) (hc : X.calm = true) (hN : X.N.Nodup)
    (ha : SA X [a, b] fa) (hw : swappedStores [.Tuple [.Name x px, .Name y py] kt pt] (.Tuple [a, b] k2 pt2) X.env = pure (some [x, y])) (hi : X.N[i]? = some x := by rfl) (hj : X.N[j]? = some y := by rfl) (hij : i ≠ j := by decide)
    (hx : X.env.scope.names.lookup x = some .local := by rfl) (hy : X.env.scope.names.lookup y = some .local := by rfl) (h1 : io i = false := by decide) (h2 : io j = false := by decide)
    (hs : swapsWithSole [.Tuple [.Name x px, .Name y py] kt pt] (.Tuple [a, b] k2 pt2) pos.line X.env = pure false := by rfl) :
    SSt X io (.Assign [.Tuple [.Name x px, .Name y py] kt pt] (.Tuple [a, b] k2 pt2) pos) (fPar [i, j] bs fa) := by
  obtain ⟨t, p, s⟩ := ha.ex
  have hio : ∀ n ∈ [i, j], io n = false := fun n hn => by
    rcases List.mem_cons.mp hn with z | z
    · rw [z]; exact h1
    · rw [List.mem_singleton.mp z]; exact h2
  refine ⟨_, ps_par hc hN hi hj hij hx hy p hw hs, fun ω env σ H E k rel fr hf kr => ?_⟩
  refine s ω 0 env σ H _ _ rel fr hf fun vs H1 ω1 e1 rs rel1 st1 fr1 rr1 h1 => ?_
  obtain ⟨hl, h⟩ := par_fin hio fr kr rel1 st1 rr1 h1
  match vs, hl, h with
  | [v, w], _, h => exact ⟨v, w, rfl, h H1 (.inl rfl)⟩
/-- names alone -/
def gNm (is : List Nat) : TGs := fun vs σ H Q => vs.length = is.length ∧ Q (setSt is vs σ) H
end
end Pv

/-! Pv11: isinstance, all, any, min, max, sorted, in, zip, enumerate. -/
namespace Pv
open PySem PySem.Spec PyProof.Rows L2

/-! ### isinstance -/
def tyD : D → String
  | .none => "NoneType"
  | .bool _ => "bool"
  | .int _ => "int"
  | .str _ => "str"
  | .list _ => "list"
  | .tuple _ => "tuple"
  | .dict kvs => bif isScr kvs then "list" else "dict"
def tyNames : List String := ["NoneType", "bool", "int", "str", "list", "tuple", "dict"]
def isiD (T : String) (d : D) : Bool := (L2.kitB (tyD d) T).getD false
theorem tyD_mem (d : D) : tyD d ∈ tyNames := by
  cases d with
  | dict kvs => cases h : isScr kvs <;> simp [tyD, tyNames, h]
  | _ => simp [tyD, tyNames]
theorem isiD_ok {T : String} (h : tyNames.all (fun s => (L2.kitB s T).isSome) = true) (d : D) : L2.kitB (tyD d) T = some (isiD T d) := by
  have := List.all_eq_true.mp h _ (tyD_mem d)
  unfold isiD
  cases e : L2.kitB (tyD d) T with
  | none => rw [e] at this; cases this
  | some b => rfl
/-- no instance, no exception -/
def plainD (d : D) : Prop := ∀ nm fs, d ≠ insD nm fs ∧ d ≠ excD nm fs ∧ (∀ l, d ≠ dcD (.bool true, l)) ∧ ∀ ds, d ≠ otpD ds
def isP : D → Prop → Prop
  | .dict ((.bool false, _) :: _), _ => False
  | .dict ((.bool true, .bool true) :: _), _ => False
  | _, P => P
theorem isP_ex {d : D} {P : Prop} (h : isP d P) : plainD d ∧ P := by
  unfold isP at h
  split at h
  · exact h.elim
  · exact h.elim
  · rename_i hne hne2
    refine ⟨fun nm fs => ⟨fun e => ?_, fun e => ?_, fun l e => ?_, fun ds e => ?_⟩, h⟩
    · exact hne _ _ e
    · exact hne _ _ e
    · exact hne2 _ e
    · exact hne _ _ e
section
variable {K : Fg} {ω : Om} {H : Hp} {v : V} {r : Res}
theorem Rp.ty {d : D} (hp : plainD d) (h : Rp K ω H v d) : TyX K H v (.type (tyD d)) := by
  cases h with
  | non => exact .base .non
  | bl b => exact .base (.bl b)
  | int i => exact .base (.int i)
  | str x => exact .base (.str x)
  | lst hs ha => exact .base (.lst hs.1)
  | tup hs ha =>
    rcases hs with ⟨h, _⟩ | ⟨o, _, _, h, c, _⟩
    · exact .base (.tup h)
    · exact .kTuple h c
  | scr hs =>
    rename_i a ns
    have e : tyD (scrD ns) = "list" := by show (bif isScr (ns.map fun n => (PyData.none, PyData.int n)) then "list" else "dict") = "list"; rw [isScr_map]; rfl
    rw [e]
    rcases hs with ⟨h | ⟨o, h⟩, _⟩ | ⟨o, _, _, h, c, _⟩
    · exact .base (.lst h)
    · exact .base (.frz h)
    · exact .kList h c
  | dct h _ hd => cases hd with
    | int _ => exact .base (.dK h)
    | tup _ => exact absurd rfl ((hp Str.empty []).2.2.1 _)
  | ins _ _ _ _ _ _ => exact absurd rfl (hp _ _).1
  | exc _ _ _ _ => exact absurd rfl (hp _ _).2.1
  | otp _ _ => exact absurd rfl ((hp Str.empty []).2.2.2 _)
theorem Vw.ty (hp : plainD r.d) (h : Vw K ω H v r) : TyX K H v (.type (tyD r.d)) := by
  cases r with
  | v k d => exact Rp.ty (d := d) hp h
  | b j k d =>
    have h' : OwR K ω H k (Ow.own j) [] v d := h
    cases k with
    | zero => exact Rp.ty (d := d) hp h'
    | succ k =>
      rcases h' with ⟨_, h'⟩ | ⟨a, vs, ds, e1, e2, h1, _⟩ | ⟨a, kvs, es, e1, e2, h1, _, hd⟩ | ⟨_, _, _, _, nm, fs, _, e2, _⟩ | ⟨_, _, _, _, e2, _⟩
      · exact Rp.ty hp h'
      · subst e1; subst e2; exact .base (.lst h1)
      · subst e1
        cases hd with
        | int _ => rw [e2]; exact .base (.dK h1)
        | tup _ => exact absurd e2 ((hp Str.empty []).2.2.1 _)
      · exact absurd e2 (hp nm fs).1
      · exact absurd e2 ((hp Str.empty []).2.2.2 _)
end
def oIsi (Ts : List String) : O1 := fun r R => isP r.d (R 0 (.bool (Ts.any fun T => isiD T r.d)))
section
variable {X : Cx} {e : Expr} {fa : FE} {p p2 p3 pos : Pos} {T : Str} {t : String}
theorem se_isi (t : String) (hm : X.mg "isinstance" = none) (hm2 : X.mg T = none) (ha : SE X e fa) (hg : Gl X "isinstance" := by rfl) (hg2 : Gl X T := by rfl) (hv : bootBuiltins T = some (.type t) := by decide +kernel) (ht : (tyNames.all fun s => (L2.kitB s t).isSome) = true := by decide +kernel)
    (hn : T ≠ "__name__" := by decide) (hd : (T == ("__debug__" : Str)) = false := by decide)
    (he : starEach [e, .Name T p2] X.env = (false, eval e X.env) :: starEach [.Name T p2] X.env := by rfl) (he2 : starEach [.Name T p2] X.env = (false, eval (.Name T p2) X.env) :: starEach [] X.env := by rfl) (hpl : (backTo pos (starEach [.Name T p2] X.env)).any (·.1) = false := by rfl) :
    SE X (.Call (.Name "isinstance" p) [e, .Name T p2] [] pos) (fOp1 (oIsi [t]) fa) := by
  obtain ⟨w, q, s⟩ := ha.ex
  refine ⟨_, pe_callB call_isi hg hm (id := "isinstance") (by decide +kernel) (pa_cons q (pa_cons (pe_bltn (v := .ty t) (u := .type t) hg2 hm2 hv rfl hn hd) pa_nil he2) he) (by decide) (by decide) he hpl, fun ω T' env σ H R Q rel fre hR qq => ?_⟩
  refine s ω T' env σ H _ _ rel fre hR fun v H1 ω1 e1 r rel1 st1 fr1 rr1 h1 => ?_
  obtain ⟨hpl, h2⟩ := isP_ex (ap1_cl h1)
  refine ⟨v, .ty t, _, _, _, rfl, .ty t, (rr1.gc (T := T') rel1 (Nat.le_refl _)).ty hpl, kit_ty (isiD_ok ht r.d), ?_⟩
  have h2 : R (.v 0 (.bool ([t].any fun T => isiD T r.d))) e1 := h2
  rw [List.any_cons, List.any_nil, Bool.or_false] at h2
  exact (out_of (R := R) (rel1.gc T') (st1.gc fre) qq).bl gc_free h2
end

section
variable {X : Cx}
/-- sorted of a list of pairs of ints, held or known: a new list of the same pairs -/
def rSortedPT (K : PySem.W.Frag) : List V → Hp → VK → Prop := fun vs H Q => ∃ a xs, vs = [V.ref a] ∧ SqL K H a xs ∧ (∀ x ∈ xs, ∃ t i j, x = V.ref t ∧ SqT K H t [V.int i, V.int j]) ∧
  ∀ ys p, ys.Perm xs → H p = none → Q (.ref p) (upd H p (.lst ys))
theorem cr_sortedPT : CallR X (.builtin "sorted") (rSortedPT X.K) := by
  intro pins s σ H vs us Q I r h
  obtain ⟨a, xs, rfl, hs, hx, q⟩ := h
  obtain ⟨its, rv, hl, hz⟩ := I.list hs
  obtain ⟨u, rfl, ru⟩ := vals1 r
  obtain rfl : u = Value.ref a := ru
  obtain ⟨e1, e2⟩ := refs_back rv fun x m => by
    obtain ⟨t, _, _, e, _⟩ := hx x m
    exact ⟨t, e⟩
  refine Srt.sorted_pairs hl.isList (by rw [← rv.length]; exact hz) (fun v hv => ?_) fun h' d out hp k hd hn => ?_
  · obtain ⟨t, rfl⟩ := e2 v hv
    have hm : V.ref t ∈ xs := by rw [e1]; exact List.mem_map.mpr ⟨_, hv, rfl⟩
    obtain ⟨t', i, j, e, ht⟩ := hx _ hm
    cases e
    obtain ⟨its2, r2, hT, _⟩ := I.tuple ht
    obtain ⟨u1, u2, rfl, ri, rj⟩ := vals2 r2
    obtain ⟨t1, rfl⟩ := ri
    obtain ⟨t2, rfl⟩ := rj
    obtain ⟨o, ho, hc, n, hd⟩ := hT
    exact ⟨i, j, t, o, t1, t2, n, rfl, ho, hc, hd⟩
  · have h3 : ∀ u ∈ out, ∃ a, u = Value.ref a := fun u hu => e2 u (hp.mem_iff.mp hu)
    obtain ⟨n, hn⟩ := hn
    refine ⟨.ref d, upd H d (.lst (out.map backV)), I.laid (t' := s.toks) k hd ⟨?_, out, n, vals_back h3, hn⟩, rfl, q _ d ?_ (I.hok.fresh hd)⟩
    · rw [List.length_map, hp.length_eq, ← rv.length]; exact hz
    · rw [e1]; exact hp.map backV
end
/-- a permutation of what is held tells one of what is told -/
theorem RpAll.permF {K : Fg} {ω : Om} {H : Hp} {α : Type} (f : α → D) {ys xs : List V} (h : ys.Perm xs) : ∀ {ns : List α}, RpAll K ω H xs (ns.map f) → ∃ ms : List α, ms.Perm ns ∧ RpAll K ω H ys (ms.map f) := by
  induction h with
  | nil => intro ns h; exact ⟨ns, .refl _, h⟩
  | cons v p ih =>
    intro ns h
    cases ns with
    | nil => cases h
    | cons n ns =>
      cases h with
      | cons a b =>
        obtain ⟨ms, p, h⟩ := ih b
        exact ⟨n :: ms, p.cons n, .cons a h⟩
  | swap v w l =>
    intro ns h
    match ns, h with
    | n :: m :: ns, .cons a (.cons b c) => exact ⟨m :: n :: ns, .swap n m ns, .cons b (.cons a c)⟩
  | trans p q ih1 ih2 =>
    intro ns h
    obtain ⟨ms, r, h⟩ := ih2 h
    obtain ⟨ks, s, h⟩ := ih1 h
    exact ⟨ks, s.trans r, h⟩
/-- a pair of ints -/
def ijD (p : Int × Int) : D := .tuple [.int p.1, .int p.2]
theorem RpAll.pairs {K : Fg} {ω : Om} {H : Hp} : ∀ {xs : List V} {ps : List (Int × Int)}, RpAll K ω H xs (ps.map ijD) → ∀ x ∈ xs, ∃ t i j, x = V.ref t ∧ SqT K H t [V.int i, V.int j]
  | _, [], .nil => fun x hx => nomatch hx
  | _, p :: ps, .cons a b => fun x hx => by
    rcases List.mem_cons.mp hx with e | hx
    · subst e
      cases a with
      | tup h r =>
        cases r with
        | cons r1 r2 =>
          cases r2 with
          | cons r2 r3 =>
            cases r3
            cases r1
            cases r2
            exact ⟨_, _, _, rfl, h.seq⟩
    · exact RpAll.pairs b x hx
/-! ### sorted of a tuple of ints -/
section
variable {prog : Program} {w : World} {A : Around} {E : Value → Shared → Prop} {s : Shared}
theorem collect_tup {l : Addr} {vs : List Value} {Q : List Value → Shared → Prop} (hl : s.heap.IsTuple l vs.toArray) (hz : vs.length ≤ sizeLine)
    (h : Q vs { s with heap := (s.heap.push (seqObj "list" #[] 0)).update s.heap.objs.size (Obj.mapSeq (· ++ vs.toArray)) }) : wpAny (model prog w) A (collect (.ref l)) Q E s := by
  obtain ⟨o, ho, hc, n, hd⟩ := hl
  have ho' : (s.heap.push (seqObj "list" #[] 0)).get? l = some o := Heap.get?_push_of_some _ ho
  unfold collect
  refine wpAny_bind (wpAny_runValue (codeAny_builtin entry_proto_collect' ?_))
  show wpAny _ _ (do again (.builtin "list.__iadd__" ⟨[← newList [], .ref l], []⟩)) _ _ s
  refine wpAny_bind (wpAny_newList (wpAny_pure ⟨Code.quiet_builtin _ (by decide +kernel), codeAny_builtin entry_list_iadd' ?_⟩))
  show wpAny _ _ (Builtin.List.listExtendWith (.ref s.heap.objs.size) (.ref l) (.ref s.heap.objs.size)) _ _ { s with heap := s.heap.push (seqObj "list" #[] 0) }
  unfold Builtin.List.listExtendWith
  refine wpAny_bind (wpAny_typeOf (T := "tuple") ⟨o, ho', hc⟩ ?_)
  rw [if_pos (by rw [show (Value.type "tuple" == Value.type "tuple") = true by rfl]; simp)]
  refine wpAny_bind (listItems_at ho' hd ?_)
  refine wpAny_bind (listItems_at (xs := #[]) (n := 0) (Heap.get?_push_size _ rfl) rfl ?_)
  rw [if_neg (by simp)]
  refine wpAny_bind (listUpdate_at (xs := #[]) (n := 0) (Heap.get?_push_size _ rfl) rfl ?_ (Nat.zero_le _) (by show (#[] ++ vs.toArray).size ≤ sizeLine + 1; simp only [Array.size_append, List.size_toArray, List.length_nil]; omega))
  refine wpAny_pure ?_
  show wpAny (model prog w) A (do
      let o ← load s.heap.objs.size
      match o.data with
      | .seq xs _ => pure xs.toList
      | _ => unsupported "internal:collect") Q E { s with heap := (s.heap.push (seqObj "list" #[] 0)).update s.heap.objs.size (Obj.mapSeq (· ++ vs.toArray)) }
  refine wpAny_bind (wpAny_load (get?_update_seq (Heap.get?_push_size _ rfl) _) ?_)
  show wpAny _ _ (pure ((#[] : Array Value) ++ vs.toArray).toList) Q E _
  rw [show ((#[] : Array Value) ++ vs.toArray).toList = vs by simp]
  exact wpAny_pure h
open SrtO Srt in
theorem sorted_tup {l : Addr} {vs : List Value} {ltv : Value → Value → Bool} {Q : Value → Shared → Prop} (O : Swo ltv) (hl : s.heap.IsTuple l vs.toArray) (hz : vs.length ≤ sizeLine)
    (hS : 2 ≤ vs.length → ∀ (h₁ : Heap) (a : Addr), SortableO prog w A.in1.in1 { s with heap := h₁ } a vs ltv)
    (h : ∀ out : List Value, Srtd ltv out → Stb ltv out vs → Q (.ref (s.heap.objs.size + 1)) { s with heap := sortedAll s.heap vs out.toArray }) :
    wpAny (model prog w) A (call (.builtin "sorted") [.ref l]) Q E s := by
  refine Calls.call_function_entry kind_sorted plain_sorted entry_sorted (args_sorted1 _) ?_
  unfold Builtin.«sorted»
  refine wpAny_bind (m := checkCount "sorted" 1 1 _) (wpAny_pure ?_)
  refine wpAny_bind (collect_tup hl hz ?_)
  refine wpAny_bind (wpAny_newList ?_ hz)
  have hsz : ((s.heap.push (seqObj "list" #[] 0)).update s.heap.objs.size (Obj.mapSeq (· ++ vs.toArray))).objs.size = s.heap.objs.size + 1 := by
    rw [Heap.size_update, size_push']
  have hoL : (((s.heap.push (seqObj "list" #[] 0)).update s.heap.objs.size (Obj.mapSeq (· ++ vs.toArray))).push (seqObj "list" vs.toArray 0)).get? (s.heap.objs.size + 1) = some (seqObj "list" vs.toArray 0) := by
    rw [← hsz]; exact Heap.get?_push_size _ rfl
  show wpAny _ _ _ _ _ { s with heap := ((s.heap.push (seqObj "list" #[] 0)).update s.heap.objs.size (Obj.mapSeq (· ++ vs.toArray))).push (seqObj "list" vs.toArray 0) }
  rw [hsz]
  exact wpAny_bind (wpAny_holding (wpAny_call_entry slot_list_sort ⟨_, hoL, rfl⟩ entry_list_sort (list_sort_ord O hoL hz (fun h2 => hS h2 _ _) fun out hs hb => ⟨_, rfl, wpAny_pure ⟨_, rfl, h out hs hb⟩⟩) (args_list_sort _)))
end
def rSortedIT (K : PySem.W.Frag) : List V → Hp → VK → Prop := fun vs H Q => ∃ (a : Addr) (ns : List Int), vs = [V.ref a] ∧ SqT K H a (ns.map V.int) ∧
  ∀ (ns' : List Int) (p : Addr), ns'.Perm ns → ns'.Pairwise (· ≤ ·) → H p = none → Q (.ref p) (upd H p (.lst (ns'.map V.int)))
theorem cr_sortedIT {X : Cx} : CallR X (.builtin "sorted") (rSortedIT X.K) := by
  intro pins s σ H vs us Q I r h
  obtain ⟨a, ns, rfl, hs, q⟩ := h
  obtain ⟨its, rv, hl, hz⟩ := I.tuple hs
  rw [Vals.ref1 r]
  have hi := rv.ints
  refine sorted_tup SrtO.swo_int hl (by rw [← rv.length]; exact hz) (fun h2 h₁ a' => SrtO.ints_sortable hi h2) fun out h1 h2 => ?_
  obtain ⟨k1, k2, k3⟩ := SrtO.ints_out hi h1 h2
  obtain ⟨ep, he'⟩ := PyProof.Rows.sortedAll_at s.heap its out.toArray
  have hlen : ((out.map SrtO.iv).map V.int).length ≤ sizeLine := by
    rw [List.length_map, k2.length_eq]
    rw [List.length_map] at hz
    exact hz
  exact ⟨.ref _, upd H (s.heap.objs.size + 1) (.lst ((out.map SrtO.iv).map V.int)), I.laid (t' := s.toks) (fun _ _ => PyProof.Rows.sortedAll_old) (Nat.le_succ _) ⟨hlen, out, ep, vals_of_ints k1, he'⟩, rfl, q _ _ k2 k3 (I.hok.fresh (Nat.le_succ _))⟩
/-! ### all, any, min, max, sorted -/
def dAll (f : Prop) (R : KC) : D → Prop
  | .list ds => f ∧ ∃ bs : List Bool, ds = bs.map PyData.bool ∧ R 0 (.bool (bs.all id))
  | _ => False
def dAny (f : Prop) (R : KC) : D → Prop
  | .list ds => f ∧ ∃ bs : List Bool, ds = bs.map PyData.bool ∧ R 0 (.bool (bs.any id))
  | _ => False
def dMax (f : Prop) (R : KC) : D → Prop
  | .list ds => f ∧ ∃ ns : List Int, ds = ns.map PyData.int ∧ 0 < ns.length ∧ ∀ m, m ∈ ns → (∀ y, y ∈ ns → y ≤ m) → R 0 (.int m)
  | .tuple ds => ∃ ns : List Int, ds = ns.map PyData.int ∧ 0 < ns.length ∧ ∀ m, m ∈ ns → (∀ y, y ∈ ns → y ≤ m) → R 0 (.int m)
  | _ => False
def dMin (f : Prop) (R : KC) : D → Prop
  | .list ds => f ∧ ∃ ns : List Int, ds = ns.map PyData.int ∧ 0 < ns.length ∧ ∀ m, m ∈ ns → (∀ y, y ∈ ns → m ≤ y) → R 0 (.int m)
  | .tuple ds => ∃ ns : List Int, ds = ns.map PyData.int ∧ 0 < ns.length ∧ ∀ m, m ∈ ns → (∀ y, y ∈ ns → m ≤ y) → R 0 (.int m)
  | _ => False
def dSorted (f : Prop) (R : KC) : D → Prop
  | .list ds => f ∧ ((∃ ns : List Int, ds = ns.map PyData.int ∧ ∀ ns' : List Int, ns'.Perm ns → ns'.Pairwise (· ≤ ·) → R 1 (.list (ns'.map PyData.int))) ∨ (∃ ps : List (Int × Int), ds = ps.map ijD ∧ ∀ ps' : List (Int × Int), ps'.Perm ps → R 1 (.list (ps'.map ijD))))
  | .tuple ds => ∃ ns : List Int, ds = ns.map PyData.int ∧ ∀ ns' : List Int, ns'.Perm ns → ns'.Pairwise (· ≤ ·) → R 1 (.list (ns'.map PyData.int))
  | _ => False
def oAll : O1 := fun r R => dAll (flat r) R r.d
def oAny : O1 := fun r R => dAny (flat r) R r.d
def oMax : O1 := fun r R => dMax (flat r) R r.d
def oMin : O1 := fun r R => dMin (flat r) R r.d
def oSorted : O1 := fun r R => dSorted (flat r) R r.d
section
variable {X : Cx}
theorem alikeAll_ints (ns : List Int) : PySem.W.AlikeAll (ns.map PyData.int) := by
  refine ⟨fun x hx y hy => ?_, fun x hx => ?_⟩
  · obtain ⟨i, _, rfl⟩ := List.mem_map.mp hx
    obtain ⟨j, _, rfl⟩ := List.mem_map.mp hy
    rfl
  · obtain ⟨i, _, rfl⟩ := List.mem_map.mp hx
    exact fun z => nomatch z
theorem depth_ints : ∀ ns : List Int, PyData.depthAll (ns.map PyData.int) = 0
  | [] => rfl
  | n :: ns => by rw [List.map_cons, PyData.depthAll, depth_ints ns]; rfl
theorem dpAll_ints {K : Fg} {H : Hp} : ∀ ns : List Int, DpAll K H (ns.map V.int) (ns.map PyData.int)
  | [] => .nil
  | n :: ns => .cons (.int n) (dpAll_ints ns)
theorem foldl_max : ∀ (ns : List Int) (n : Int), (ns.foldl max n) ∈ n :: ns ∧ ∀ y ∈ n :: ns, y ≤ ns.foldl max n
  | [], n => ⟨by simp, by simp⟩
  | k :: ns, n => by
    obtain ⟨h1, h2⟩ := foldl_max ns (max n k)
    rw [List.foldl_cons]
    refine ⟨?_, fun y hy => ?_⟩
    · rcases List.mem_cons.mp h1 with e | e
      · rw [e]
        by_cases z : n ≤ k
        · rw [Int.max_eq_right z]; simp
        · rw [Int.max_eq_left (by omega)]; simp
      · simp [e]
    · have h3 := h2 (max n k) (by simp)
      rcases List.mem_cons.mp hy with e | hy
      · subst e; omega
      · rcases List.mem_cons.mp hy with e | hy
        · subst e; omega
        · exact h2 y (by simp [hy])
theorem foldl_min : ∀ (ns : List Int) (n : Int), (ns.foldl min n) ∈ n :: ns ∧ ∀ y ∈ n :: ns, ns.foldl min n ≤ y
  | [], n => ⟨by simp, by simp⟩
  | k :: ns, n => by
    obtain ⟨h1, h2⟩ := foldl_min ns (min n k)
    rw [List.foldl_cons]
    refine ⟨?_, fun y hy => ?_⟩
    · rcases List.mem_cons.mp h1 with e | e
      · rw [e]
        by_cases z : n ≤ k
        · rw [Int.min_eq_left z]; simp
        · rw [Int.min_eq_right (by omega)]; simp
      · simp [e]
    · have h3 := h2 (min n k) (by simp)
      rcases List.mem_cons.mp hy with e | hy
      · subst e; omega
      · rcases List.mem_cons.mp hy with e | hy
        · subst e; omega
        · exact h2 y (by simp [hy])
def rMaxT (K : Fg) : List V → Hp → VK → Prop := fun vs H Q => ∃ (a : Addr) (ns : List Int), vs = [V.ref a] ∧ SqT K H a (ns.map V.int) ∧ 0 < ns.length ∧ ∀ m, m ∈ ns → (∀ y, y ∈ ns → y ≤ m) → Q (.int m) H
def rMinT (K : Fg) : List V → Hp → VK → Prop := fun vs H Q => ∃ (a : Addr) (ns : List Int), vs = [V.ref a] ∧ SqT K H a (ns.map V.int) ∧ 0 < ns.length ∧ ∀ m, m ∈ ns → (∀ y, y ∈ ns → m ≤ y) → Q (.int m) H
theorem cr_maxT (hc : X.calm = true) (hu : X.A.units + 1 < cLine) : CallR X (.builtin "max") (rMaxT X.K) := by
  intro pins s σ H vs us Q I r h
  obtain ⟨a, ns, rfl, hs, hne, q⟩ := h
  obtain ⟨its, rv, hl, _⟩ := I.tuple hs
  rw [Vals.ref1 r]
  match ns, hne with
  | n :: ns, _ =>
    obtain ⟨as, ra⟩ := Dp.readsAll I ((n :: ns).map PyData.int) _ _ (dpAll_ints (n :: ns)) rv
    refine PySem.W.max_tuple_data (I.ok.hd hc) (show s.heap.IsTuple a its.toArray from hl) (x := .int n) (xs := ns.map PyData.int) (as := as) (by simpa using ra) (alikeAll_ints (n :: ns)) (by
      have := depth_ints (n :: ns)
      rw [List.map_cons] at this
      rw [this]; exact hu) fun i v h' tk bs _ hr hk => ?_
    rw [PySem.W.maxD_ints] at hr
    cases hr with
    | int _ t =>
      obtain ⟨m1, m2⟩ := foldl_max ns n
      exact ⟨.int _, H, I.kept hk, ⟨_, rfl⟩, q _ m1 m2⟩
theorem cr_or {u : Value} {r r' : List V → Hp → VK → Prop} (h : CallR X u r) (h' : CallR X u r') : CallR X u (fun xs H Q => r xs H Q ∨ r' xs H Q) := fun pins s σ H xs us Q I rv q => q.elim (h pins s σ H xs us Q I rv) (h' pins s σ H xs us Q I rv)
theorem so_all {K : Fg} : SndO1 K (fun x H Q => rAll K [x] H Q) oAll := by
  intro ω T H x r1 R Q fr v1 h q
  have h' : dAll (flat r1) R r1.d := h
  generalize e1 : r1.d = d1 at h'
  cases d1 <;> first
    | exact h'.elim
    | skip
  obtain ⟨f, bs, rfl, hR⟩ := h'
  obtain ⟨a, vs, rfl, ha, hp⟩ := v1.lst f e1
  exact ⟨a, bs, rfl, .inl (.inl (by rw [← RpAll.of_bools bs hp]; exact ha)), q.bl fr hR⟩
theorem so_any {K : Fg} : SndO1 K (fun x H Q => rAny K [x] H Q) oAny := by
  intro ω T H x r1 R Q fr v1 h q
  have h' : dAny (flat r1) R r1.d := h
  generalize e1 : r1.d = d1 at h'
  cases d1 <;> first
    | exact h'.elim
    | skip
  obtain ⟨f, bs, rfl, hR⟩ := h'
  obtain ⟨a, vs, rfl, ha, hp⟩ := v1.lst f e1
  exact ⟨a, bs, rfl, .inl (.inl (by rw [← RpAll.of_bools bs hp]; exact ha)), q.bl fr hR⟩
theorem so_max {K : Fg} : SndO1 K (fun x H Q => rMax K [x] H Q ∨ rMaxT K [x] H Q) oMax := by
  intro ω T H x r1 R Q fr v1 h q
  have h' : dMax (flat r1) R r1.d := h
  generalize e1 : r1.d = d1 at h'
  cases d1 <;> first
    | exact h'.elim
    | skip
  · obtain ⟨f, ns, rfl, hn, hR⟩ := h'
    obtain ⟨a, vs, rfl, ha, hp⟩ := v1.lst f e1
    exact .inl ⟨a, ns, rfl, .inl (.inl (by rw [← RpAll.of_ints ns hp]; exact ha)), hn, fun m h1 h2 => q.int fr (hR m h1 h2)⟩
  · obtain ⟨ns, rfl, hn, hR⟩ := h'
    obtain ⟨a, vs, rfl, ha, hp⟩ := v1.tup e1
    exact .inr ⟨a, ns, rfl, by rw [← RpAll.of_ints ns hp]; exact ha, hn, fun m h1 h2 => q.int fr (hR m h1 h2)⟩
theorem so_sorted {K : Fg} : SndO1 K (fun x H Q => (rSortedI K [x] H Q ∨ rSortedPT K [x] H Q) ∨ rSortedIT K [x] H Q) oSorted := by
  intro ω T H x r1 R Q fr v1 h q
  have h' : dSorted (flat r1) R r1.d := h
  generalize e1 : r1.d = d1 at h'
  cases d1 <;> first
    | exact h'.elim
    | skip
  · obtain ⟨f, h'⟩ := h'
    obtain ⟨a, vs, rfl, ha, hp⟩ := v1.lst f e1
    rcases h' with ⟨ns, rfl, hR⟩ | ⟨ps, rfl, hR⟩
    · exact .inl (.inl ⟨a, ns, rfl, .inl (.inl (by rw [← RpAll.of_ints ns hp]; exact ha)), fun ns' p h1 h2 hp' => q.lst fr hp' (RpAll.ints ns') (hR ns' h1 h2)⟩)
    · refine .inl (.inr ⟨a, vs, rfl, .inl (.inl ha), hp.pairs, fun ys p h1 hp' => ?_⟩)
      obtain ⟨ms, h2, h3⟩ := RpAll.permF ijD h1 hp
      exact q.lst fr hp' h3 (hR ms h2)
  · obtain ⟨ns, rfl, hR⟩ := h'
    obtain ⟨a, vs, rfl, ha, hp⟩ := v1.tup e1
    exact .inr ⟨a, ns, rfl, by rw [← RpAll.of_ints ns hp]; exact ha, fun ns' p h1 h2 hp' => q.lst fr hp' (RpAll.ints ns') (hR ns' h1 h2)⟩
variable {e : Expr} {fa : FA} {p pos : Pos}
theorem c1 {u : Value} {r : List V → Hp → VK → Prop} (h : CallR X u r) : CallR X u (fun xs H Q => ∃ x, xs = [x] ∧ r [x] H Q) := cimp h fun xs H Q ⟨x, e, h⟩ => by subst e; exact h
theorem se_all (hc : X.calm = true) (hm : X.mg "all" = none) (ha : SA X [e] fa) (hg : Gl X "all" := by rfl) (he : starEach [e] X.env = [(false, eval e X.env)] := by rfl) : SE X (.Call (.Name "all" p) [e] [] pos) (fOpN (at1 oAll) fa) :=
  se_callB (c1 (cr_all hc)) (so_at1 so_all) (id := "all") (by decide +kernel) hm ha hg (by decide) (by decide) he rfl
theorem se_any (hc : X.calm = true) (hm : X.mg "any" = none) (ha : SA X [e] fa) (hg : Gl X "any" := by rfl) (he : starEach [e] X.env = [(false, eval e X.env)] := by rfl) : SE X (.Call (.Name "any" p) [e] [] pos) (fOpN (at1 oAny) fa) :=
  se_callB (c1 (cr_any hc)) (so_at1 so_any) (id := "any") (by decide +kernel) hm ha hg (by decide) (by decide) he rfl
theorem se_max {k : Nat} (hc : X.calm = true) (hr : Room k X.A) (hm : X.mg "max" = none) (ha : SA X [e] fa) (hg : Gl X "max" := by rfl) (he : starEach [e] X.env = [(false, eval e X.env)] := by rfl) : SE X (.Call (.Name "max" p) [e] [] pos) (fOpN (at1 oMax) fa) :=
  se_callB (c1 (cr_or (cr_max hc) (cr_maxT hc (by have := hu64 hr; omega)))) (so_at1 so_max) (id := "max") (by decide +kernel) hm ha hg (by decide) (by decide) he rfl
theorem se_sorted (hm : X.mg "sorted" = none) (ha : SA X [e] fa) (hg : Gl X "sorted" := by rfl) (he : starEach [e] X.env = [(false, eval e X.env)] := by rfl) : SE X (.Call (.Name "sorted" p) [e] [] pos) (fOpN (at1 oSorted) fa) :=
  se_callB (c1 (cr_or (cr_or cr_sortedI cr_sortedPT) cr_sortedIT)) (so_at1 so_sorted) (id := "sorted") (by decide +kernel) hm ha hg (by decide) (by decide) he rfl
end

/-! ### in, not in; list * int; is of bools -/
def flatD : D → Bool
  | .none => true
  | .bool _ => true
  | .int _ => true
  | .str _ => true
  | _ => false
def inD (d : D) (ds : List D) : Bool := ds.any fun z => PyData.eqv z d
def dIn (p : Bool → Bool) (x : D) (R : KC) : D → Prop
  | .tuple ds => shp x ∧ shp (.tuple ds) ∧ R 0 (.bool (p (inD x ds)))
  | .list ds => shp x ∧ shp (.list ds) ∧ R 0 (.bool (p (inD x ds)))
  | _ => False
def oIn : O2 := fun r1 r2 R => dIn (fun b => b) r1.d R r2.d
def oNotIn : O2 := fun r1 r2 R => dIn (fun b => !b) r1.d R r2.d
def dMulA (f : Prop) (R : KC) : D → D → Prop
  | .int i, .int j => CMul i j ∧ R 0 (.int (i * j))
  | .list ds, .int k => (f ∧ -(2 ^ 63) ≤ k ∧ k < 2 ^ 63 ∧ ds.length * k.toNat ≤ sizeLine) ∧ R 1 (.list (List.replicate k.toNat ds).flatten)
  | .tuple ds, .int k => (ds ≠ [] ∧ 1 ≤ k ∧ k ≤ 1000 ∧ ds.length ≤ 1000) ∧ R 0 (.tuple (List.replicate k.toNat ds).flatten)
  | _, _ => False
def oMulA : O2 := fun r1 r2 R => dMulA (flat r1) R r1.d r2.d
def dIsB (R : KC) : D → D → Prop
  | .bool a, .bool b => R 0 (.bool (decide (a = b)))
  | .none, .bool _ => R 0 (.bool false)
  | _, _ => False
def oIsB : O2 := fun r1 r2 R => dIsB R r1.d r2.d
def dNotB (R : KC) : D → D → Prop
  | .bool a, .bool b => R 0 (.bool (!decide (a = b)))
  | .none, .bool _ => R 0 (.bool true)
  | _, _ => False
def oNotB : O2 := fun r1 r2 R => dNotB R r1.d r2.d
section
variable {X : Cx} {K : Fg} {ω : Om} {H : Hp}
theorem Vw.flat {v : V} {r : Res} (h : Vw K ω H v r) (f : flatD r.d = true) : Rp K ω H v r.d := by
  cases r with
  | v k d => exact h
  | b j k d =>
    have h' : OwR K ω H k (Ow.own j) [] v d := h
    cases k with
    | zero => exact h'
    | succ k =>
      rcases h' with ⟨_, h'⟩ | ⟨_, _, _, _, e2, _⟩ | ⟨_, _, _, _, e2, _⟩ | ⟨_, _, _, _, _, _, _, e2, _⟩ | ⟨_, _, _, _, e2, _⟩
      · exact h'
      · subst e2; cases f
      · subst e2; cases f
      · subst e2; cases f
      · first | (cases e2; done) | exact (dct_not_otp e2).elim | exact (dct_not_otp e2.symm).elim | exact (ins_not_otp e2.symm).elim | exact (ins_not_otp e2).elim | exact (exc_not_otp e2).elim | (subst e2; cases f; done)
def rInDT (K : PySem.W.Frag) (p : Bool → Bool) : R2 := fun x y H Q => ∃ d ds, Dp K H x d ∧ Dp K H y (.tuple ds) ∧ SeqAt.shaped d = true ∧ SeqAt.shaped (.tuple ds) = true ∧ Q (.bl (p (ds.any fun z => PyData.eqv z d))) H
theorem op_inDT (hu : X.A.units + 65 < cLine) : OpR X (compareOp .In) (rInDT X.K fun b => b) := by
  intro pins s σ H x y v u Q I rx ry h
  obtain ⟨d, ds, hd, he, sd, se, q⟩ := h
  obtain ⟨as, r1⟩ := Dp.reads I d x v hd rx
  obtain ⟨bs, r2⟩ := Dp.reads I (.tuple ds) y u he ry
  exact SeqAt.in_tuple_reads r2 r1 (SeqAt.canLay_of_shaped se) (SeqAt.canLay_of_shaped sd) (room_in_shaped sd hu) ⟨.bl _, H, I, rfl, q⟩
theorem op_notInDT (hu : X.A.units + 65 < cLine) : OpR X (compareOp .NotIn) (rInDT X.K fun b => !b) := by
  intro pins s σ H x y v u Q I rx ry h
  obtain ⟨d, ds, hd, he, sd, se, q⟩ := h
  obtain ⟨as, r1⟩ := Dp.reads I d x v hd rx
  obtain ⟨bs, r2⟩ := Dp.reads I (.tuple ds) y u he ry
  exact SeqAt.notIn_tuple_reads r2 r1 (SeqAt.canLay_of_shaped se) (SeqAt.canLay_of_shaped sd) (room_in_shaped sd hu) ⟨.bl _, H, I, rfl, q⟩
theorem so_in : SndO2 K (fun x y H Q => rInDT K (fun b => b) x y H Q ∨ rInD K x y H Q) oIn := by
  intro ω T H x y r1 r2 R Q fr v1 v2 h q
  have h' : dIn (fun b => b) r1.d R r2.d := h
  generalize e2 : r2.d = d2 at h'
  cases d2 <;> first
    | exact h'.elim
    | skip
  · obtain ⟨s1, s2, hR⟩ := h'
    refine .inr ⟨_, _, v1.dp (SeqAt.canLay_of_shaped s1), ?_, s1, s2, q.bl fr hR⟩
    have := v2.dp (by rw [e2]; exact SeqAt.canLay_of_shaped s2)
    rw [e2] at this
    exact this
  · obtain ⟨s1, s2, hR⟩ := h'
    refine .inl ⟨_, _, v1.dp (SeqAt.canLay_of_shaped s1), ?_, s1, s2, q.bl fr hR⟩
    have := v2.dp (by rw [e2]; exact SeqAt.canLay_of_shaped s2)
    rw [e2] at this
    exact this
theorem so_notIn : SndO2 K (fun x y H Q => rInDT K (fun b => !b) x y H Q ∨ rNotInD K x y H Q) oNotIn := by
  intro ω T H x y r1 r2 R Q fr v1 v2 h q
  have h' : dIn (fun b => !b) r1.d R r2.d := h
  generalize e2 : r2.d = d2 at h'
  cases d2 <;> first
    | exact h'.elim
    | skip
  · obtain ⟨s1, s2, hR⟩ := h'
    refine .inr ⟨_, _, v1.dp (SeqAt.canLay_of_shaped s1), ?_, s1, s2, q.bl fr hR⟩
    have := v2.dp (by rw [e2]; exact SeqAt.canLay_of_shaped s2)
    rw [e2] at this
    exact this
  · obtain ⟨s1, s2, hR⟩ := h'
    refine .inl ⟨_, _, v1.dp (SeqAt.canLay_of_shaped s1), ?_, s1, s2, q.bl fr hR⟩
    have := v2.dp (by rw [e2]; exact SeqAt.canLay_of_shaped s2)
    rw [e2] at this
    exact this
theorem RpAll.rep {vs : List V} {ds : List D} (h : RpAll K ω H vs ds) : ∀ n : Nat, RpAll K ω H (List.replicate n vs).flatten (List.replicate n ds).flatten
  | 0 => .nil
  | n + 1 => by
    rw [List.replicate_succ, List.replicate_succ, List.flatten_cons, List.flatten_cons]
    exact h.append (RpAll.rep h n)
theorem tuple_mul1 (l : Addr) (items : Array Value) (n : Nat) (dd : Option Addr) (sl : Array (Option Value)) (u : Tok) :
    Meets (Builtin.«tuple.__mul__» ⟨[.ref l, .int 1 u], []⟩) (fun _ R s => s.heap.get? l = some { cls := .type "tuple", dict := dd, data := .seq items n, slots := sl } ∧
      R (.ok (.ret (Value.ref l))) s) :=
  .of_wp fun prog w A R s h => by
    obtain ⟨hp, g, d, tk, os⟩ := s
    obtain ⟨hl, h⟩ := h
    have f1 := AutoSeq1.idx_int
    have c1 : (items.isEmpty || (1 : Int) == 1) = true := by rw [Bool.or_eq_true]; exact .inr rfl
    wp_walk using wpAny_loadPart' hl
    repeat (first
      | (refine wpAny_ite_true (decide_eq_true (by rw [c1])) ?_; wp_walk using wpAny_loadPart' hl))
    exact ⟨_, rfl, h⟩
/-- a tuple once over is the same tuple -/
def rRep1 (K : Fg) : R2 := fun x y H Q => ∃ l xs, x = .ref l ∧ y = .int 1 ∧ SqT K H l xs ∧ Q (.ref l) H
theorem op_rep1 : OpR X (binaryOp .Mult) (rRep1 X.K) := by
  intro pins s σ H x y v u Q I rx ry h
  obtain ⟨l, xs, rfl, rfl, hT, q⟩ := h
  cases rx
  obtain ⟨t, rfl⟩ := ry
  obtain ⟨its, r, ⟨⟨cls, dd, data, sl⟩, ho, hc, n, hd⟩, hs⟩ := I.tuple hT
  simp only at hc hd
  subst hc hd
  refine wpAny_binaryOp_repeat_ref (T := "tuple") (U := "int") (by decide) ⟨_, ho, rfl⟩ (fun s' => typeIs_int s' 1 t) noFill_tuple_mul F.fills_int_mul F.slot_int_rmul repeat_tuple F.slot_int_index.lookup
    (call_meets F.slot_int_rmul (typeIs_int s 1 t) F.entry_int_rmul (F.args_int_rmul_2 _ _) (int_rmul_tuple 1 t l its.toArray n dd sl)
      ⟨ho, rfl, ⟨_, ho, rfl⟩, call_meets F.slot_tuple_mul ⟨_, ho, rfl⟩ F.entry_tuple_mul (F.args_tuple_mul_2 _ _) (tuple_mul1 l its.toArray n dd sl t) ⟨ho, ?_⟩⟩)
  exact ⟨.ref l, H, I, rfl, q⟩
theorem so_mulA : SndO2 K (fun x y H Q => rI CMul (fun i j => .int (i * j)) x y H Q ∨ (rRep x y H Q ∨ (rRepT K x y H Q ∨ rRep1 K x y H Q))) oMulA := by
  intro ω T H x y r1 r2 R Q fr v1 v2 h q
  have h' : dMulA (flat r1) R r1.d r2.d := h
  generalize e1 : r1.d = d1 at h'
  generalize e2 : r2.d = d2 at h'
  cases d1 <;> cases d2 <;> first
    | exact h'.elim
    | skip
  · exact .inl ⟨_, _, v1.int e1, v2.int e2, h'.1, q.int fr h'.2⟩
  · obtain ⟨⟨f, b1, b2, hl⟩, hR⟩ := h'
    obtain ⟨a, vs, rfl, ha, hp⟩ := v1.lst f e1
    exact .inr (.inl ⟨a, _, vs, rfl, v2.int e2, ha, b1, b2, by rw [hp.length]; exact hl, fun p hp' => q.lst fr hp' (hp.rep _) hR⟩)
  · obtain ⟨⟨hne, b1, b2, hl⟩, hR⟩ := h'
    rename_i ds k
    have w1 := v1.rpT e1
    obtain ⟨a, vs, rfl, ha, hp⟩ := v1.tup e1
    by_cases hk : k = 1
    · subst hk
      refine .inr (.inr (.inr ⟨a, vs, rfl, v2.int e2, ha, q.same fr w1 ?_⟩))
      have : (List.replicate (1 : Int).toNat ds).flatten = ds := by simp
      rw [this] at hR
      exact hR
    · refine .inr (.inr (.inl ⟨a, _, vs, rfl, v2.int e2, ha, fun z => ?_, by omega, b2, by rw [hp.length]; exact hl, fun p hp' => q.tup fr hp' (hp.rep _) hR⟩))
      subst z
      cases hp
      exact hne rfl
def rIsB2 : R2 := fun x y H Q => rIsB x y H Q ∨ (x = .non ∧ ∃ b : Bool, y = .bl b ∧ Q (.bl false) H)
def rNotB2 : R2 := fun x y H Q => rNotB x y H Q ∨ (x = .non ∧ ∃ b : Bool, y = .bl b ∧ Q (.bl true) H)
theorem op_notB2 : OpR X (compareOp .IsNot) rNotB2 := OpR.or op_notBl (by
  intro pins s σ H x y v u Q I rx ry ⟨hx, b, hy, q⟩
  subst hx
  subst hy
  cases (show v = Value.none from rx)
  cases (show u = Value.bool b from ry)
  exact wpAny_isNot_other rfl (fun z => by cases z) ⟨.bl true, H, I, rfl, q⟩)
theorem so_notB : SndO2 K rNotB2 oNotB := by
  intro ω T H x y r1 r2 R Q fr v1 v2 h q
  have h' : dNotB R r1.d r2.d := h
  generalize e1 : r1.d = d1 at h'
  generalize e2 : r2.d = d2 at h'
  cases d1 <;> cases d2 <;> first
    | exact h'.elim
    | exact .inl ⟨_, _, v1.bl e1, v2.bl e2, q.bl fr h'⟩
    | exact .inr ⟨v1.non e1, _, v2.bl e2, q.bl fr h'⟩
variable {a b c : Expr} {fa fb fc : FE} {pos : Pos}
theorem hu65 {A : Around} {k : Nat} (hr : Room k A) : A.units + 65 < cLine := by have := hr.un; omega
theorem se_in {k : Nat} (hr : Room k X.A) (ha : SE X a fa) (hb : SE X b fb) (hm : behindInMarks .In b = false := by with_unfolding_all rfl) : SE X (.Compare a [.In] [b] pos) (fOp2 oIn fa fb) := se_cmp (OpR.or (op_inDT (hu65 hr)) (op_inD (hu65 hr))) so_in ha hb hm
theorem se_notIn {k : Nat} (hr : Room k X.A) (ha : SE X a fa) (hb : SE X b fb) (hm : behindInMarks .NotIn b = false := by with_unfolding_all rfl) : SE X (.Compare a [.NotIn] [b] pos) (fOp2 oNotIn fa fb) := se_cmp (OpR.or (op_notInDT (hu65 hr)) (op_notInD (hu65 hr))) so_notIn ha hb hm
theorem st_in {k : Nat} (hr : Room k X.A) (ha : SE X a fa) (hb : SE X b fb) (hm : behindInMarks .In b = false := by with_unfolding_all rfl) : STs X (.Compare a [.In] [b] pos) (fTst (fOp2 oIn fa fb)) := st_cmp (OpR.or (op_inDT (hu65 hr)) (op_inD (hu65 hr))) so_in ha hb hm
theorem st_notIn {k : Nat} (hr : Room k X.A) (ha : SE X a fa) (hb : SE X b fb) (hm : behindInMarks .NotIn b = false := by with_unfolding_all rfl) : STs X (.Compare a [.NotIn] [b] pos) (fTst (fOp2 oNotIn fa fb)) := st_cmp (OpR.or (op_notInDT (hu65 hr)) (op_notInD (hu65 hr))) so_notIn ha hb hm
theorem se_mulA (ha : SE X a fa) (hb : SE X b fb) : SE X (.BinOp a .Mult b pos) (fOp2 oMulA fa fb) := se_op (OpR.or op_mul (OpR.or op_rep (OpR.or op_repT op_rep1))) so_mulA ha hb
theorem st_notB (ha : SE X a fa) (hb : SE X b fb) : STs X (.Compare a [.IsNot] [b] pos) (fTst (fOp2 oNotB fa fb)) := st_cmp op_notB2 so_notB ha hb
end
end Pv

/-! Pv12: zip, enumerate. -/
namespace Pv
open PySem PySem.Spec PyProof.Rows L2
open AutoSeq1 (wpAny_loadPart')
open RZ (ItzT iZipA pi_zipA)

/-! ### enumerate of a tuple -/
def IteT (K : Fg) (a : Addr) : It :=
  ⟨fun i H => ∃ (xs : List V) (x : V), SqT K H a xs ∧ xs[i]? = some x, fun i H v H' => ∃ T x, v = .ref T ∧ H T = none ∧ H' = upd H T (.tup [.int (i : Nat), x]) ∧ ∀ xs, SqT K H a xs → xs[i]? = some x, fun i H => ∃ xs : List V, SqT K H a xs ∧ xs.length ≤ i⟩
theorem turn_enumT {P : Program} {w : World} {K : Fg} {elts : List Expr} {kk : Nat} {tpos : Pos} (a e it : Addr) (hai : a ≠ it) :
    Turn P w K (.Tuple elts kk tpos) (IteT K a) [e, it] e (fun i h => (∃ old, IsEnum h e it ((i : Nat) : Int) old) ∧ h.IsTupleIter it a i ∧ e ≠ it) where
  mem := by simp
  obj := fun i h st b hb => by
    obtain ⟨⟨old, he⟩, ⟨o, ho, hc, hd⟩, _⟩ := st
    have e' : b = e ∨ b = it := by simpa using hb
    rcases e' with z | z
    · rw [z]; exact ⟨_, he, fun v q => nomatch q⟩
    · rw [z]; exact ⟨o, ho, fun v q => by rw [hd] at q; cases q⟩
  keep := fun i h h' st k => let ⟨⟨old, he⟩, hi, hne⟩ := st; ⟨⟨old, k e (by simp) _ he⟩, hi.at fun o q => k it (by simp) o q, hne⟩
  item := by
    intro X hP hw hK hc i pins s σ H E I hf st hg
    subst hP hw hK
    obtain ⟨⟨old, he⟩, hit, hne⟩ := st
    obtain ⟨xs, x, hq, hx⟩ := hg
    obtain ⟨its, rv, p, hz⟩ := I.tuple hq
    obtain ⟨u, hu, ru⟩ := rv.get hx
    have hel : e < s.heap.objs.size := Heap.lt_size he
    have hil : it < s.heap.objs.size := by obtain ⟨_, q, _⟩ := hit; exact Heap.lt_size q
    have hu' : its.toArray[i]? = some u := by simpa using hu
    have hlt : i < its.toArray.size := (Array.getElem?_eq_some_iff.mp hu').1
    have D := Draws.tuple (prog := X.prog) (w := X.w) (A := X.A.in1) (I.ok.hd hc) it a hai its.toArray
    have hea : e ∉ [it, a] := fun hm => by
      rcases List.mem_cons.mp hm with z | hm
      · exact hne z
      · rw [List.mem_singleton.mp hm] at he
        obtain ⟨o, ho, hoc, _⟩ := (show s.heap.IsTuple a its.toArray from p)
        rw [he] at ho
        have this := Option.some.inj ho
        rw [← this] at hoc
        exact absurd (Value.type.inj hoc) (by decide)
    refine PySem.wpAny_pyNext_enum_itemD D he ⟨hit, (show s.heap.IsTuple a its.toArray from p)⟩ hlt hne hea fun x' h' tk hP ho hst hT hsz hk => ?_
    have ex : x' = u := by
      have hP' : its.toArray[i]? = some x' := hP
      rw [hu'] at hP'
      exact (Option.some.inj hP').symm
    subst ex
    obtain ⟨hit', _⟩ := hst
    refine ⟨_, rfl, wpAny_letOwnedTupleGo_enum (s := { s with heap := h', toks := tk + 1 }) ho fun h'' he' sb => ?_⟩
    have hT2 : h''.get? s.heap.objs.size = some { cls := .type "tuple", data := .seq #[.int i tk, x'] } := (sb.2 _ (Nat.ne_of_gt hel)).trans hT
    have new : ObjOk X.prog X.w (upd H s.heap.objs.size (.tup [.int (i : Nat), x])) h'' s.heap.objs.size (.tup [.int (i : Nat), x]) :=
      ⟨by show 2 ≤ sizeLine; decide, [.int i tk, x'], .cons ⟨_, rfl⟩ (.cons ru .nil), ⟨_, hT2, rfl, _, rfl⟩⟩
    have I1 : Inv X pins σ (upd H s.heap.objs.size (.tup [.int (i : Nat), x])) { s with heap := h'', toks := tk + 1 } :=
      I.turnedNew (ch := [e, it]) (fun b ob hb q => (sb.2 b (fun z => hb (by simp [z]))).trans (hk b ob (fun z => hb (by simp [z])) (fun z => hb (by simp [z])) q)) hf (Nat.le_refl _) new
    refine ⟨.ref s.heap.objs.size, _, I1, rfl, ⟨_, x, rfl, I.hok.fresh (Nat.le_refl _), rfl, fun ys hy => by rw [I.tuple_inj hy hq]; exact hx⟩, ⟨⟨x', ?_⟩, hit'.at fun o q => (sb.2 it (Ne.symm hne)).trans q, hne⟩, fun b hb => ?_⟩
    · have e1 : ((i + 1 : Nat) : Int) = (i : Int) + 1 := by omega
      rw [e1]; exact he'
    · have hb' : b < s.heap.objs.size := by
        have e' : b = e ∨ b = it := by simpa using hb
        rcases e' with z | z
        · rw [z]; exact hel
        · rw [z]; exact hil
      rw [upd_ne (Nat.ne_of_lt hb')]
      exact (hf b hb).1
  done := by
    intro X hP hw hK hc i pins s σ H E I hf st hg
    subst hP hw hK
    obtain ⟨⟨old, he⟩, hit, hne⟩ := st
    obtain ⟨xs, hq, hx⟩ := hg
    obtain ⟨its, rv, p, hz⟩ := I.tuple hq
    obtain ⟨f0, f1, f2, f3, f4, f5⟩ := hf it (by simp)
    have hl := rv.length
    have hh : X.A.in1.handled = none := I.ok.hd hc
    -- the end, by hand: the iterator at or past the end
    have hT : s.TypeIs (.ref e) "enumerate" := ⟨_, he, rfl⟩
    unfold pyNext
    refine wpAny_bind (wpAny_attempt (wpAny_callSpecial?_slot (name := Str.ofString "__next__") hT F.slot_enumerate_next
      (wpAny_call_entry F.slot_enumerate_next hT F.entry_enumerate_next ?_ (F.args_enumerate_next_1 _))))
    show wpAny _ _ (field (.ref e) 2 >>= _) _ _ _
    refine wpAny_bind (wpAny_field he rfl (x := .ref it) rfl ?_)
    refine wpAny_bind (PySem.wpAny_nextOf_tuple_end hh hit (show s.heap.IsTuple a its.toArray from p) (by simp; omega) fun h' x he' hx' => ?_)
    obtain ⟨o, ho, hcl⟩ := hx'
    refine wpAny_bind (wpAny_isInstance (T := "StopIteration") (b := true) ⟨o, ho, hcl⟩ isSubtype_stop ?_)
    exact wpAny_pure ⟨rfl, I.turned (t' := s.toks) (fun b o hb q => he' b o hb q) f0 f1 f3 f4 f5⟩
  self := fun A i s Q E st h => let ⟨⟨_, he⟩, _⟩ := st; wpAny_pyIter_enum he h

theorem meets_enumT {v : Value} {o : Obj} {Hh : Heap → Prop} (B : Begins v o Hh) :
    Meets (Builtin.«enumerate.__new__» ⟨[.type "enumerate", v], []⟩) (fun _ R s => Hh s.heap ∧
      R (.ok (.ret (.ref (s.heap.push o).objs.size))) { s with heap := (s.heap.push o).push { cls := .type "enumerate", data := .fields #[.none, .bool false, .ref s.heap.objs.size, rawInt 0, .none, .none] } }) :=
  .of_wp fun prog w A R s h => by
    obtain ⟨hp, g, d, tk, os⟩ := s; obtain ⟨h1, h⟩ := h
    have hsub := sub_enumerate
    have q1 : ∀ {A' : Around} {E : Value → Shared → Prop} {Q : Value → Shared → Prop}, Q (.ref hp.objs.size) ⟨hp.push o, g, d, tk, os⟩ → wpAny (model prog w) A' (pyIter v) Q E ⟨hp, g, d, tk, os⟩ :=
      fun q => B.iter prog w _ _ ⟨hp, g, d, tk, os⟩ _ h1 q
    wp_walk using q1
    refine wpAny_stack_any fun st => wpAny_pure ?_
    split
    · rename_i c _ _ _ _ _
      cases (c == Value.type "enumerate")
      · wp_walk using q1
        exact ⟨_, rfl, h⟩
      · wp_walk using q1
        exact ⟨_, rfl, h⟩
    · wp_walk using q1
      exact ⟨_, rfl, h⟩
theorem call_enumT {prog : Program} {w : World} {A : Around} {E : Value → Shared → Prop} {s : Shared} {a : Addr} {items : Array Value} {Q : Value → Shared → Prop} (ht : s.heap.IsTuple a items)
    (h : ∀ h', IsEnum h' (s.heap.objs.size + 1) s.heap.objs.size 0 .none → h'.IsTupleIter s.heap.objs.size a 0 → h'.objs.size = s.heap.objs.size + 2 →
      (∀ b o, s.heap.get? b = some o → h'.get? b = some o) → Q (.ref (s.heap.objs.size + 1)) { s with heap := h' }) : wpAny (model prog w) A (call (.type "enumerate") [.ref a]) Q E s := by
  refine callType_new F.called_enumerate (by decide) (F.typeCall_enumerate_1 _) (F.newCall_enumerate_1 _) (fun obj => F.args_object_init_2 obj _) F.entry_enumerate_new
    (meets_enumT (begins_tuple a items)) ⟨ht, ?_⟩
  have hz : (s.heap.push { cls := .type "tuple_iterator", data := .fields #[.ref a, .int 0 0] }).objs.size = s.heap.objs.size + 1 := Heap.size_push ..
  show _ ∧ _
  rw [hz]
  have he : IsEnum ((s.heap.push { cls := .type "tuple_iterator", data := .fields #[.ref a, .int 0 0] }).push
      { cls := .type "enumerate", data := .fields #[.none, .bool false, .ref s.heap.objs.size, rawInt 0, .none, .none] }) (s.heap.objs.size + 1) s.heap.objs.size 0 .none := by
    have := Heap.get?_push_size (s.heap.push { cls := .type "tuple_iterator", data := .fields #[.ref a, .int 0 0] })
      (o := { cls := .type "enumerate", data := .fields #[.none, .bool false, .ref s.heap.objs.size, rawInt 0, .none, .none] }) rfl
    rw [hz] at this; exact this
  refine ⟨⟨_, he, rfl⟩, h _ he ⟨_, Heap.get?_push_of_some _ (Heap.get?_push_size _ rfl), rfl, rfl⟩ (by rw [Heap.size_push, hz]) fun b o x => Heap.get?_push_of_some _ (Heap.get?_push_of_some _ x)⟩
def iEnumA (K : Fg) (ta : TA) : TI := fun σ H R => ta σ H fun vs H1 => ∃ a xs, vs = [.ref a] ∧ ((SqL K H1 a xs ∧ R (Ite K a) H1) ∨ (SqT K H1 a xs ∧ R (IteT K a) H1))
theorem pi_enumA {X : Cx} {e : Expr} {ta : TA} {p pos tpos : Pos} {elts : List Expr} {kk : Nat} (hg : Gl X "enumerate") (hm : X.mg "enumerate" = none) (ha : PA X [e] ta) (hs : starEach [e] X.env = [(false, eval e X.env)] := by rfl) :
    PI X (.Tuple elts kk tpos) (.Call (.Name "enumerate" p) [e] [] pos) (iEnumA X.K ta) := by
  refine ⟨fun pins s σ H R I h => ?_⟩
  refine Call_ (ld_blt I hg hm boot_enumerate (PyProof.Rows.callWith_type1 (thn (ha.run pos pins s σ H _ I h) fun us s1 ⟨vs, H1, I1, r1, q1⟩ => ?_) hs rfl))
  obtain ⟨a, xs, ex, q1⟩ := q1
  subst ex
  cases r1 with
  | cons r rr =>
    cases rr
    cases r
    have fresh2 : ∀ b ∈ [s1.heap.objs.size + 1, s1.heap.objs.size], FpOk X pins H1 b := fun b hb => by
      have e' : b = s1.heap.objs.size + 1 ∨ b = s1.heap.objs.size := by simpa using hb
      have hle : s1.heap.objs.size ≤ b := by
        rcases e' with z | z
        · rw [z]; exact Nat.le_add_right _ _
        · rw [z]; exact Nat.le_refl _
      exact I1.fpOk hle (I1.hok.fresh hle)
    rcases q1 with ⟨hq, q⟩ | ⟨hq, q⟩
    · obtain ⟨its, rv, p', hz⟩ := I1.list hq
      refine call_enumerate_list p'.isList fun h' he hit hsz hk => wpAny_pyIter_enum he ?_
      have I2 : Inv X pins σ H1 { s1 with heap := h' } := I1.kept (t' := s1.toks) hk
      exact ⟨s1.heap.objs.size + 1, [s1.heap.objs.size + 1, s1.heap.objs.size], _, _, H1, rfl, I2, turn_enum a (s1.heap.objs.size + 1) s1.heap.objs.size, ⟨⟨.none, he⟩, hit, Nat.succ_ne_self _⟩, fresh2, q⟩
    · obtain ⟨its, rv, p', hz⟩ := I1.tuple hq
      have hlt : a < s1.heap.objs.size := by obtain ⟨o, ho, _⟩ := (show s1.heap.IsTuple a its.toArray from p'); exact Heap.lt_size ho
      refine call_enumT (show s1.heap.IsTuple a its.toArray from p') fun h' he hit hsz hk => wpAny_pyIter_enum he ?_
      have I2 : Inv X pins σ H1 { s1 with heap := h' } := I1.kept (t' := s1.toks) hk
      exact ⟨s1.heap.objs.size + 1, [s1.heap.objs.size + 1, s1.heap.objs.size], _, _, H1, rfl, I2, turn_enumT a (s1.heap.objs.size + 1) s1.heap.objs.size (Nat.ne_of_lt hlt), ⟨⟨.none, he⟩, hit, Nat.succ_ne_self _⟩, fresh2, q⟩

/-! ### over data -/
def enumD : Nat → List D → List D
  | _, [] => []
  | n, d :: ds => .tuple [.int n, d] :: enumD (n + 1) ds
def zipD : List D → List D → List D
  | d :: ds, e :: es => .tuple [d, e] :: zipD ds es
  | _, _ => []
theorem enumD_len : ∀ (ds : List D) (n : Nat), (enumD n ds).length = ds.length
  | [], _ => rfl
  | d :: ds, n => by show (enumD (n + 1) ds).length + 1 = _; rw [enumD_len ds]; rfl
theorem enumD_get : ∀ {ds : List D} {n i : Nat} {c : D}, (enumD n ds)[i]? = some c → ∃ d, ds[i]? = some d ∧ c = .tuple [.int ((n + i : Nat) : Int), d]
  | [], _, _, _, h => by simp [enumD] at h
  | d :: ds, n, 0, c, h => by
    have h' := Option.some.inj h
    subst h'
    exact ⟨d, rfl, rfl⟩
  | d :: ds, n, i + 1, c, h => by
    have h' : (enumD (n + 1) ds)[i]? = some c := by simpa [enumD] using h
    obtain ⟨e, h1, h2⟩ := enumD_get h'
    exact ⟨e, by simpa using h1, by rw [h2, show n + 1 + i = n + (i + 1) by omega]⟩
def overEnum (P : List D → Prop) : D → Prop
  | .list ds => P (enumD 0 ds)
  | .tuple ds => P (enumD 0 ds)
  | _ => False
def fEnum (fa : FA) : FI := fun env R => fa env fun rs e => noB rs ∧ match rs with
  | [r] => ovr (overEnum fun ds => R (.v 0 .none) ds e) r.d
  | _ => False
def overZip (P : List D → Prop) : D → D → Prop
  | .list ds, .list es => P (zipD ds es)
  | .tuple ds, .tuple es => P (zipD ds es)
  | _, _ => False
def fZip (fa : FA) : FI := fun env R => fa env fun rs e => noB rs ∧ match rs with
  | [r, r'] => ovr2 (overZip fun ds => R (.v 0 .none) ds e) r.d r'.d
  | _ => False
section
variable {X : Cx} {K : Fg} {σ : Sg} {ω : Om} {H : Hp}
theorem new_pair {H1 : Hp} {ω1 : Om} {T : Addr} {x y : V} {d e : D} (hT : H1 T = none) (hx : Rp K ω1 H1 x d) (hy : Rp K ω1 H1 y e) : ∃ ω2, Grow ω1 H1 ω2 (upd H1 T (.tup [x, y])) ∧ (∀ T0, Free ω1 T0 → Free ω2 T0) ∧ Rp K ω2 (upd H1 T (.tup [x, y])) (.ref T) (.tuple [d, e]) := by
  have gr : Grow ω1 H1 (putO T .shr ω1) (upd H1 T (.tup [x, y])) := put_grow hT
  refine ⟨putO T .shr ω1, gr, fun T0 f a t p e => ?_, .tup (.inl ⟨upd_same, putO_same⟩) (.cons (Rp.sh gr.step.sh _ _ hx) (.cons (Rp.sh gr.step.sh _ _ hy) .nil))⟩
  by_cases h : a = T
  · subst h; rw [putO_same] at e; cases e
  · rw [putO_ne h] at e; exact f a t p e
theorem iters_enumL {a : Addr} {vs : List V} {ds : List D} (h : H a = some (.lst vs)) (ho : ω a = .shr) (hp : RpAll K ω H vs ds) : Iters K σ ω H (Ite K a) (.v 0 .none) (enumD 0 ds) := by
  intro ω1 H1 env1 σ1 rel g _ _ i
  obtain ⟨h1, _⟩ := g a _ h ho
  have hs : SqL K H1 a vs := .inl (.inl h1)
  have hp1 := RpAll.sh g _ _ hp
  refine ⟨fun c hc => ?_, fun hl => ⟨vs, hs, by rw [enumD_len] at hl; rw [hp.length]; exact hl⟩⟩
  obtain ⟨d, hd, rfl⟩ := enumD_get hc
  obtain ⟨v, hv, rv⟩ := hp1.at_ hd
  refine ⟨⟨vs, v, hs, hv⟩, fun x H2 y => ?_⟩
  obtain ⟨T, w, y1, y2, y3, y4⟩ := y
  subst y1 y3
  have e := y4 vs hs
  rw [hv] at e
  cases e
  rw [Nat.zero_add]
  exact new_pair y2 (.int _) rv
theorem iters_enumT {a : Addr} {vs : List V} {ds : List D} (h : SU K ω H a vs) (hp : RpAll K ω H vs ds) : Iters K σ ω H (IteT K a) (.v 0 .none) (enumD 0 ds) := by
  intro ω1 H1 env1 σ1 rel g _ _ i
  have hs : SqT K H1 a vs := (h.sh g).seq
  have hp1 := RpAll.sh g _ _ hp
  refine ⟨fun c hc => ?_, fun hl => ⟨vs, hs, by rw [enumD_len] at hl; rw [hp.length]; exact hl⟩⟩
  obtain ⟨d, hd, rfl⟩ := enumD_get hc
  obtain ⟨v, hv, rv⟩ := hp1.at_ hd
  refine ⟨⟨vs, v, hs, hv⟩, fun x H2 y => ?_⟩
  obtain ⟨T, w, y1, y2, y3, y4⟩ := y
  subst y1 y3
  have e := y4 vs hs
  rw [hv] at e
  cases e
  rw [Nat.zero_add]
  exact new_pair y2 (.int _) rv
theorem si_enum {elts : List Expr} {kk : Nat} {tpos : Pos} {a : Expr} {fa : FA} {p pos : Pos} (hm : X.mg "enumerate" = none) (ha : SA X [a] fa) (hg : Gl X "enumerate" := by rfl) (hs : starEach [a] X.env = [(false, eval a X.env)] := by rfl) : SI X (.Tuple elts kk tpos) (.Call (.Name "enumerate" p) [a] [] pos) (fEnum fa) := by
  obtain ⟨t, p, s⟩ := ha.ex
  refine ⟨_, pi_enumA hg hm p hs, fun ω T env σ H R Q rel fr hR q => ?_⟩
  refine s ω T env σ H _ _ rel fr hR fun vs H1 ω1 e1 rs rel1 st1 fr1 rr1 h1 => ?_
  obtain ⟨nb, h1⟩ := h1
  match rs, nb, h1, rr1 with
  | [.v k d], nb, h1, rr1 =>
    obtain ⟨v, rfl, hv⟩ := (rr1.gc (T0 := T) rel1 (Nat.le_refl _)).one
    have rp : Rp X.K (gc T ω1) H1 v d := hv
    have h2 : overEnum (fun ds => R (.v 0 .none) ds e1) d := ovr_cl h1
    cases d <;> first
      | exact h2.elim
      | skip
    · cases rp with
      | lst hs hp => exact ⟨_, _, rfl, .inl ⟨hs.seq, q _ H1 (gc T ω1) e1 _ _ (rel1.gc T) (st1.gc fr) gc_free (iters_enumL hs.1 hs.2 hp) trivial h2⟩⟩
    · cases rp with
      | tup hs hp => exact ⟨_, _, rfl, .inr ⟨hs.seq, q _ H1 (gc T ω1) e1 _ _ (rel1.gc T) (st1.gc fr) gc_free (iters_enumT hs hp) trivial h2⟩⟩
end
end Pv

/-! Pv13: constants of a module, tuple(range(..)), list(range(..)). -/
namespace Pv
open PySem PySem.Spec PyProof.Rows L2

section
variable {X : Cx}
theorem se_gstr {x z : Str} {pos : Pos} (h : ∃ t, X.mg x = some (.str z t)) (hg : Gl X x := by rfl) (hd : (x == ("__debug__" : Str)) = false := by decide) : SE X (.Name x pos) (fC (.str z)) := by
  obtain ⟨t, h⟩ := h
  exact se_glob h ⟨.str z, ⟨t, rfl⟩, fun _ _ => .str z⟩ hg hd
end
/-! ### tuple(range(..)), list(range(..)) -/
def fRngT1 (fa : FE) : FE := fun env R => fa env fun r e => atInt (fun n => RgOk 0 n ∧ R (.v 0 (.tuple (rngD 0 n))) e) r.d
def fRngL1 (fa : FE) : FE := fun env R => fa env fun r e => atInt (fun n => RgOk 0 n ∧ R (.v 1 (.list (rngD 0 n))) e) r.d
def fRngT2 (fa fb : FE) : FE := fun env R => fa env fun r e => atInt (fun m => fb e fun r' e' => atInt (fun n => RgOk m n ∧ R (.v 0 (.tuple (rngD m n))) e') r'.d) r.d
def fRngL2 (fa fb : FE) : FE := fun env R => fa env fun r e => atInt (fun m => fb e fun r' e' => atInt (fun n => RgOk m n ∧ R (.v 1 (.list (rngD m n))) e') r'.d) r.d
section
variable {X : Cx} {K : Fg} {ω : Om} {H : Hp} {a b : Expr} {fa fb : FE} {p p2 pos pos2 : Pos}
theorem rp_rng (lo hi : Int) : RpAll K ω H (rgV lo hi) (rngD lo hi) := by
  have := RpAll.ints (K := K) (ω := ω) (H := H) ((List.range (hi - lo).toNat).map fun i : Nat => lo + (i : Int))
  rw [List.map_map, List.map_map] at this
  exact this
theorem se_rngL1 (hm : X.mg "list" = none) (hm2 : X.mg "range" = none) (ha : SE X a fa) (hg : Gl X "list" := by rfl) (hg2 : Gl X "range" := by rfl) (na : starEach [a] X.env = (false, eval a X.env) :: starEach [] X.env := by rfl)
    (ne : starEach [.Call (.Name "range" p2) [a] [] pos2] X.env = (false, eval (.Call (.Name "range" p2) [a] [] pos2) X.env) :: starEach [] X.env := by rfl) (hc : X.calm = true := by rfl) : SE X (.Call (.Name "list" p) [.Call (.Name "range" p2) [a] [] pos2] [] pos) (fRngL1 fa) := by
  obtain ⟨t, q, s⟩ := ha.ex
  refine ⟨_, pe_listRg hc hg hm (prg_1 hg2 hm2 q na) ne, fun ω T env σ H R Q rel fre hR qq => ?_⟩
  refine s ω T env σ H _ _ rel fre hR fun v H1 ω1 e1 r rel1 st1 fr1 rr1 h1 => ?_
  obtain ⟨n, en, ok, hn⟩ := atInt_ex h1
  exact ⟨n, rr1.int_ rel1 en, ok, fun q hq => (out_of (R := R) (rel1.gc T) (st1.gc fre) qq).lst gc_free hq (rp_rng 0 n) hn⟩
end
end Pv

/-! Pv14: list(range(i, j, -1)), index, more methods of an own list, chains. -/
namespace Pv
open PySem PySem.Spec PyProof.Rows L2
/-! ### list(range(i, j, -1)) -/
def rgDn (a b : Int) : List V := (List.range (a - b).toNat).map fun i => V.int (a - (i : Nat))
def rngDn (a b : Int) : List D := (List.range (a - b).toNat).map fun i => PyData.int (a - (i : Nat))
def RgDn (a b : Int) : Prop := -(2 ^ 62) ≤ a ∧ a < 2 ^ 62 ∧ -(2 ^ 62) ≤ b ∧ b < 2 ^ 62 ∧ (a - b).toNat ≤ 2 ^ 24
def tLR3 (ta : TA) : TE := fun σ H Q => ta σ H fun vs H1 => ∃ i j : Int, vs = [.int i, .int j, .int (-1)] ∧ RgDn i j ∧ ∀ q, H1 q = none → Q (.ref q) (upd H1 q (.lst (rgDn i j)))
section
variable {X : Cx}
end
section
variable {K : Fg} {ω : Om} {H : Hp}
end
def dI3 (R : Int → Int → Prop) : List Res → Prop
  | [r, r', r''] => atInt (fun i => atInt (fun j => atInt (fun c => c = -1 ∧ R i j) r''.d) r'.d) r.d
  | _ => False
def fRngL3 (fa : FA) : FE := fun env R => fa env fun rs e => dI3 (fun i j => RgDn i j ∧ R (.v 1 (.list (rngDn i j))) e) rs
section
variable {X : Cx}
end
/-! ### xs.index(y) of a list of flat things -/
def firstAt (d : D) : List D → Option Nat
  | [] => none
  | e :: es => if PyData.eqv e d then some 0 else (firstAt d es).map (· + 1)
def isL : D → Prop
  | .list _ => True
  | _ => False
def dIndex (f : Prop) (d : D) (R : KC) : D → Prop
  | .list ds => (f ∧ flatD d = true ∧ ds.all flatD = true) ∧ ∃ j, firstAt d ds = some j ∧ R 0 (.int (j : Nat))
  | _ => False
def oIndex : O2 := fun r1 r2 R => dIndex (flat r1) r2.d R r1.d
def fIdx (fa fb : FE) : FE := fun env R => fa env fun r1 e1 => (isL r1.d ∧ flat r1) ∧ fb e1 fun r2 e2 => okb e2 r1 ∧ ap2 oIndex r1 r2 fun k d => R (.v k d) e2
section
variable {K : Fg}
end
section
variable {X : Cx} {o e : Expr} {fa fb : FE} {apos cpos : Pos}
end
/-! ### methods of an own list without arguments -/
def fMth0 (i : Nat) (m : MT) : FE := fun env R => onOwn (getC env i) fun ds => m ds [] fun res ds' => R (.v 0 res) (env.set i (some (ow (.list ds'))))
def mReverse : MT := fun ds es R => match es with
  | [] => R .none ds.reverse
  | _ => False
def mClear : MT := fun ds es R => match es with
  | [] => R .none []
  | _ => False
def mPop : MT := fun ds es R => match es with
  | [] => ∃ y, ds.getLast? = some y ∧ R y ds.dropLast
  | _ => False
section
variable {K : Fg}
theorem RpAll.dropLast {ω : Om} {H : Hp} {vs : List V} {ds : List D} (h : RpAll K ω H vs ds) : RpAll K ω H vs.dropLast ds.dropLast := by
  rw [List.dropLast_eq_take, List.dropLast_eq_take, h.length]
  exact h.take _
end
section
variable {X : Cx} {x : Str} {p apos cpos : Pos}
theorem se_mth1 {nm : Str} {id : String} {r : V → List V → Hp → VK → Prop} {m : MT} {e : Expr} {es : List Expr} {fa : FA} (i : Nat) (slot : Slot "list" nm id) (hty : typeOf (.builtin id) = pure (.type "method_descriptor")) (hm : MtR X id r) (sm : SndM X.K r m) (ha : SA X (e :: es) fa)
    (hN : X.N[i]? = some x := by rfl) (hv : Vis X.env.scope x := by first | exact Or.inl rfl | exact Or.inr (Or.inl rfl) | exact Or.inr (Or.inr rfl)) (hbase : attributeBase (.Name x p) nm X.env (eval (.Name x p) X.env) = eval (.Name x p) X.env := by rfl)
    (hfew : ((backTo cpos (starEach (e :: es) X.env)).all (fun x => !x.1) && (backToKw cpos (keywordEach [] X.env)).all (fun x => x.1.isSome) && decide ((e :: es).length + ([] : List Keyword).length + (if ([] : List Keyword).isEmpty then 0 else 1) < 30)) = true := by rfl)
    (hline : (apos.endLine == cpos.line) = true := by rfl) (hs : starEach (e :: es) X.env = (false, eval e X.env) :: starEach es X.env := by rfl) (hpl : (backTo cpos (starEach es X.env)).any (·.1) = false := by rfl) (hd : (x == ("__debug__" : Str)) = false := by decide) (hcd : (x == ("__classdict__" : Str)) = false := by decide) :
    SE X (.Call (.Attribute (.Name x p) nm apos) (e :: es) [] cpos) (fMth i m fa) := by
  obtain ⟨t, q, s⟩ := ha.ex
  exact ⟨_, pe_bm PySem.F.plainAttrs_list slot hty hm (pe_var hN hv hd hcd) q hbase hfew hline hs hpl, snd_mth sm s⟩
end
end Pv

/-! Pv15: a test that borrows a slot's own list. -/
namespace Pv
open PySem PySem.Spec PyProof.Rows L2
/-- behind a test that borrows slot i: it and the boxes as they were, of the other slots what is shared -/
def lendG (i : Nat) (bx : List Nat) : Nat → Env → Env
  | _, [] => []
  | n, c :: e => (bif (n == i || bx.contains n) then c else keepC c) :: lendG i bx (n + 1) e
def fLend (i : Nat) (bx : List Nat) (fc : FT) : FT := fun env R => match getC env i with
  | some c => fc (env.set i (some (sh c.d))) fun b e' => (∀ j ∈ bx, e'[j]? = env[j]? ∧ ∃ ns : List Int, env[j]? = some (some ⟨1, .list (ns.map .int)⟩)) ∧ R b (lendG i bx 0 env)
  | none => False
theorem lendG_len (i : Nat) (bx : List Nat) : ∀ (n : Nat) (e : Env), (lendG i bx n e).length = e.length
  | _, [] => rfl
  | n, c :: e => congrArg (· + 1) (lendG_len i bx (n + 1) e)
theorem lendG_get {i : Nat} {bx : List Nat} {c' : Cell} : ∀ (n : Nat) (e : Env) (j : Nat), (lendG i bx n e)[j]? = some (some c') → e[j]? = some (some c') ∧ (n + j = i ∨ n + j ∈ bx ∨ c'.k = 0)
  | _, [], j, h => by cases j <;> cases h
  | n, c :: e, 0, h => by
    have h : (bif (n == i || bx.contains n) then c else keepC c) = some c' := Option.some.inj h
    by_cases hz : (n == i || bx.contains n) = true
    · rw [hz] at h
      have h : c = some c' := h
      subst h
      refine ⟨rfl, ?_⟩
      rcases (Bool.or_eq_true _ _).mp hz with z | z
      · exact .inl (by simpa using z)
      · exact .inr (.inl (by simpa using z))
    · have hz2 : (n == i || bx.contains n) = false := by cases hq : (n == i || bx.contains n) with
        | true => exact absurd hq hz
        | false => rfl
      rw [hz2] at h
      have h : keepC c = some c' := h
      match c, h with
      | some ⟨0, d⟩, h => cases h; exact ⟨rfl, .inr (.inr rfl)⟩
      | some ⟨k + 1, d⟩, h => cases h
      | none, h => cases h
  | n, c :: e, j + 1, h => by
    obtain ⟨h1, h2⟩ := lendG_get (n + 1) e j h
    exact ⟨h1, by rw [show n + (j + 1) = n + 1 + j by omega]; exact h2⟩
section
variable {K : Fg}
theorem snd_lend {t : TT} {fc : FT} (i : Nat) (bx : List Nat) (hc : SndT K t fc) : SndT K t (fLend i bx fc) := by
  intro ω T env σ H R Q rel fr h0 q
  obtain ⟨c, hcell, hR⟩ : ∃ c : Cell, env[i]? = some (some c) ∧ fc (env.set i (some (sh c.d))) (fun b e' => (∀ j ∈ bx, e'[j]? = env[j]? ∧ ∃ ns : List Int, env[j]? = some (some ⟨1, .list (ns.map .int)⟩)) ∧ R b (lendG i bx 0 env)) := by
    unfold fLend at h0
    cases hc : getC env i with
    | none => rw [hc] at h0; exact h0.elim
    | some c => rw [hc] at h0; exact ⟨c, getC_some hc, h0⟩
  obtain ⟨v, hv, ho⟩ := rel.cell i c hcell
  have gsh : Sh ω H (ren (fzO i) ω) H := fun a o h e => ⟨h, by show fzO i (ω a) = _; rw [e]; rfl⟩
  have own1 : ∀ a p, ω a = .own i p → ren (fzO i) ω a = .shr := fun a p z => by
    show fzO i (ω a) = _
    rw [z]
    show (if i = i then Ow.shr else _) = _
    rw [if_pos rfl]
  have own2 : ∀ a j p, j ≠ i → ω a = .own j p → ren (fzO i) ω a = .own j p := fun a j p hj z => by
    show fzO i (ω a) = _
    rw [z]
    show (if j = i then Ow.shr else _) = _
    rw [if_neg hj]
  have rp : Rp K (ren (fzO i) ω) H v c.d := OwR.fz gsh (fun a u p z1 z2 => ⟨z1, own1 a p z2⟩) _ _ _ _ ho
  have rel1 : Rel K (ren (fzO i) ω) (env.set i (some (sh c.d))) σ H := by
    refine ⟨rel.tab.ren rfl, by rw [List.length_set]; exact rel.len, fun j c' e => ?_⟩
    by_cases hj : i = j
    · subst hj
      have hlt : i < env.length := (List.getElem?_eq_some_iff.mp hcell).1
      rw [List.getElem?_set_self hlt] at e
      cases e
      exact ⟨v, hv, rp⟩
    · rw [List.getElem?_set_ne hj] at e
      obtain ⟨v', hv', ho'⟩ := rel.cell j c' e
      exact ⟨v', hv', OwR.go gsh (fun a u p z1 z2 => ⟨z1, own2 a j p (fun z => hj z.symm) z2⟩) _ _ _ _ ho'⟩
  have fr1 : Free (ren (fzO i) ω) T := fun a t p e => by
    have e' : fzO i (ω a) = .tmp t p := e
    cases y : ω a with
    | own j p' =>
      rw [y] at e'
      have e2 : (if j = i then Ow.shr else .own j p') = .tmp t p := e'
      by_cases hj : j = i
      · rw [if_pos hj] at e2; cases e2
      · rw [if_neg hj] at e2; cases e2
    | tmp t' p' => rw [y] at e'; cases e'; exact fr a _ _ y
    | _ => rw [y] at e'; cases e'
  refine hc (ren (fzO i) ω) T _ σ H _ _ rel1 fr1 hR fun b H' ω' env' rel' st' fr' h' => ?_
  obtain ⟨lo, hRb⟩ := h'
  -- the owners at the end
  let ω2 : Om := fun a => match H a, ω a with
    | some _, .own j p => if j = i then .own i p else ω' a
    | _, _ => ω' a
  have keep : ∀ a o, H a = some o → ω a ≠ .tab → (∀ j p, j ≠ i → ω a ≠ .own j p) → H' a = some o ∧ ω2 a = ω a := fun a o h nt hn => by
    have hs := st' a o h (fzO_ne nt)
    cases y : ω a with
    | own j p =>
      by_cases hj : j = i
      · subst hj
        have e1 := own1 a p y
        rcases hs with ⟨j', p', z⟩ | ⟨z1, z2⟩
        · rw [e1] at z; cases z
        · refine ⟨z1, ?_⟩
          show (match H a, ω a with | some _, .own j' p => if j' = j then Ow.own j p else ω' a | _, _ => ω' a) = _
          rw [h, y]
          show (if j = j then Ow.own j p else _) = _
          rw [if_pos rfl]
      · exact absurd y (hn j p hj)
    | _ =>
      have e1 : ren (fzO i) ω a = ω a := by show fzO i (ω a) = ω a; rw [y]; rfl
      rcases hs with ⟨j', p', z⟩ | ⟨z1, z2⟩
      · rw [e1, y] at z; cases z
      · refine ⟨z1, ?_⟩
        show (match H a, ω a with | some _, .own j' p => if j' = i then Ow.own i p else ω' a | _, _ => ω' a) = _
        rw [h]
        simp only [y]
        rw [z2, e1, y]
  have gsh2 : Sh ω H ω2 H' := fun a o h e => by
    obtain ⟨k1, k2⟩ := keep a o h (by rw [e]; nofun) fun j p _ z => by rw [e] at z; cases z
    exact ⟨k1, k2.trans e⟩
  have same : ∀ a, (∀ p, ω a ≠ .own i p) ∨ H a = none → ω2 a = ω' a := fun a hn => by
    show (match H a, ω a with | some _, .own j' p => if j' = i then Ow.own i p else ω' a | _, _ => ω' a) = _
    cases y1 : H a with
    | none => rfl
    | some o =>
      cases y : ω a with
      | own j p =>
        have hj : j ≠ i := fun z => by
          subst z
          rcases hn with hn | hn
          · exact hn p y
          · rw [y1] at hn; cases hn
        show (if j = i then Ow.own i p else ω' a) = _
        rw [if_neg hj]
      | _ => rfl
  have tab2 : ∀ a o, H' a = some o → ω' a = .tab → H' a = some o ∧ ω2 a = .tab := fun a o h e => by
    refine ⟨h, ?_⟩
    by_cases hn : (∀ p, ω a ≠ .own i p) ∨ H a = none
    · exact (same a hn).trans e
    · obtain ⟨h1, h2⟩ := not_or.mp hn
      obtain ⟨p', hp'⟩ := Classical.not_forall.mp h1
      have hp2 : ω a = .own i p' := Classical.byContradiction fun z => hp' z
      obtain ⟨o', ho'⟩ := Option.ne_none_iff_exists'.mp h2
      have e1 := own1 a p' hp2
      rcases st' a o' ho' (by rw [e1]; nofun) with ⟨j', p2, z⟩ | ⟨z1, z2⟩
      · rw [e1] at z; cases z
      · rw [z2, e1] at e; cases e
  refine q b H' ω2 _ ⟨rel'.tab.go tab2, by rw [lendG_len]; exact rel.len, fun j c' e => ?_⟩ (fun a o h nt => ?_) (fun a t p e => ?_) hRb
  · obtain ⟨e, hk⟩ := lendG_get 0 env j e
    rw [Nat.zero_add] at hk
    obtain ⟨v', hv', ho'⟩ := rel.cell j c' e
    by_cases hj : j = i
    · subst hj
      exact ⟨v', hv', OwR.go gsh2 (fun a u p z1 z2 => by
        obtain ⟨k1, k2⟩ := keep a u z1 (by rw [z2]; nofun) fun j' p' hj' z => by rw [z2] at z; cases z; exact hj' rfl
        exact ⟨k1, k2.trans z2⟩) _ _ _ _ ho'⟩
    · obtain ⟨k, d⟩ := c'
      cases k with
      | zero => exact ⟨v', hv', Rp.sh gsh2 d v' ho'⟩
      | succ k =>
        have hb : j ∈ bx := by
          rcases hk with z | z | z
          · exact absurd z hj
          · exact z
          · cases z
        obtain ⟨l1, ns, l2⟩ := lo j hb
        rw [e] at l2
        cases l2
        obtain ⟨v2, hv2, ho2⟩ := rel'.cell j _ (by rw [l1]; exact e)
        refine ⟨v2, hv2, ?_⟩
        rcases ho2 with ⟨im, _⟩ | ⟨a, vs, ds, e1, e2, q1, q2, el, hc⟩ | ⟨_, _, _, _, e2, _⟩ | ⟨_, _, _, _, _, _, _, e2, _⟩ | ⟨_, _, _, _, e2, _⟩
        · cases im
        rotate_left
        · cases e2
        · cases e2
        · cases e2
        · refine .inr (.inl ⟨a, vs, ds, e1, e2, q1, ?_, el, fun j2 w d2 z1 z2 => ?_⟩)
          · refine (same a ?_).trans q2
            by_cases hn : H a = none
            · exact .inr hn
            · refine .inl fun p z => ?_
              obtain ⟨o, ho⟩ := Option.ne_none_iff_exists'.mp hn
              have e3 := own1 a p z
              rcases st' a o ho (by rw [e3]; nofun) with ⟨j', p', y⟩ | ⟨_, y⟩
              · rw [e3] at y; cases y
              · rw [y, e3] at q2; cases q2
          · have h3 := hc j2 w d2 z1 z2
            cases e2
            rw [List.getElem?_map] at z2
            cases z3 : ns[j2]? with
            | none => rw [z3] at z2; cases z2
            | some n =>
              rw [z3] at z2
              cases z2
              have h3 : Rp K ω' H' w (.int n) := h3
              cases h3
              exact Rp.int n
  · cases y : ω a with
    | own j p => exact .inl ⟨j, p, rfl⟩
    | _ =>
      obtain ⟨k1, k2⟩ := keep a o h nt fun j p _ z => by rw [y] at z; cases z
      exact .inr ⟨k1, k2.trans y⟩
  · by_cases hn : (∀ p, ω a ≠ .own i p) ∨ H a = none
    · rw [same a hn] at e
      exact fr' a t p e
    · obtain ⟨h1, h2⟩ := not_or.mp hn
      obtain ⟨p', hp'⟩ := Classical.not_forall.mp h1
      have hp2 : ω a = .own i p' := Classical.byContradiction fun z => hp' z
      obtain ⟨o, ho⟩ := Option.ne_none_iff_exists'.mp h2
      obtain ⟨_, k2⟩ := keep a o ho (by rw [hp2]; nofun) fun j' p2 hj' z => by rw [hp2] at z; cases z; exact hj' rfl
      rw [k2, hp2] at e
      cases e
end
theorem st_lend {X : Cx} {e : Expr} {fc : FT} (i : Nat) (bx : List Nat) (h : STs X e fc) : STs X e (fLend i bx fc) := by
  obtain ⟨t, p, s⟩ := h.ex
  exact ⟨_, p, snd_lend i bx s⟩
end Pv

/-! Pv16: chains of comparisons, tuples of the module, what is never reached. -/
namespace Pv
open PySem PySem.Spec PyProof.Rows L2
/-! ### a op b op' c -/
def fChain (o o' : O2) (fa fb fc : FE) : FE := fun env R => fa env fun r1 e1 => fb e1 fun r2 e2 => okb e2 r1 ∧ ap2 o r1 r2 fun _ d => dB (fun b => match b with
  | true => fc e2 fun r3 e3 => okb e3 r2 ∧ ap2 o' r2 r3 fun k d => R (.v k d) e3
  | false => R (.v 0 (.bool false)) e2) d
section
variable {K : Fg}
theorem snd_chain {r r' : R2} {o o' : O2} {ta tb tc : TE} {fa fb fc : FE} (ho : SndO2 K r o) (ho' : SndO2 K r' o') (ha : SndE K ta fa) (hb : SndE K tb fb) (hc : SndE K tc fc) : SndE K (tChain r r' ta tb tc) (fChain o o' fa fb fc) := by
  intro ω T env σ H R Q rel fre hR q
  refine ha ω T env σ H _ _ rel fre hR fun x H1 ω1 e1 r1 rel1 st1 fr1 rr1 h1 => ?_
  refine hb ω1 (T + 1) e1 σ H1 _ _ rel1 fr1 h1 fun y H2 ω2 e2 r2 rel2 st2 fr2 rr2 h2 => ?_
  have rr1' : ResR K ω2 H2 σ e2 T x r1 := by
    cases r1 with
    | v k d => exact ResR.step (T' := T) rr1 st2
    | b i k d => exact ⟨h2.1, rr1.2⟩
  have v1 := rr1'.gc rel2 (Nat.le_refl T)
  have v2 := rr2.gc rel2 (Nat.le_succ T)
  have stA : Step ω H (gc T ω2) H2 := (st1.trans st2).gc fre
  refine ho (gc T ω2) T H2 x y r1 r2 _ _ gc_free v1 v2 (ap2_cl h2.2) (fun z H3 ω3 k d g3 fr3 hz hR3 => ?_)
  obtain ⟨b, rfl, hb⟩ := dB_ex hR3
  have rel3 : Rel K ω3 e2 σ H3 := (rel2.gc T).grow g3
  have hz' : z = .bl b := ResR.bl (T := T) (r := .v k (.bool b)) rel3 hz rfl
  refine ⟨b, hz', ?_⟩
  cases b with
  | false => exact q (.bl false) H3 ω3 e2 (.v 0 (.bool false)) rel3 (stA.grow g3) fr3 (Rp.bl false) hb
  | true =>
    show tc σ H3 _
    refine hc ω3 (T + 1) e2 σ H3 _ _ rel3 fr3 hb fun w H4 ω4 e4 r3 rel4 st4 fr4 rr3 h4 => ?_
    have v2' : Vw K (gc T ω4) H4 y r2 := by
      cases r2 with
      | v k d =>
        have w1 : Rp K (gc T ω2) H2 y d := v2
        exact Rp.sh gc_sh _ _ (Rp.sh st4.sh _ _ (Rp.sh g3.step.sh _ _ w1))
      | b i k d =>
        have e1 : e4[i]? = some (some ⟨k, d⟩) := h4.1
        obtain ⟨v', hv, hw⟩ := (rel4.gc T).cell i _ e1
        have e2 := rr2.2
        rw [hv] at e2
        have e3 : v' = y := Option.some.inj (Option.some.inj e2)
        subst e3
        exact hw
    exact ho' (gc T ω4) T H4 y w r2 r3 _ Q gc_free v2' (rr3.gc rel4 (Nat.le_succ T)) (ap2_cl h4.2) (out_of (rel4.gc T) (((stA.grow g3).trans st4).gc fre) q)
end
section
variable {X : Cx} {a b c : Expr} {fa fb fc : FE} {pos : Pos}
theorem st_chain {op op' : CmpOp} {r r' : R2} {o o' : O2} (ho : OpR X (compareOp op) r) (so : SndO2 X.K r o) (ho' : OpR X (compareOp op') r') (so' : SndO2 X.K r' o') (ha : SE X a fa) (hb : SE X b fb) (hc : SE X c fc) (hm : lastMarks [op, op'] [b, c] = false := by rfl) :
    STs X (.Compare a [op, op'] [b, c] pos) (fTst (fChain o o' fa fb fc)) := by
  obtain ⟨t, p, s⟩ := ha.ex
  obtain ⟨t', p', s'⟩ := hb.ex
  obtain ⟨t2, p2, s2⟩ := hc.ex
  exact ⟨_, pt_chain ho ho' p p' p2 (hm := hm), snd_tst (snd_chain so so' s s' s2)⟩
/-! ### constants of the module -/
theorem se_gk {x : Str} {d : D} {pos : Pos} (h : ∃ u, X.mg x = some u ∧ KD X.K u d) (hg : Gl X x := by rfl) (hd : (x == ("__debug__" : Str)) = false := by decide) : SE X (.Name x pos) (fC d) := by
  obtain ⟨u, h, k⟩ := h
  exact se_glob h k hg hd
end
theorem kd_tupS {K : Fg} {a : Addr} {od : Option Addr} {its : Array Value} {n : Nat} {sl : Array (Option Value)} (xs : List Str) (l : K.lookup a = some ⟨.type "tuple", od, .seq its n, sl⟩) (hv : Vals (xs.map V.str) its.toList) (hn : its.size ≤ sizeLine) : KD K (.ref a) (.tuple (xs.map .str)) :=
  ⟨.ref a, rfl, fun ω H => .tup (.inr ⟨_, its, n, l, rfl, rfl, hn, hv⟩) (by
    clear hv
    induction xs with
    | nil => exact .nil
    | cons x xs ih => exact .cons (.str x) ih)⟩
/-! ### what is never reached -/
def fNoS : FS := fun _ _ => False
def fNoE : FE := fun _ _ => False
end Pv

/-! Pv17: max(.., default=i) of a list of ints. -/
namespace Pv
open PySem PySem.Spec PyProof.Rows L2
def mxD (i : Int) : List Int → Int
  | [] => i
  | n :: ns => ns.foldl max n
def dMaxDf (f : Prop) (R : KC) (i : Int) : D → Prop
  | .list ds => f ∧ ∃ ns : List Int, ds = ns.map PyData.int ∧ R 0 (.int (mxD i ns))
  | _ => False
def oMaxDf (i : Int) : O1 := fun r R => dMaxDf (flat r) R i r.d
def rMaxDf (K : Fg) (i : Int) : List V → Hp → VK → Prop := fun vs H Q => ∃ (a : Addr) (ns : List Int), vs = [V.ref a] ∧ SqL K H a (ns.map V.int) ∧ Q (.int (mxD i ns)) H
section
variable {X : Cx}
end
end Pv

/-! Pv18: x[i], x[j] = a, b (ints, of a slot's own list). -/
namespace Pv
open PySem PySem.Spec PyProof.Rows L2
theorem grow_new {ω : Om} {H : Hp} {p : Addr} {u : HO} (hp : H p = none) : Grow ω H ω (upd H p u) := fun a o h => ⟨by
  have ne : a ≠ p := fun z => by subst z; rw [hp] at h; cases h
  rw [upd_ne ne]; exact h, rfl⟩
def fSwp (i : Nat) (fa : FA) (f1 f2 : FE) : FS := fun env k => fa env fun rs e1 => match rs with
  | [r1, r2] => atInt (fun a => atInt (fun b => isOwn (getC e1 i) ∧ f1 e1 fun rj e2 => onOwn (getC e2 i) fun ds => atInt (fun j => ∃ n, ixN ds.length j = some n ∧
      (isOwn (getC (e2.set i (some (ow (.list (ds.set n (.int a)))))) i) ∧ f2 (e2.set i (some (ow (.list (ds.set n (.int a)))))) fun rl e3 => onOwn (getC e3 i) fun ds2 => atInt (fun l => ∃ n2, ixN ds2.length l = some n2 ∧ k.nx (e3.set i (some (ow (.list (ds2.set n2 (.int b))))))) rl.d)) rj.d) r2.d) r1.d
  | _ => False
section
variable {K : Fg} {io : Nat → Bool}
theorem set_step {i T : Nat} {tj : TE} {fj : FE} (hj : SndE K tj fj) {ω ω0 : Om} {env : Env} {σ : Sg} {H H0 : Hp} (rel : Rel K ω env σ H) (fr : Free ω T) (st0 : Step ω0 H0 ω H) (fr0 : Free ω0 0) (a : Int) {P : Env → Prop}
    (hown : isOwn (getC env i)) (h : fj env fun rj e2 => onOwn (getC e2 i) fun ds => atInt (fun j => ∃ n, ixN ds.length j = some n ∧ P (e2.set i (some (ow (.list (ds.set n (.int a))))))) rj.d) {Q : Sg → Hp → Prop}
    (fin : ∀ H' ω' env', Rel K ω' env' σ H' → Step ω0 H0 ω' H' → Free ω' 0 → P env' → Q σ H') : gSub (tVar i) tj rSetL (.int a) σ H Q := by
  obtain ⟨ds0, e0⟩ := isOwn_ex hown
  obtain ⟨a0, vs0, hσ, hH, _, _⟩ := rel.own e0
  refine ⟨.ref a0, hσ, ?_⟩
  refine hj ω T env σ H _ _ rel fr h fun jv H2 ω2 e2 rj rel2 st2 fr2 rr2 h2 => ?_
  obtain ⟨ds, e3, h3⟩ := onOwn_ex h2
  obtain ⟨j, ej, n, hn, hk⟩ := atInt_ex h3
  obtain ⟨a1, vs, hσ1, hH2, ho2, hp2⟩ := rel2.own e3
  have ea : a0 = a1 := by
    rw [hσ] at hσ1
    exact V.ref.inj (Option.some.inj (Option.some.inj hσ1))
  subst ea
  have il : i < e2.length := (List.getElem?_eq_some_iff.mp (getC_some e3)).1
  have hog : gc 0 ω2 a0 = .own i [] := by show gcO 0 (ω2 a0) = _; rw [ho2]; rfl
  have hpg : RpAll K (gc 0 ω2) H2 (vs.set n (.int a)) (ds.set n (.int a)) := RpAll.set (.int a) n (RpAll.sh gc_sh _ _ hp2)
  obtain ⟨rel3, st3⟩ := (rel2.gc 0).wr hσ1 il hog hpg
  refine ⟨a0, vs, j, n, rfl, rr2.int_ rel2 ej, hH2, by rw [hp2.length]; exact hn, ?_⟩
  exact fin _ (gc 0 ω2) _ rel3 (((st0.trans st2).gc fr0).trans st3) gc_free hk
end
section
variable {X : Cx} {io : Nat → Bool} {a b j1 j2 : Expr} {fa : FA} {f1 f2 : FE} {x : Str} {p1 p2 q1 q2 pt pt2 pos : Pos} {kt k2 : Nat}
theorem ss_swp (i : Nat) (hc : X.calm = true) (ha : SA X [a, b] fa) (h1 : SE X j1 f1) (h2 : SE X j2 f2) (hN : X.N[i]? = some x := by rfl) (hv : Vis X.env.scope x := by first | exact Or.inl rfl | exact Or.inr (Or.inl rfl) | exact Or.inr (Or.inr rfl)) (hd : (x == ("__debug__" : Str)) = false := by decide) (hcd : (x == ("__classdict__" : Str)) = false := by decide)
    (hasg1 : ∀ v, assign (.Subscript (.Name x p1) j1 q1) X.env v = (do
      let ov ← holding [v] (eval (.Name x p1) X.env)
      let iv ← holding [v, ov] (eval j1 X.env)
      standAt q1
      holding [v, ov, iv] (setItem ov iv v)
      release [v, ov, iv] []) := by intro _; rfl)
    (hasg2 : ∀ v, assign (.Subscript (.Name x p2) j2 q2) X.env v = (do
      let ov ← holding [v] (eval (.Name x p2) X.env)
      let iv ← holding [v, ov] (eval j2 X.env)
      standAt q2
      holding [v, ov, iv] (setItem ov iv v)
      release [v, ov, iv] []) := by intro _; rfl)
    (g1 : (assignEach [.Subscript (.Name x p1) j1 q1, .Subscript (.Name x p2) j2 q2] X.env).map (·.2) = assign (.Subscript (.Name x p1) j1 q1) X.env :: (assignEach [.Subscript (.Name x p2) j2 q2] X.env).map (·.2) := by rfl)
    (g2 : (assignEach [.Subscript (.Name x p2) j2 q2] X.env).map (·.2) = assign (.Subscript (.Name x p2) j2 q2) X.env :: (assignEach [] X.env).map (·.2) := by rfl)
    (hn : (assignEach [.Subscript (.Name x p1) j1 q1, .Subscript (.Name x p2) j2 q2] X.env).length = 2 := by rfl) (hst : (assignEach [.Subscript (.Name x p1) j1 q1, .Subscript (.Name x p2) j2 q2] X.env).findIdx? (·.1) = none := by rfl)
    (hs : swapsWithSole [.Tuple [.Subscript (.Name x p1) j1 q1, .Subscript (.Name x p2) j2 q2] kt pt] (.Tuple [a, b] k2 pt2) pos.line X.env = pure false := by rfl)
    (hw : swappedStores [.Tuple [.Subscript (.Name x p1) j1 q1, .Subscript (.Name x p2) j2 q2] kt pt] (.Tuple [a, b] k2 pt2) X.env = pure none := by rfl)
    (h0 : (assignEach [.Tuple [.Subscript (.Name x p1) j1 q1, .Subscript (.Name x p2) j2 q2] kt pt] X.env).map (·.2) = [assign (.Tuple [.Subscript (.Name x p1) j1 q1, .Subscript (.Name x p2) j2 q2] kt pt) X.env] := by rfl) :
    SSt X io (.Assign [.Tuple [.Subscript (.Name x p1) j1 q1, .Subscript (.Name x p2) j2 q2] kt pt] (.Tuple [a, b] k2 pt2) pos) (fSwp i fa f1 f2) := by
  obtain ⟨t, p, s⟩ := ha.ex
  obtain ⟨t1, r1, s1⟩ := h1.ex
  obtain ⟨t2, r2, s2⟩ := h2.ex
  refine ⟨_, ps_asg (pe_tup p) (pg_tup hc (pgs_cons (pg_sub (pe_var hN hv hd hcd) r1 set_list hasg1) (pgs_cons (pg_sub (pe_var hN hv hd hcd) r2 set_list hasg2) pgs_nil g2) g1) hn hst) hs hw h0, fun ω env σ H E k rel fr hf kr => ?_⟩
  refine s ω 0 env σ H _ _ rel fr hf fun vs H1 ω1 e1 rs rel1 st1 fr1 rr1 h1 => ?_
  obtain ⟨w1, w2, rfl⟩ : ∃ w1 w2, rs = [w1, w2] := by
    match rs, h1 with
    | [w1, w2], _ => exact ⟨w1, w2, rfl⟩
    | [], h => exact h.elim
    | [_], h => exact h.elim
    | _ :: _ :: _ :: _, h => exact h.elim
  obtain ⟨v1, v2, rfl⟩ : ∃ v1 v2, vs = [v1, v2] := by
    match vs, rr1 with
    | [v1, v2], _ => exact ⟨v1, v2, rfl⟩
    | [], h => exact h.elim
    | [_], h => exact h.2.elim
    | _ :: _ :: _ :: _, h => exact h.2.2.elim
  obtain ⟨rr1, rr2, _⟩ := rr1
  obtain ⟨a1, ea, h1⟩ := atInt_ex h1
  obtain ⟨b1, eb, ho, h1⟩ := atInt_ex h1
  have ev1 := rr1.int_ rel1 ea
  have ev2 := rr2.int_ rel1 eb
  subst ev1
  subst ev2
  refine ⟨show 2 ≤ sizeLine by decide, fun q hq => ⟨q, [.int a1, .int b1], rfl, .inl (.inl upd_same), rfl, .int a1, [.int b1], rfl, ?_⟩⟩
  have g := grow_new (ω := ω1) (u := .tup [.int a1, .int b1]) hq
  refine set_step s1 (rel1.grow g) fr1 (st1.grow g) fr a1 (P := fun e => isOwn (getC e i) ∧ f2 e fun rl e3 => onOwn (getC e3 i) fun ds2 => atInt (fun l => ∃ n2, ixN ds2.length l = some n2 ∧ k.nx (e3.set i (some (ow (.list (ds2.set n2 (.int b1))))))) rl.d) ho h1 fun H' ω' env' rel' st' fr' hP => ⟨.int b1, [], rfl, ?_⟩
  obtain ⟨ho2, hP⟩ := hP
  exact set_step s2 rel' fr' st' fr b1 (P := fun e => k.nx e) ho2 hP fun H'' ω'' env'' rel'' st'' fr'' hk => ⟨rfl, kr.nx σ _ _ _ rel'' st'' fr'' Keep.refl hk⟩
end
end Pv

/-! Pv19: {text: text, ..}[e], written where it is looked at. -/
namespace Pv
open PySem PySem.Spec PyProof.Rows L2
def cPairs (kvs : List (Str × Str)) : List (TE × TE) := kvs.map fun p => (tC (.str p.1), tC (.str p.2))
structure DKs (X : Cx) (pos : Pos) (keys : List (Option Expr)) (values : List Expr) (kvs : List (Str × Str)) : Prop where
  pps : PPs X pos keys values (cPairs kvs)
def keyS (kvs : List (Str × Str)) : List (Key × V) := kvs.map fun p => (Sum.inr p.1, V.str p.2)
def lkS (kvs : List (Str × Str)) (s : Str) : Option Str := match valV (mergeK [] (keyS kvs)) (.inr s) with
  | some (.str v) => some v
  | _ => none
def pickT (R : KC) : Option Str → Prop
  | some v => R 0 (.str v)
  | none => False
def dLk (kvs : List (Str × Str)) (R : KC) : D → Prop
  | .str s => pickT R (lkS kvs s)
  | _ => False
def oLk (kvs : List (Str × Str)) : O1 := fun r R => dLk kvs R r.d
section
variable {X : Cx} {pos : Pos} {keys : List (Option Expr)} {values : List Expr} {kvs : List (Str × Str)} {a b : Str} {p1 p2 : Pos}
end
end Pv

/-! Pv20: dicts whose keys are ints. -/
namespace Pv
open PySem PySem.Spec PyProof.Rows L2
/-! ### rules of the machine -/
def rEq0 (p : Bool → Bool) : R2 := fun x y H Q => ∃ a b ks ls, x = .ref a ∧ y = .ref b ∧ H a = some (.dK ks) ∧ H b = some (.dK ls) ∧ (ks = [] ∨ ls = []) ∧ Q (.bl (p (ks.length == ls.length))) H
def rUpdD : V → List V → Hp → VK → Prop := fun x vs H Q => ∃ (a b : Addr) (kvs more : List (Key × V)), x = .ref a ∧ vs = [.ref b] ∧ H a = some (.dK kvs) ∧ H b = some (.dK more) ∧ a ≠ b ∧ kvs.length + more.length ≤ sizeLine ∧ Q .non (upd H a (.dK (mergeK kvs more)))
section
variable {X : Cx}
end
/-! ### the data -/
def putE (es : List (Int × D)) (i : Int) (d : D) : List (Int × D) := if (es.any fun p => decide (p.1 = i)) = true then es.map (fun p => if p.1 = i then (p.1, d) else p) else es ++ [(i, d)]
def valE (es : List (Int × D)) (i : Int) : Option D := (es.find? fun p => decide (p.1 = i)).map (·.2)
def mergeE (es more : List (Int × D)) : List (Int × D) := more.foldl (fun acc p => putE acc p.1 p.2) es
/-- what a dict's value may be -/
def isDV (d : D) : Prop := (∃ b, d = .bool b) ∨ (∃ i, d = .int i) ∨ ∃ ns : List Int, d = .list (ns.map .int)
section
variable {K : Fg} {ω : Om} {H : Hp}
theorem DVal.rp {v : V} {d : D} (h : DVal ω H v d) : Rp K ω H v d := by
  cases h with
  | bl b => exact .bl b
  | int i => exact .int i
  | il h => exact .lst h (RpAll.ints _)
theorem DPs.length : ∀ {kvs : List (Key × V)} {es : List (Int × D)}, DPs ω H kvs es → kvs.length = es.length
  | _, _, .nil => rfl
  | _, _, .cons _ t => congrArg (· + 1) t.length
theorem DPs.keys : ∀ {kvs : List (Key × V)} {es : List (Int × D)}, DPs ω H kvs es → (kvs.map fun kv => kV kv.1) = (es.map (·.1)).map V.int
  | _, _, .nil => rfl
  | _, _, .cons _ t => congrArg (_ :: ·) t.keys
theorem DPs.any (i : Int) : ∀ {kvs : List (Key × V)} {es : List (Int × D)}, DPs ω H kvs es → (kvs.any fun kv => decide (kv.1 = .inl i)) = es.any fun p => decide (p.1 = i)
  | _, _, .nil => rfl
  | _, _, .cons (i := j) _ t => by
    rw [List.any_cons, List.any_cons, DPs.any i t]
    congr 1
    by_cases h : j = i
    · rw [decide_eq_true h, decide_eq_true (by rw [h])]
    · rw [decide_eq_false h, decide_eq_false (fun z => h (Sum.inl.inj z))]
theorem DPs.append : ∀ {kvs kws : List (Key × V)} {es fs : List (Int × D)}, DPs ω H kvs es → DPs ω H kws fs → DPs ω H (kvs ++ kws) (es ++ fs)
  | _, _, _, _, .nil, s => s
  | _, _, _, _, .cons h t, s => .cons h (t.append s)
theorem DPs.over {v : V} {d : D} (i : Int) (hv : DVal ω H v d) : ∀ {kvs : List (Key × V)} {es : List (Int × D)}, DPs ω H kvs es → DPs ω H (kvs.map fun kv => if kv.1 = .inl i then (kv.1, v) else kv) (es.map fun p => if p.1 = i then (p.1, d) else p)
  | _, _, .nil => .nil
  | _, _, .cons (i := j) h t => by
    rw [List.map_cons, List.map_cons]
    by_cases e : j = i
    · subst e
      rw [if_pos rfl, if_pos rfl]
      exact .cons hv (DPs.over _ hv t)
    · rw [if_neg e, if_neg (fun z => e (Sum.inl.inj z))]
      exact .cons h (DPs.over _ hv t)
theorem DPs.put {v : V} {d : D} {i : Int} (hv : DVal ω H v d) {kvs : List (Key × V)} {es : List (Int × D)} (h : DPs ω H kvs es) : DPs ω H (putK kvs (.inl i) v) (putE es i d) := by
  unfold putK putE
  rw [h.any i]
  by_cases e : (es.any fun p => decide (p.1 = i)) = true
  · rw [if_pos e, if_pos e]; exact h.over i hv
  · rw [if_neg e, if_neg e]; exact h.append (.cons hv .nil)
theorem DPs.get {i : Int} {d : D} : ∀ {kvs : List (Key × V)} {es : List (Int × D)}, DPs ω H kvs es → valE es i = some d → ∃ v, valV kvs (.inl i) = some v ∧ DVal ω H v d
  | _, _, .nil, e => by cases e
  | _, _, .cons (i := j) (v := v0) (d := d0) h t, e => by
    unfold valE at e
    unfold valV
    rw [List.find?_cons] at e ⊢
    by_cases z : j = i
    · rw [decide_eq_true z] at e
      rw [decide_eq_true (show (Sum.inl j : Key) = .inl i by rw [z])]
      have e : some d0 = some d := e
      cases e
      exact ⟨v0, rfl, h⟩
    · rw [decide_eq_false z] at e
      rw [decide_eq_false (fun y : (Sum.inl j : Key) = .inl i => z (Sum.inl.inj y))]
      exact DPs.get t e
theorem dctD_inj : ∀ {es fs : List (Int × D)}, dctD es = dctD fs → es = fs := by
  intro es fs h
  have h2 := (List.cons.inj (PyData.dict.inj h)).2
  have inj : ∀ (as bs : List (Int × D)), (as.map fun p => (PyData.int p.1, p.2)) = (bs.map fun p => (PyData.int p.1, p.2)) → as = bs := by
    intro as
    induction as with
    | nil => intro bs q; cases bs with
      | nil => rfl
      | cons _ _ => cases q
    | cons a as ih => intro bs q; cases bs with
      | nil => cases q
      | cons b bs =>
        rw [List.map_cons, List.map_cons] at q
        have q1 := Prod.mk.inj (List.cons.inj q).1
        have q3 : a = b := Prod.ext (PyData.int.inj q1.1) q1.2
        rw [q3, ih bs (List.cons.inj q).2]
  exact inj _ _ h2
theorem DcR.int_ {a : Addr} {u : HO} {q : D × List (D × D)} {es : List (Int × D)} (h : DcR K ω H a u q) (e : dctD es = dcD q) : ∃ kvs, u = .dK kvs ∧ DPs ω H kvs es := by
  cases h with
  | int h => cases dctD_inj e; exact ⟨_, rfl, h⟩
  | tup h =>
    have := congrArg headD e
    rw [dcD_int, head_dct, head_dct] at this
    cases this
theorem Rp.dct_ {v : V} {es : List (Int × D)} (h : Rp K ω H v (dctD es)) : ∃ a kvs, v = .ref a ∧ H a = some (.dK kvs) ∧ DPs ω H kvs es ∧ ω a = .shr := by
  generalize e : dctD es = d at h
  cases h with
  | dct h1 h2 h3 => obtain ⟨kvs, rfl, h5⟩ := h3.int_ e; exact ⟨_, _, rfl, h1, h5, h2⟩
  | scr hs =>
    have e2 := congrArg isScr (PyData.dict.inj e)
    rw [isScr_map] at e2
    cases e2
  | _ => cases e
theorem OwR.dct_ {k : Nat} {o : List Nat → Ow} {p : List Nat} {v : V} {es : List (Int × D)} (h : OwR K ω H k o p v (dctD es)) : ∃ a kvs, v = .ref a ∧ H a = some (.dK kvs) ∧ DPs ω H kvs es ∧ (0 < k → ω a = o p) := by
  cases k with
  | zero =>
    obtain ⟨a, kvs, h1, h2, h3, _⟩ := Rp.dct_ (K := K) h
    exact ⟨a, kvs, h1, h2, h3, fun z => by cases z⟩
  | succ k =>
    rcases h with ⟨i, _⟩ | ⟨_, _, _, _, e2, _⟩ | ⟨a, kvs, es', e1, e2, h1, h2, h3⟩ | ⟨_, _, _, _, _, _, _, e2, _⟩ | ⟨_, _, _, _, e2, _⟩
    · cases i
    · cases e2
    · obtain ⟨kvs, rfl, h5⟩ := h3.int_ e2
      exact ⟨a, kvs, e1, h1, h5, fun _ => h2⟩
    · rw [dcD_int] at e2; exact (dct_not_ins e2).elim
    · first | (cases e2; done) | exact (dct_not_otp e2).elim | exact (dct_not_otp e2.symm).elim | exact (ins_not_otp e2.symm).elim | exact (ins_not_otp e2).elim | exact (exc_not_otp e2).elim | (subst e2; cases f; done)
theorem Vw.dct {v : V} {r : Res} (h : Vw K ω H v r) {es : List (Int × D)} (e : r.d = dctD es) : ∃ a kvs, v = .ref a ∧ H a = some (.dK kvs) ∧ DPs ω H kvs es := by
  cases r with
  | v k d =>
    have e' : d = dctD es := e
    have h' : Rp K ω H v d := h
    rw [e'] at h'
    obtain ⟨a, kvs, h1, h2, h3, _⟩ := h'.dct_
    exact ⟨a, kvs, h1, h2, h3⟩
  | b j k d =>
    have e' : d = dctD es := e
    have h' : OwR K ω H k (Ow.own j) [] v d := h
    rw [e'] at h'
    obtain ⟨a, kvs, h1, h2, h3, _⟩ := h'.dct_
    exact ⟨a, kvs, h1, h2, h3⟩
end
/-! ### {} -/
def fDNew : FE := fun env R => R (.v 1 (dctD [])) env
section
variable {X : Cx} {pos : Pos}
end
/-! ### list(d), d == {}, d[k] -/
def oListD : O1 := fun r R => ∃ es, r.d = dctD es ∧ R 1 (.list ((es.map (·.1)).map .int))
def oEqD0 (p : Bool → Bool) : O2 := fun r1 r2 R => ∃ es fs, r1.d = dctD es ∧ r2.d = dctD fs ∧ (es = [] ∨ fs = []) ∧ R 0 (.bool (p (es.length == fs.length)))
def oIxD : O2 := fun r1 r2 R => ∃ es i d, r1.d = dctD es ∧ r2.d = .int i ∧ valE es i = some d ∧ R 0 d
def rListD : V → Hp → VK → Prop := fun x H Q => ∃ a kvs, x = .ref a ∧ H a = some (.dK kvs) ∧ ∀ p, H p = none → Q (.ref p) (upd H p (.lst (kvs.map fun kv => kV kv.1)))
def rIxD0 : R2 := fun x y H Q => ∃ a v, x = .ref a ∧ DGet H a y (some v) ∧ Q v H
section
variable {X : Cx} {K : Fg} {a b e : Expr} {fa fb : FE} {fA : FA} {p pos : Pos}
end
/-! ### a slot's own dict -/
@[irreducible] def onOwnD (c : Option Cell) (P : List (Int × D) → Prop) : Prop := ∃ es, c = some (ow (dctD es)) ∧ P es
theorem ev_onD {es : List (Int × D)} {P : List (Int × D) → Prop} (h : P es) : onOwnD (some (ow (dctD es))) P := by unfold onOwnD; exact ⟨es, rfl, h⟩
section
variable {K : Fg} {ω : Om} {env : Env} {σ : Sg} {H : Hp}
end
/-- x[k] = v -/
def fSetIxD (i : Nat) (fa fj : FE) : FS := fun env k => fa env fun r e1 => noB [r] ∧ onOwnD (getC e1 i) fun _ => fj e1 fun rj e2 => onOwnD (getC e2 i) fun es => atInt (fun j => (isDV r.d ∧ es.length < sizeLine) ∧ k.nx (e2.set i (some (ow (dctD (putE es j r.d)))))) rj.d
section
variable {K : Fg} {io : Nat → Bool}
end
section
variable {X : Cx} {io : Nat → Bool} {e j : Expr} {fa fj : FE} {x : Str} {p pos' pos : Pos}
end
/-- x.update(d) -/
@[irreducible] def at1D (P : List (Int × D) → Prop) : List Res → Prop
  | [r] => noB [r] ∧ ∃ fs, r.d = dctD fs ∧ P fs
  | _ => False
theorem ev_at1D {k : Nat} {fs : List (Int × D)} {P : List (Int × D) → Prop} (h : P fs) : at1D P [.v k (dctD fs)] := by unfold at1D; exact ⟨trivial, fs, rfl, h⟩
def fUpdD (i : Nat) (fa : FA) : FE := fun env R => onOwnD (getC env i) fun _ => fa env fun rs e => at1D (fun fs => onOwnD (getC e i) fun es => es.length + fs.length ≤ sizeLine ∧ R (.v 0 .none) (e.set i (some (ow (dctD (mergeE es fs)))))) rs
section
variable {K : Fg}
end
section
variable {X : Cx} {e : Expr} {fa : FA} {x : Str} {p apos cpos : Pos}
end
/-! ### {e: True for ..} -/
def trueE (ns : List Int) : List (Int × D) := ns.foldl (fun es i => putE es i (.bool true)) []
def fInt (fe : FE) : FE := fun env R => fe env fun r e => dI (fun i => R (.v 0 (.int i)) e) r.d
@[irreducible] def onInts (P : List Int → Prop) (d : D) : Prop := ∃ ns : List Int, d = .list (ns.map .int) ∧ P ns
theorem ev_onInts {ns : List Int} {P : List Int → Prop} (h : P ns) : onInts P (.list (ns.map .int)) := by unfold onInts; exact ⟨ns, rfl, h⟩
def fDc (own : List Nat) (fi : FI) (g : FG) (ft : FT) (fk : FE) : FE := fun env R => fLc own fi g ft (fInt fk) env fun r e => onInts (fun ns => R (.v 1 (dctD (trueE ns))) e) r.d
theorem ints_inj : ∀ {as bs : List Int}, as.map PyData.int = bs.map PyData.int → as = bs
  | [], [], _ => rfl
  | [], _ :: _, h => by cases h
  | _ :: _, [], h => by cases h
  | a :: as, b :: bs, h => by
    have h1 := List.cons.inj h
    rw [PyData.int.inj h1.1, ints_inj h1.2]
section
variable {K : Fg}
end
section
variable {X : Cx} {elt tg iter : Expr} {ifs : List Expr} {scope : Scope} {own : List (Str × Nat)} {pos pb : Pos} {fi : FI} {g : FG} {ft : FT} {fe : FE}
end
end Pv

/-! Pv21: sorted(set(x)), x a list of ints. -/
namespace PySem
open L2 PyProof.Rows
section
variable {P : Program} {w : World} {A : Around} {E : Value → Shared → Prop} {s : Shared}
/-- a new, empty set -/
def nset (w : World) : Obj := { cls := .type "set", dict := none, data := .set #[] 0 (.fresh 0 0 (!w.params.followText "set-order")) }
/-- what the filling of the new set leaves -/
def FilledS (w : World) (s : Shared) (ns : List Int) (r : Value) (s2 : Shared) : Prop :=
  r = .none ∧ ∃ h' tk c, s2 = { s with heap := h', toks := tk } ∧ SetR w h' s.heap.objs.size (fun j => decide (j ∈ ns)) c ∧ c ≤ ns.length ∧ ∀ b o, s.heap.get? b = some o → h'.get? b = some o
end
end PySem
namespace Pv
open PySem PySem.Spec PyProof.Rows L2
section
variable {X : Cx}
def rSetL (K : Fg) (w : World) : List V → Hp → VK → Prop := fun vs H Q => ∃ (a : Addr) (ns : List Int), vs = [V.ref a] ∧ SqL K H a (ns.map V.int) ∧ ns.length ≤ 60 ∧
  ∀ p c, H p = none → c ≤ ns.length → Q (.ref p) (upd H p (SetO w p (fun j => decide (j ∈ ns)) c))
def dSortedSet (f : Prop) (R : KC) : D → Prop
  | .list ds => f ∧ ∃ ns : List Int, ds = ns.map PyData.int ∧ ns.length ≤ 60 ∧ ∀ ns' : List Int, ns'.Pairwise (· < ·) → (∀ k, k ∈ ns' ↔ k ∈ ns) → ns'.length ≤ ns.length → R 1 (.list (ns'.map .int))
  | _ => False
def oSortedSet : O1 := fun r R => dSortedSet (flat r) R r.d
theorem Out.grow {K : Fg} {ω ω1 : Om} {T : Nat} {H H1 : Hp} {R : KC} {Q : VK} (q : Out K ω T H R Q) (g : Grow ω H ω1 H1) : Out K ω1 T H1 R Q :=
  fun v H' ω' k d g2 fr h hR => q v H' ω' k d (g.trans g2) fr h hR
variable {e : Expr} {fa : FA} {p p2 pos pos2 : Pos}
end
end Pv

/-! Pv22: `name = {e: True for ..}` on one line. -/
namespace Pv
open PySem PySem.Spec PyProof.Rows L2
section
variable {X : Cx}
variable {elt tg iter : Expr} {ifs : List Expr} {scope : Scope} {own : List (Str × Nat)} {pos pb spos py : Pos} {y : Str} {fi : FI} {g : FG} {ft : FT} {fe : FE} {io : Nat → Bool}
variable {a b : Expr} {fa fb : FE}
end
end Pv

/-! Pv23: len(set(t)) and t.count(k), t a tuple of ints. -/
namespace Pv
open PySem PySem.Spec PyProof.Rows L2
section
variable {X : Cx}
def rSetT (K : Fg) (w : World) : List V → Hp → VK → Prop := fun vs H Q => ∃ (a : Addr) (ns : List Int), vs = [V.ref a] ∧ SqT K H a (ns.map V.int) ∧ ns.length ≤ 1000 ∧
  ∀ p c, H p = none → c ≤ ns.length → Q (.ref p) (upd H p (SetO w p (fun j => decide (j ∈ ns)) c))
/-- len(found) -/
def rLenSetO (w : World) : List V → Hp → VK → Prop := fun vs H Q => ∃ (a : Addr) (S : Int → Bool) (n : Nat), vs = [V.ref a] ∧ H a = some (SetO w a S n) ∧ ∀ ks : List Int, ks.Nodup → (∀ k : Int, S k = true ↔ k ∈ ks) → Q (.int (ks.length : Nat)) H
def dLenSet (R : KC) : D → Prop
  | .tuple ds => ∃ ns : List Int, ds = ns.map PyData.int ∧ ns.length ≤ 1000 ∧ ∀ ks : List Int, ks.Nodup → (∀ k, k ∈ ks ↔ k ∈ ns) → R 0 (.int (ks.length : Nat))
  | _ => False
def oLenSet : O1 := fun r R => dLenSet R r.d
variable {e o : Expr} {fa fb : FE} {fA : FA} {p p2 pos pos2 apos cpos : Pos}
end
end Pv

/-! Pv24: a list display whose items are own lists, kept own: an own list of own lists. -/
namespace Pv
open PySem PySem.Spec PyProof.Rows L2
/-- the values in hand from T on become the items of the one in hand at T -/
def nestO (T : Nat) : Ow → Ow
  | .tmp t p => if T ≤ t then .tmp T ((t - T) :: p) else .tmp t p
  | o => o
abbrev nst (T : Nat) (ω : Om) : Om := ren (nestO T) ω
section
variable {K : Fg} {ω ω0 : Om} {T : Nat} {H H0 : Hp} {env : Env} {σ : Sg}
theorem nst_sh : Sh ω H (nst T ω) H := fun a o h e => ⟨h, by show nestO T (ω a) = _; rw [e]; rfl⟩
theorem Rel.nst (R : Rel K ω env σ H) (T : Nat) : Rel K (nst T ω) env σ H := by
  refine ⟨R.tab.ren rfl, R.len, fun i c e => ?_⟩
  obtain ⟨v, q, h⟩ := R.cell i c e
  exact ⟨v, q, OwR.go nst_sh (fun a u p z1 z2 => ⟨z1, by show nestO T (ω a) = _; rw [z2]; rfl⟩) _ _ _ _ h⟩
theorem nestO_lt {t : Nat} {p : List Nat} (h : t < T) : nestO T (.tmp t p) = .tmp t p := if_neg (Nat.not_le.mpr h)
theorem nestO_ge {j : Nat} {p : List Nat} : nestO T (.tmp (T + j) p) = .tmp T (j :: p) := by
  show (if T ≤ T + j then Ow.tmp T ((T + j - T) :: p) else .tmp (T + j) p) = _
  rw [if_pos (Nat.le_add_right _ _), Nat.add_sub_cancel_left]
theorem Step.nst (g : Step ω0 H0 ω H) (f : Free ω0 T) : Step ω0 H0 (nst T ω) H := fun a o h na => by
  rcases g a o h na with q | ⟨q, z⟩
  · exact .inl q
  · refine .inr ⟨q, ?_⟩
    show nestO T (ω a) = _
    rw [z]
    cases y : ω0 a with
    | tmp t p => exact nestO_lt (f a t p y)
    | _ => rfl
theorem nst_free : Free (nst T ω) (T + 1) := fun a t p e => by
  have e : nestO T (ω a) = .tmp t p := e
  cases q : ω a with
  | tmp t' p' =>
    rw [q] at e
    by_cases hT : T ≤ t'
    · have e' : nestO T (.tmp t' p') = .tmp T ((t' - T) :: p') := if_pos hT
      rw [e'] at e; cases e; exact Nat.lt_succ_self _
    · rw [nestO_lt (Nat.not_le.mp hT)] at e; cases e; omega
  | _ => rw [q] at e; cases e
theorem OwR.shift {o : List Nat → Ow} {l : List Nat} : ∀ (k : Nat) (q : List Nat) (v : V) (d : D), OwR K ω H k (fun p => o (l ++ p)) q v d → OwR K ω H k o (l ++ q) v d
  | 0, _, _, _, h => h
  | k + 1, q, v, d, h => by
    rcases h with h | ⟨a, vs, ds, e1, e2, h1, e3, el, hc⟩ | ⟨a, kvs, es, e1, e2, h1, e3, hp⟩ | ⟨a, C, dx, gs, nm, fs, e1, e2, h1, e3, h4, e4, hn, hk, hc⟩ | ⟨a, vs, ds, e1, e2, h1, el, hc⟩
    · exact .inl h
    · refine .inr (.inl ⟨a, vs, ds, e1, e2, h1, e3, el, fun j v' d' z1 z2 => ?_⟩)
      rw [List.append_assoc]
      exact OwR.shift k (q ++ [j]) v' d' (hc j v' d' z1 z2)
    · exact .inr (.inr (.inl ⟨a, kvs, es, e1, e2, h1, e3, hp⟩))
    · refine .inr (.inr (.inr (.inl ⟨a, C, dx, gs, nm, fs, e1, e2, h1, e3, h4, e4, hn, hk, fun j v' d' z1 z2 => ?_⟩)))
      rw [List.append_assoc]
      exact OwR.shift k (q ++ [j]) v' d' (hc j v' d' z1 z2)
    · refine .inr (.inr (.inr (.inr ⟨a, vs, ds, e1, e2, h1, el, fun j v' d' z1 z2 => ?_⟩)))
      rw [List.append_assoc]
      exact OwR.shift k (q ++ [j]) v' d' (hc j v' d' z1 z2)
theorem OwR.nst {k j : Nat} {v : V} {d : D} (h : OwR K ω H k (Ow.tmp (T + j)) [] v d) : OwR K (nst T ω) H k (Ow.tmp T) [j] v d := by
  have h2 := OwR.go (o' := fun p => Ow.tmp T ([j] ++ p)) nst_sh (fun a u p z1 z2 => ⟨z1, by show nestO T (ω a) = _; rw [z2]; exact nestO_ge⟩) _ _ _ _ h
  exact OwR.shift k [] v d h2
def own1 : List Res → Prop
  | [] => True
  | .v 1 _ :: rs => own1 rs
  | _ => False
theorem ResAll.nst : ∀ {vs : List V} {rs : List Res} (n : Nat), own1 rs → ResAll K ω H σ env (T + n) vs rs → vs.length = (dsOf rs).length ∧ ∀ j v' d', vs[j]? = some v' → (dsOf rs)[j]? = some d' → OwR K (nst T ω) H 1 (Ow.tmp T) [n + j] v' d'
  | [], [], n, _, _ => ⟨rfl, fun j v' d' z _ => by cases z⟩
  | [], _ :: _, n, _, h => h.elim
  | _ :: _, [], n, _, h => h.elim
  | v :: vs, .v 1 d :: rs, n, ho, h => by
    obtain ⟨h1, h2⟩ := h
    have h1 : OwR K ω H 1 (Ow.tmp (T + n)) [] v d := h1
    obtain ⟨e, ih⟩ := ResAll.nst (n + 1) (show own1 rs from ho) (show ResAll K ω H σ env (T + (n + 1)) vs rs from h2)
    refine ⟨by show _ + 1 = (d :: dsOf rs).length; rw [List.length_cons, e], fun j v' d' z1 z2 => ?_⟩
    cases j with
    | zero =>
      cases z1
      have z2 : some d = some d' := z2
      cases z2
      exact OwR.nst h1
    | succ j =>
      have := ih j v' d' z1 z2
      rwa [show n + 1 + j = n + (j + 1) by omega] at this
  | _ :: _, .v 0 _ :: _, _, ho, _ => ho.elim
  | _ :: _, .v (_ + 2) _ :: _, _, ho, _ => ho.elim
  | _ :: _, .b _ _ _ :: _, _, ho, _ => ho.elim
/-- [a, b, ..], each an own list: kept own -/
def fLst2 (fa : FA) : FE := fun env R => fa env fun rs e => (own1 rs ∧ rs.length ≤ sizeLine) ∧ R (.v 2 (.list (dsOf rs))) e
theorem dsOf_len : ∀ rs : List Res, (dsOf rs).length = rs.length
  | [] => rfl
  | _ :: rs => congrArg (· + 1) (dsOf_len rs)
end
section
variable {X : Cx} {es : List Expr} {fa : FA} {pos : Pos}
end
/-! ### a method of an item of a slot's own list of own lists -/
def onOwn2 (c : Option Cell) (j : Nat) (P : List D → List D → Prop) : Prop := match c with
  | some ⟨2, .list ds⟩ => ∃ es, ds[j]? = some (.list es) ∧ P ds es
  | _ => False
section
variable {K : Fg} {ω : Om} {env : Env} {σ : Sg} {H : Hp} {i j : Nat}
theorem Rel.own2 (rel : Rel K ω env σ H) {ds es : List D} (h : getC env i = some ⟨2, .list ds⟩) (hj : ds[j]? = some (.list es)) :
    ∃ a vs b ws, σ[i]? = some (some (.ref a)) ∧ H a = some (.lst vs) ∧ ω a = .own i [] ∧ vs[j]? = some (.ref b) ∧ H b = some (.lst ws) ∧ ω b = .own i [j] ∧ RpAll K ω H ws es ∧ vs.length = ds.length ∧
      ∀ (n : Nat) (v' : V) (d' : D), vs[n]? = some v' → ds[n]? = some d' → OwR K ω H 1 (Ow.own i) [n] v' d' := by
  obtain ⟨v, hv, ho⟩ := rel.cell i _ (getC_some h)
  have ho' : OwR K ω H 2 (Ow.own i) [] v (.list ds) := ho
  rcases ho' with ⟨z, _⟩ | ⟨a, vs, ds', e1, e2, h1, h2, el, hc⟩ | ⟨_, _, _, _, e2, _⟩ | ⟨_, _, _, _, _, _, _, e2, _⟩ | ⟨_, _, _, _, e2, _⟩
  · cases z
  rotate_left
  · cases e2
  · cases e2
  · cases e2
  · cases e2
    subst e1
    have hl : j < vs.length := by rw [el]; exact (List.getElem?_eq_some_iff.mp hj).1
    have hvj := List.getElem?_eq_getElem hl
    have hw : OwR K ω H 1 (Ow.own i) [j] vs[j] (.list es) := hc j _ _ hvj hj
    rcases hw with ⟨z, _⟩ | ⟨b, ws, es', f1, f2, g1, g2, gl, gc2⟩ | ⟨_, _, _, _, f2, _⟩ | ⟨_, _, _, _, _, _, _, f2, _⟩ | ⟨_, _, _, _, f2, _⟩
    · cases z
    · cases f2
      rw [f1] at hvj
      exact ⟨a, vs, b, ws, hv, h1, h2, hvj, g1, g2, RpAll.of_get gl gc2, el, hc⟩
    · cases f2
    · cases f2
    · cases f2
/-- x[j].append(text) -/
def fApp2 (i j : Nat) (d : D) : FE := fun env R => onOwn2 (getC env i) j fun ds es => es.length < sizeLine ∧ R (.v 0 .none) (env.set i (some ⟨2, .list (ds.set j (.list (es ++ [d])))⟩))
def fRev2 (i j : Nat) : FE := fun env R => onOwn2 (getC env i) j fun ds es => R (.v 0 .none) (env.set i (some ⟨2, .list (ds.set j (.list es.reverse))⟩))
theorem atI_nat {vs : List V} {v : V} (h : vs[j]? = some v) : atI vs (j : Nat) = some v := by
  have hl := (List.getElem?_eq_some_iff.mp h).1
  unfold atI ixN
  rw [if_pos (Int.natCast_nonneg j), if_pos (by omega)]
  exact h
end
section
variable {X : Cx} {x s : Str} {px pj ps pk apos cpos : Pos} {k k2 : Nat}
end
end Pv

/-! Pv25: zip(a, b, strict=True) of two tuples; first, *rest = a tuple. -/
namespace Pz
open PySem
open PySem.Sem (wp)
open RZ (nextOf_tuple_item nextOf_tuple_end zipTH1 zipTH2 zipTH3 zipTH4)
open PyProof.Rows (IsTup IsTupIter slot_tuple_iter iter_tuple draw_tuple)
abbrev ZipS (h : Heap) (z TI TO : Addr) (f0 : Value) : Prop := h.get? z = some { cls := .type "zip", dict := none, data := .fields #[f0, .bool false, .bool true, .ref TI, .ref TO], slots := #[] }
section
variable {prog : Program} {w : World} {A : Around} {E : Value → Shared → Prop} {s : Shared}
end
section
variable {prog : Program} {w : World} {A : Around} {E : Value → Shared → Prop} {s : Shared}
/-! a type of the language called with keywords -/
abbrev kwS : List (Str × Value) := [("strict", .bool true)]
end
abbrev zipSH5 (h : Heap) (l1 l2 : Addr) : Heap := (zipTH4 h l1 l2).push { cls := .type "zip", data := .fields #[.none, .bool false, .bool true, .ref (zipTH2 h l1 l2).objs.size, .ref (zipTH3 h l1 l2).objs.size] }
section
variable {prog : Program} {w : World} {A : Around} {E : Value → Shared → Prop} {s : Shared}
/-! first, *rest = a tuple -/
end
end Pz

/-! Pv26: a loop over zip(a, b, strict=True) of two tuples of one length; first, *rest = a tuple. -/
namespace Pv
open PySem PySem.Spec PyProof.Rows L2
open Pz
/-- the two tuples as they stand at each turn; both end at once -/
def ItzS (K : Fg) (a b : Addr) : It :=
  ⟨fun i H => ∃ (xs ys : List V) (x y : V), SqT K H a xs ∧ SqT K H b ys ∧ xs[i]? = some x ∧ ys[i]? = some y, fun i H v H' => ∃ T x y, v = .ref T ∧ H T = none ∧ H' = upd H T (.tup [x, y]) ∧ (∀ xs, SqT K H a xs → xs[i]? = some x) ∧ ∀ ys, SqT K H b ys → ys[i]? = some y, fun i H => ∃ xs ys : List V, SqT K H a xs ∧ SqT K H b ys ∧ xs.length ≤ i ∧ ys.length ≤ i⟩
section
variable {M : Model} {A : Around} {E : Value → Shared → Prop} {s : Shared} {env : PySem.Env}
end
def iZipS (K : Fg) (ta : TA) : TI := fun σ H R => ta σ H fun vs H1 => ∃ a b xs ys, vs = [.ref a, .ref b] ∧ SqT K H1 a xs ∧ SqT K H1 b ys ∧ R (ItzS K a b) H1
/-! over data -/
def zipE : List D → List D → Option (List D)
  | [], [] => some []
  | d :: ds, e :: es => match zipE ds es with
    | some r => some (.tuple [d, e] :: r)
    | none => none
  | _, _ => none
def overZipS (P : List D → Prop) : D → D → Prop
  | .tuple ds, .tuple es => match zipE ds es with
    | some xs => P xs
    | none => False
  | _, _ => False
def fZipS (fa : FA) : FI := fun env R => fa env fun rs e => noB rs ∧ match rs with
  | [r, r'] => ovr2 (overZipS fun ds => R (.v 0 .none) ds e) r.d r'.d
  | _ => False
section
variable {X : Cx} {K : Fg} {σ : Sg} {ω : Om} {H : Hp}
end
end Pv

/-! Pv27: first, *rest = a tuple, at the level of data. -/
namespace Pv
open PySem PySem.Spec PyProof.Rows L2
open Pz
def gStar (K : Fg) (i j : Nat) : TG := fun v σ H Q => ∃ a x xs, v = .ref a ∧ SqT K H a (x :: xs) ∧ ∀ p, H p = none → Q ((σ.set i (some x)).set j (some (.ref p))) (upd H p (.lst xs))
def starD (P : D → List D → Prop) : D → Prop
  | .tuple (d :: ds) => P d ds
  | _ => False
def fStar (i j : Nat) (fa : FE) : FS := fun env k => fa env fun r e => noB [r] ∧ ovr (starD fun d ds => k.nx ((e.set i (some (sh d))).set j (some (sh (.list ds))))) r.d
section
variable {X : Cx} {io : Nat → Bool} {e : Expr} {fa : FE} {x y : Str} {px py ps tp pos : Pos} {k : Nat}
end
end Pv

/-! Pv28: an own list of own lists grows by a display, its last item is read and written. -/
namespace Pv
open PySem PySem.Spec PyProof.Rows L2
def isOwn2 : Option Cell → Prop
  | some ⟨2, .list _⟩ => True
  | _ => False
def grow2 (c : Option Cell) (P : List D → Prop) : Prop := match c with
  | some ⟨2, .list ds⟩ => P ds
  | _ => False
/-- by the last item -/
def onLast (c : Option Cell) (P : List D → List D → Prop) : Prop := match c with
  | some ⟨2, .list ds⟩ => ∃ ds0 es, ds = ds0 ++ [.list es] ∧ P ds0 es
  | _ => False
def adoO (i n T : Nat) : Ow → Ow
  | .tmp t p => if t = T then .own i (n :: p) else .tmp t p
  | o => o
section
variable {K : Fg} {ω : Om} {env : Env} {σ : Sg} {H : Hp} {i j : Nat}
/-- the value in hand at T becomes the last item -/
theorem Rel.grow2 {T : Nat} (rel : Rel K ω env σ H) {ds : List D} {d : D} {a : Addr} {vs : List V} {v : V} (hσ : σ[i]? = some (some (.ref a))) (hi : i < env.length) (ha : H a = some (.lst vs)) (ho : ω a = .own i []) (el : vs.length = ds.length)
    (hc : ∀ (n : Nat) (v' : V) (d' : D), vs[n]? = some v' → ds[n]? = some d' → OwR K ω H 1 (Ow.own i) [n] v' d') (h : OwR K ω H 1 (Ow.tmp T) [] v d) :
    Rel K (ren (adoO i ds.length T) ω) (env.set i (some ⟨2, .list (ds ++ [d])⟩)) σ (upd H a (.lst (vs ++ [v]))) := by
  have hs : Sh ω H (ren (adoO i ds.length T) ω) (upd H a (.lst (vs ++ [v]))) := fun x o hx e => ⟨by
    have ne : x ≠ a := fun z => by subst z; rw [ho] at e; cases e
    rw [upd_ne ne]; exact hx, by show adoO i ds.length T (ω x) = _; rw [e]; rfl⟩
  have own : ∀ x k p, ω x = .own k p → ren (adoO i ds.length T) ω x = .own k p := fun x k p e => by show adoO i ds.length T (ω x) = _; rw [e]; rfl
  refine ⟨rel.tab.go fun x o hx e => ⟨by rw [upd_ne (fun z => by subst z; rw [ho] at e; cases e)]; exact hx, by show adoO i ds.length T (ω x) = _; rw [e]; rfl⟩, by rw [List.length_set]; exact rel.len, fun k c e => ?_⟩
  by_cases hk : i = k
  · subst hk
    rw [List.getElem?_set_self hi] at e
    cases e
    refine ⟨_, hσ, .inr (.inl ⟨a, vs ++ [v], ds ++ [d], rfl, rfl, upd_same, own a i [] ho, by rw [List.length_append, List.length_append, el]; rfl, fun n v' d' z1 z2 => ?_⟩)⟩
    by_cases hn : n < ds.length
    · rw [List.getElem?_append_left (by omega)] at z1
      rw [List.getElem?_append_left hn] at z2
      rcases hc n v' d' z1 z2 with ⟨q, h0⟩ | ⟨x, xs, es, f1, f2, g1, g2, gl, gc2⟩ | ⟨x, kvs, es, f1, f2, g1, g2, gp⟩ | ⟨x, C, dx, gs, nm, fs, f1, f2, g1, g2, g3, g4, hnm, hk2, gc2⟩ | ⟨x, xs, es, f1, f2, g1, gl, gc2⟩
      · exact .inl ⟨q, Rp.sh hs _ _ h0⟩
      · have ne : x ≠ a := fun z => by subst z; rw [ho] at g2; cases g2
        exact .inr (.inl ⟨x, xs, es, f1, f2, by rw [upd_ne ne]; exact g1, own x i _ g2, gl, fun m v2 d2 y1 y2 => Rp.sh hs _ _ (gc2 m v2 d2 y1 y2)⟩)
      · have ne : x ≠ a := fun z => by subst z; rw [ho] at g2; cases g2
        exact .inr (.inr (.inl ⟨x, kvs, es, f1, f2, by rw [upd_ne ne]; exact g1, own x i _ g2, gp.sh hs⟩))
      · have ne : x ≠ a := fun z => by subst z; rw [ho] at g2; cases g2
        have ne2 : dx ≠ a := fun z => by subst z; rw [ho] at g4; cases g4
        exact .inr (.inr (.inr (.inl ⟨x, C, dx, gs, nm, fs, f1, f2, by rw [upd_ne ne]; exact g1, own x i _ g2, by rw [upd_ne ne2]; exact g3, own dx i _ g4, hnm, hk2, fun m v2 d2 y1 y2 => Rp.sh hs _ _ (gc2 m v2 d2 y1 y2)⟩)))
      · exact .inr (.inr (.inr (.inr ⟨x, xs, es, f1, f2, g1.sh hs, gl, fun m v2 d2 y1 y2 => Rp.sh hs _ _ (gc2 m v2 d2 y1 y2)⟩)))
    · have hl := (List.getElem?_eq_some_iff.mp z2).1
      rw [List.length_append, List.length_singleton] at hl
      have en : n = ds.length := by omega
      subst en
      rw [List.getElem?_append_right (by omega), show ds.length - vs.length = 0 by omega] at z1
      rw [List.getElem?_append_right (Nat.le_refl _), Nat.sub_self] at z2
      cases z1; cases z2
      have h2 := OwR.go (o' := fun p => Ow.own i ([ds.length] ++ p)) hs (fun x u p z1 z2 => ⟨by
        have ne : x ≠ a := fun z => by subst z; rw [ho] at z2; cases z2
        rw [upd_ne ne]; exact z1, by
        show adoO i ds.length T (ω x) = _
        rw [z2]
        show (if T = T then Ow.own i (ds.length :: p) else _) = _
        rw [if_pos rfl]; rfl⟩) _ _ _ _ h
      exact OwR.shift 1 [] v d h2
  · rw [List.getElem?_set_ne hk] at e
    obtain ⟨v', hv', ho'⟩ := rel.cell k c e
    refine ⟨v', hv', OwR.go hs (fun x u p z1 z2 => ⟨?_, own x k p z2⟩) _ _ _ _ ho'⟩
    have ne : x ≠ a := fun z => by subst z; rw [ho] at z2; cases z2; exact hk rfl
    rw [upd_ne ne]; exact z1
/-- x.append(a display) -/
def fAppL (i : Nat) (fa : FA) : FE := fun env R => isOwn2 (getC env i) ∧ fa env fun rs e => match rs with
  | [.v 1 d] => grow2 (getC e i) fun ds => ds.length < sizeLine ∧ R (.v 0 .none) (e.set i (some ⟨2, .list (ds ++ [d])⟩))
  | _ => False
/-- x[-1][j] -/
def fIx2 (i : Nat) (fj : FE) (j : Nat) : FE := fun env R => isOwn2 (getC env i) ∧ fj env fun rj e => rj.d = .int (-1) ∧ onLast (getC e i) fun _ es => ∃ d, es[j]? = some d ∧ R (.v 0 d) e
/-- x[-1][j] = e -/
def fSetIx2 (i : Nat) (fa fj : FE) (j : Nat) : FS := fun env k => fa env fun r e1 => noB [r] ∧ isOwn2 (getC e1 i) ∧ fj e1 fun rj e2 => rj.d = .int (-1) ∧ onLast (getC e2 i) fun ds0 es => j < es.length ∧ k.nx (e2.set i (some ⟨2, .list (ds0 ++ [.list (es.set j r.d)])⟩))
end
section
variable {X : Cx} {io : Nat → Bool} {e n : Expr} {es : List Expr} {fa : FA} {fe fj : FE} {x : Str} {p px pj ps ps1 pos pos' apos cpos : Pos} {k : Nat}
end
end Pv

/-! Px1: an exception that is caught, kept in a name. -/
namespace Pv
open PySem PySem.Spec PyProof.Rows L2
open PySem.W (Looks exmAny exmOne exm_cls exmAny_cons)
section
variable {M : Model} {K : PySem.W.Frag}
end
/-- the classes that an except clause names -/
inductive NamesL (X : Cx) : List Expr → List Value → Prop
  | nil : NamesL X [] []
  | cons {x : Str} {c : Value} {np : Pos} {es : List Expr} {cs : List Value} (h : L2.Names X x c) (t : NamesL X es cs) : NamesL X (.Name x np :: es) (c :: cs)
inductive ClsE (X : Cx) : Expr → List Value → Prop
  | one {x : Str} {c : Value} {np : Pos} (h : L2.Names X x c) : ClsE X (.Name x np) [c]
  | tup {es : List Expr} {cs : List Value} {k : _} {p : Pos} (h : NamesL X es cs) (hl : cs.length ≤ sizeLine) (hst : ∀ e es', (∃ pre, es = pre ++ e :: es') → starEach (e :: es') X.env = (false, eval e X.env) :: starEach es' X.env) : ClsE X (.Tuple es k p) cs
section
variable {X : Cx} {pins : List (Addr × Obj)} {σ : L2.St} {H : Hp} {s : Shared}
end
/-- what the clause 'except (..) as x' wishes of an exception of the body: it is tracked, slot i is x's -/
def wAsT (K : PySem.W.Frag) (cs : List Value) (i : Nat) (ts : Addr → Value → Option Addr → TS) (Wout : WX) (D : Ends) : WX := fun cls d σ H =>
  ∃ b, exmAny K cls cs = some b ∧ (b = true → ∀ a, H a = none → ts a cls d { nx := fun σ' H' => D.nx (σ'.set i none) H', rt := D.rt, bk := fun σ' H' => D.bk (σ'.set i none) H', ct := fun σ' H' => D.ct (σ'.set i none) H' } (σ.set i (some (.ref a))) (upd H a (ExT cls d a))) ∧
    (b = false → Wout cls d σ H)
section
variable {X : Cx} {n : Str} {te : Expr} {cs : List Value} {i : Nat} {body suite : List Stmt} {b₀ : Stmt} {pos pos' : Pos} {tb : WX → TS} {ts : Addr → Value → Option Addr → TS} {Wout : WX}
end
end Pv

/-! Pv30: defs that raise. A raise is read as a result of the mark .b e.length 0 (excD ..), e the slots then. -/
namespace Pv
open PySem PySem.Spec PyProof.Rows L2
section
variable {K : Fg} {ω : Om} {H : Hp} {σ : Sg} {env : Env} {T : Nat}
end
/-! ### promises of defs that may raise -/
def spX (K : Fg) (ms : List Bool) (φ : Phi) : Sp := fun vs H Q E => ∃ (ω : Om) (args : List Cell) (R : Cell → List Cell → Prop),
  ArgR K ω H 0 vs ms args ∧ (Tabs K ω H ∧ Free ω 0) ∧ φ args R ∧
  (∀ v H' ω' c ios, (Tabs K ω' H' ∧ Step ω H ω' H') → IoOut K ω' H' 0 vs ms ios → OwR K ω' H' c.k (Ow.tmp 0) [] v c.d → c.k ≠ 9 → R c ios → Q v H') ∧
  ∀ C d H' ω' nm fs ios, (Tabs K ω' H' ∧ Step ω H ω' H') → IoOut K ω' H' 0 vs ms ios → NmC K nm C → XFs ω' H' d fs → R ⟨9, excD nm fs⟩ ios → E (.ref C) d H'
/-- the wish behind a raise -/
def xr (k : Kt) (e : Env) (d : D) : Prop := k.rt (.b e.length 0 d) e
def KX (K : Fg) (io : Nat → Bool) (ω : Om) (σ : Sg) (H : Hp) (k : Kt) (W : WX) : Prop := ∀ σ' H' ω' env' C d nm fs, Rel K ω' env' σ' H' → Step ω H ω' H' → Free ω' 1 → Keep io σ σ' → NmC K nm C → XFs ω' H' d fs → xr k env' (excD nm fs) → W (.ref C) d σ' H'
theorem KX.next {K : Fg} {io : Nat → Bool} {ω ω1 : Om} {σ σ1 : Sg} {H H1 : Hp} {k : Kt} {W : WX} (h : KX K io ω σ H k W) (st : Step ω H ω1 H1) (kp : Keep io σ σ1) : KX K io ω1 σ1 H1 k W :=
  fun σ' H' ω' env' C d nm fs a b c e n x q => h σ' H' ω' env' C d nm fs a (st.trans b) c (kp.trans e) n x q
theorem KX.of {K : Fg} {io : Nat → Bool} {ω : Om} {σ : Sg} {H : Hp} {k k' : Kt} {W : WX} (h : KX K io ω σ H k W) (e : k'.rt = k.rt) : KX K io ω σ H k' W :=
  fun σ' H' ω' env' C d nm fs a b c f n x q => h σ' H' ω' env' C d nm fs a b c f n x (by unfold xr at q ⊢; rw [← e]; exact q)
def SndX (K : Fg) (io : Nat → Bool) (W : WX) (t : TS) (f : FS) : Prop := ∀ (ω : Om) (env : Env) (σ : Sg) (H : Hp) (E : Ends) (k : Kt), Rel K ω env σ H → Free ω 0 → f env k → KR K io ω σ H k E → KX K io ω σ H k W → t E σ H
structure SX1 (X : Cx) (W : WX) (io : Nat → Bool) (st : Stmt) (f : FS) : Prop where
  ex : ∃ t : TS, PS X st t ∧ SndX X.K io W t f
structure SXs (X : Cx) (W : WX) (io : Nat → Bool) (st : List Stmt) (f : FS) : Prop where
  ex : ∃ t : TS, PSs X st t ∧ SndX X.K io W t f
section
variable {K : Fg} {io : Nat → Bool} {W : WX}
end
section
variable {X : Cx} {W : WX} {io : Nat → Bool} {st : Stmt} {sa sb rest : List Stmt} {f g : FS} {pos : Pos}
end
end Pv

/-! Pv31: defs that raise, their calls, own exception classes, try .. except. -/
namespace Pv
open PySem PySem.Spec PyProof.Rows L2
/-! ### the rule of a def that may raise -/
section
variable {P : Program} {w : World} {K : Fg} {mg : Str → Option Value} {base : Heap} {CX : CXT} {k : Nat} {f : Addr} {fd : FuncData} {ps : List Str} {sp : Sp}
/-- what its body is to show: a raise is the mark 9 of what it gives -/
def defX (ms : List Bool) (R : Cell → List Cell → Prop) : Kt where
  nx := fun e => ioC ms e fun ios => R (sh .none) ios
  rt := fun r e => match r with
    | .v k d => if k = 9 then False else ioC ms e fun ios => R ⟨k, d⟩ ios
    | .b j _ d => j = e.length ∧ ioC ms e fun ios => R ⟨9, d⟩ ios
end
/-- a def that may be called by its name, and may raise -/
structure Fnx (P : Program) (w : World) (K : Fg) (mg : Str → Option Value) (base : Heap) (k : Nat) (x : Str) (ms : List Bool) (φ : Phi) : Prop where
  ex : ∃ (f : Addr) (fd : FuncData) (ps : List Str), FnG P w K mg base (L2.CX P w) k f fd ps (spX K ms φ) ∧ mg x = some (.ref f) ∧ PySem.W.keepIn K (.ref f) = true ∧ Binds K fd ps []
structure FnxK (P : Program) (w : World) (K : Fg) (mg : Str → Option Value) (base : Heap) (k : Nat) (x : Str) (m n : Nat) (ks : List Str) (perm : List Nat) (φ : Phi) : Prop where
  ex : ∃ (f : Addr) (fd : FuncData) (ps : List Str), FnG P w K mg base (L2.CX P w) k f fd ps (spX K (List.replicate m false) φ) ∧ mg x = some (.ref f) ∧ PySem.W.keepIn K (.ref f) = true ∧ KwB K fd ps n ks perm
theorem fng_calm {P : Program} {w : World} {K : Fg} {mg : Str → Option Value} {base : Heap} {k : Nat} {f : Addr} {fd : FuncData} {ps : List Str} {ms : List Bool} {φ ψ : Phi} (F : FnG P w K mg base (L2.CX P w) k f fd ps (spX K ms φ))
    (h : ∀ args R, ψ args R → φ args fun c ios => c.k ≠ 9 ∧ R c ios) : FnG P w K mg base CX0 k f fd ps (spOf K ms ψ) := by
  have hs : ∀ {vs H Q E}, spOf K ms ψ vs H Q E → spX K ms φ vs H Q (fun _ _ _ => False) := fun {vs H Q E} ⟨ω, args, R, a, b, c, d⟩ =>
    ⟨ω, args, _, a, b, h args R c, fun v H' ω' c ios z1 z2 z3 _ z5 => d v H' ω' c ios z1 z2 z3 z5.2, fun C d' H' ω' nm fs ios z1 z2 z3 z4 z5 => z5.1 rfl⟩
  refine ⟨fun q => F.size (hs q), fun B fr t H as us vs Q E hG hr en bd rv q => ?_⟩
  refine codeAny_mono (F.goes B fr t H as us vs Q _ hG hr en bd rv (hs q)) fun r s' z => ?_
  match r, z with
  | .ok (.ret u), z => exact z
  | .ok .next, z => exact z.elim
  | .ok .brk, z => exact z.elim
  | .ok .cont, z => exact z.elim
  | .error _, z =>
    obtain ⟨_, _, _, _, _, _, _, _, _, _, _, _, z⟩ := z
    exact z.elim
/-- a def that doesn't raise here -/
theorem Fnx.calm {P : Program} {w : World} {K : Fg} {mg : Str → Option Value} {base : Heap} {k : Nat} {x : Str} {ms : List Bool} {φ ψ : Phi} (F : Fnx P w K mg base k x ms φ)
    (h : ∀ args R, ψ args R → φ args fun c ios => c.k ≠ 9 ∧ R c ios) : Fnc P w K mg base k x ms ψ := by
  obtain ⟨f, fd, ps, F, a, b, c⟩ := F.ex
  exact ⟨f, fd, ps, fng_calm F h, a, b, c⟩
/-! ### its calls -/
section
variable {X : Cx} {k n : Nat} {f : Addr} {fd : FuncData} {ps ks : List Str} {sp : Sp} {E : L2.St → XK} {x : Str} {p pos : Pos} {e : Expr} {es : List Expr} {kws : List Keyword} {t tk : TA} {g : List Value → List Value → List Value} {gV : List V → List V → List V}
def tCallKS (n m : Nat) (sp : Sp) (gV : List V → List V → List V) (E : L2.St → XK) (t tk : TA) : TE := fun σ H Q => t σ H fun vs H1 => tk σ H1 fun zs H2 => vs.length = n ∧ zs.length = m ∧ sp (gV vs zs) H2 Q (E σ)
end
/-- raised, or given -/
@[irreducible] def rz (c : Cell) (A B : Prop) : Prop := if c.k = 9 then A else B
/-- a call of a def that may raise; g: what becomes of what it gives -/
def fCallX (ms : List Bool) (φ : Phi) (fa : FA) (g : Cell → FS) : FS := fun env k => fa env fun rs e => distinct (ioIx ms rs) = true ∧
  match mkArgs ms rs with
  | some args => apP φ args fun c ios => rz c (xr k (putIos e ms rs ios) c.d) (g c (putIos e ms rs ios) k)
  | none => False
def fCallKX (n m : Nat) (perm : List Nat) (φ : Phi) (fa fk : FA) (g : Cell → FS) : FS := fun env k => fa env fun rs e => noB rs ∧ rs.length = n ∧ fk e fun ks e1 => noB ks ∧ ks.length = m ∧
  apP φ ((permD perm (dsOf rs ++ dsOf ks)).map sh) fun c _ => rz c (xr k e1 c.d) (g c e1 k)
def gDrop : Cell → FS := fun _ e k => k.nx e
def gAsg (i : Nat) : Cell → FS := fun c e k => k.nx (e.set i (some (sh c.d)))
def gRet : Cell → FS := fun c e k => k.rt (.v c.k c.d) e
section
variable {K : Fg} {io : Nat → Bool} {W : WX}
/-- what becomes of it, over the heap -/
structure GOk (K : Fg) (io : Nat → Bool) (g : Cell → FS) (u : Ends → Sg → V → Hp → Prop) : Prop where
  run : ∀ ω σ H E k v H' ω' env' c, KR K io ω σ H k E → Rel K ω' env' σ H' → Step ω H ω' H' → Free ω' 1 → Free ω 0 → OwR K ω' H' c.k (Ow.tmp 0) [] v c.d → g c env' k → u E σ v H'
end
section
variable {X : Cx} {W : WX} {io : Nat → Bool} {k j m n nk : Nat} {x y : Str} {ms : List Bool} {φ : Phi} {e : Expr} {es : List Expr} {kws : List Keyword} {fa fk : FA} {ks : List Str} {perm : List Nat} {p pos pos' pos2 : Pos}
end
end Pv

/-! Px: own exception classes over any built-in base of which the kit has the facts (ValueError, LookupError). -/
namespace Pv
open PySem PySem.Spec PyProof.Rows L2
/-- a built-in base of exceptions -/
structure BaseE (B NB IB : String) (bmB : List Value) : Prop where
  fb : ExcBaseFacts B NB IB bmB
  sf : StoreFacts B bmB "object.__setattr__" "object"
  ty : typeOf (.type B) = pure (.type "type")
  boot : bootBuiltins (Str.ofString B) = some (.type B)
abbrev mroVE : List Value := [.type "ValueError", .type "Exception", .type "BaseException", .type "object"]
abbrev mroLE : List Value := [.type "LookupError", .type "Exception", .type "BaseException", .type "object"]
/-- an own class over it, as the written part says -/
structure OexG (NB : String) (bmB : List Value) (K : Fg) (C : Addr) : Prop where
  cl : ∃ nm q N bs bm sn sub ab col dd k0 k1 k2 k3 k5, K.lookup C = some (excClassObj nm q C N bs bm true sn sub ab col dd k0 k1 k2 k3 k5 NB) ∧ PySem.W.excTail bmB bm = true
  sa : PySem.W.findIn K (.ref C) "__setattr__" = some (some (.builtin "object.__setattr__"))
  exC : PySem.W.subIn K (.ref C) (.type "BaseException") = some true
  tyC : PySem.W.typeIn K (.ref C) = some (.type "type")
  kC : PySem.W.keepIn K (.ref C) = true
section
variable {NB : String} {bmB : List Value} {K : Fg} {C : Addr}
theorem OexG.cd (T : OexG NB bmB K C) : ∃ cd, PySem.W.clsIn K C = some cd ∧ cd.hasDict = true ∧ PySem.W.excOver K C bmB = true := by
  obtain ⟨nm, q, N, bs, bm, sn, sub, ab, col, dd, k0, k1, k2, k3, k5, e, ht⟩ := T.cl
  have hc : PySem.W.clsIn K C = some { name := nm, bases := bs, mro := .ref C :: bm, ns := N, qualname := q, hasDict := true, slotNames := sn, subclasses := sub, abstract := ab, collection := col, hasDel := false } := by
    unfold PySem.W.clsIn
    rw [e] <;> rfl
  refine ⟨_, hc, rfl, ?_⟩
  unfold PySem.W.excOver
  rw [hc]
  show ((C == C) && PySem.W.excTail bmB bm) = true
  rw [ht, beq_self_eq_true]; rfl
end
section
open Builtin Builtin.ObjectAttr
variable {B NB IB : String} {bmB : List Value}
end
section
variable {X : Cx} {pins : List (Addr × Obj)} {σ : L2.St} {H : Hp} {s : Shared} {a C : Addr} {f : Str} {y : V} {u : Value} {B NB IB : String} {bmB : List Value} {A : Around} {E : Value → Shared → Prop}
end
/-! ### readings -/
def tBeI (NB : String) (bmB : List Value) (K : Fg) (ta : TA) : TE := fun σ H Q => ta σ H fun vs H1 => ∃ (a C : Addr) (ws : List V), vs = .ref a :: ws ∧ ws.length ≤ 1000 ∧ OexG NB bmB K C ∧ H1 a = some (exo a C none) ∧ Q .non H1
def tBst (NB : String) (bmB : List Value) (K : Fg) (f : Str) (to te : TE) : TS := fun D σ H => te σ H fun y H1 => to σ H1 fun x H2 => ∃ a C : Addr, x = .ref a ∧ OexG NB bmB K C ∧ PySem.W.findIn K (.ref C) f = some none ∧
  H2 a = some (exo a C none) ∧ ∀ dx, H2 dx = none → dx ≠ a → D.nx σ (upd (upd H2 dx (exd dx [(f, y)])) a (exo a C (some dx)))
section
variable {X : Cx} {o e : Expr} {es : List Expr} {to te : TE} {ta : TA} {f : Str} {p p' p1 p2 pos : Pos} {B NB IB : String} {bmB : List Value}
end
end Pv

/-! Pv32: own exception classes: raise C(e), try .. except .. as x, x.f, isinstance(x, C). -/
namespace Pv
open PySem PySem.Spec PyProof.Rows L2
/-! ### C(e), C an own class whose __init__ keeps one field -/
def InitV (x : V) : Prop := (∃ i : Int, x = .int i ∧ i.natAbs.log2 < 1920) ∨ ∃ s : Str, x = .str s ∧ s.length ≤ 1000000 ∧ (reprText s).length ≤ 1000000
def spI (NB : String) (bmB : List Value) (K : Fg) (fld : Str) : Sp := fun vs H Q _ => ∃ (a C : Addr) (x : V), vs = [.ref a, x] ∧ InitV x ∧ OexG NB bmB K C ∧ PySem.W.findIn K (.ref C) fld = some none ∧ H a = some (exo a C none) ∧
  ∀ dx, H dx = none → dx ≠ a → Q .non (upd (upd H dx (exd dx [(fld, x)])) a (exo a C (some dx)))
structure XcI (P : Program) (w : World) (K : Fg) (mg : Str → Option Value) (base : Heap) (x fld : Str) : Prop where
  ex : ∃ (B NB IB : String) (bmB : List Value) (C fI : Addr) (fd : FuncData), BaseE B NB IB bmB ∧ NmC K x C ∧ mg x = some (.ref C) ∧ OexG NB bmB K C ∧ PySem.W.findIn K (.ref C) fld = some none ∧ PySem.W.findIn K (.ref C) "__init__" = some (some (.ref fI)) ∧ PySem.W.typeIn K (.ref fI) = some (.type "function") ∧
    FnOk P w K mg base (L2.CX P w) 1 fI fd ["self", fld] (spI NB bmB K fld) ∧ Binds K fd ["self", fld] []
def okX : D → Prop
  | .int i => i.natAbs.log2 < 1920
  | .str s => s.length ≤ 1000000 ∧ (reprText s).length ≤ 1000000
  | _ => False
def fRaise1 (nm fld : Str) (fa : FA) : FS := fun env k => fa env fun rs e => match rs with
  | [r] => okX r.d ∧ xr k e (excD nm [(fld, r.d)])
  | _ => False
section
variable {X : Cx} {W : WX} {io : Nat → Bool} {x fld : Str} {e : Expr} {fa : FA} {p pos pos2 : Pos} {k : Nat}
end
/-! ### try .. except (..) as x -/
/-- L: of which classes an exception of the body may be, and that the clause takes it -/
def fTryAs (L : List (Str × Bool)) (i : Nat) (fb fs : FS) : FS := fun env k => fb env { k with rt := fun r e => match r with
  | .v n d => k.rt (.v n d) e
  | .b j n d => (j ≠ e.length ∧ k.rt (.b j n d) e) ∨ (j = e.length ∧ ∃ nm xs, d = excD nm xs ∧ L.lookup nm = some true ∧
      fs (e.set i (some (sh d))) { nx := fun e' => k.nx (e'.set i none), rt := k.rt, bk := fun e' => k.bk (e'.set i none), ct := fun e' => k.ct (e'.set i none) }) }
/-- which classes the clause takes -/
def Exm (K : Fg) (cs : List Value) (L : List (Str × Bool)) : Prop := ∀ nm b C, L.lookup nm = some b → NmC K nm C → PySem.W.exmAny K (.ref C) cs = some b
section
variable {X : Cx} {n : Str} {te : Expr} {cs : List Value} {i : Nat} {io : Nat → Bool} {body suite : List Stmt} {b₀ : Stmt} {pos pos' : Pos} {fb fs : FS} {L : List (Str × Bool)}
end
/-! ### x.f, x an exception that was caught -/
/-- the classes whose instances' field n may be read -/
def XfT (K : Fg) (T : List Str) (n : Str) : Prop := ∀ nm ∈ T, ∀ C, NmC K nm C → XfC K C ∧ PySem.W.findIn K (.ref C) n = some none
def fXfld (T : List Str) (n : Str) (fa : FE) : FE := fun env R => fa env fun r e => okb e r ∧ ∃ nm d, r.d = excD nm [(n, d)] ∧ nm ∈ T ∧ R (.v 0 d) e
section
variable {X : Cx} {e : Expr} {fa : FE} {T : List Str} {n : Str} {pos : Pos}
def tXfld (K : Fg) (n : Str) (te : TE) : TE := fun σ H Q => te σ H fun x H1 => ∃ (a C : Addr) (dd : Addr) (fs : List (Str × V)) (v : V), x = .ref a ∧ H1 a = some (ExT (.ref C) (some dd) a) ∧ XfC K C ∧ PySem.W.findIn K (.ref C) n = some none ∧ H1 dd = some (.xd fs) ∧ fs.lookup n = some v ∧ Q v H1
theorem XVal.rp {K : Fg} {ω : Om} {H : Hp} {v : V} {d : D} (h : XVal v d) : Rp K ω H v d := by
  cases h with
  | int i => exact .int i
  | str s => exact .str s
end
end Pv

/-! Pv33: isinstance(x, C), (C, ..): x None or an exception that was caught, the classes own ones or built-in ones. -/
namespace Pv
open PySem PySem.Spec PyProof.Rows L2
/-- what isinstance says of None and of the exceptions -/
structure IsT (K : Fg) (cs : List Value) (L : List (Str × Bool)) : Prop where
  non : PySem.W.kitAny K (.type "NoneType") cs = some false
  exc : ∀ nm b C, L.lookup nm = some b → NmC K nm C → ExcC K C ∧ PySem.W.kitAny K (.ref C) cs = some b
def DdOk (H : Hp) (dd : Option Addr) : Prop := dd = none ∨ ∃ (dx : Addr) (fs : List (Str × V)), dd = some dx ∧ H dx = some (.xd fs)
theorem XFs.dd {ω : Om} {H : Hp} {dd : Option Addr} {fs : List (Str × D)} (h : XFs ω H dd fs) : DdOk H dd := by
  rcases h with ⟨_, z⟩ | ⟨dx, f, x, d, e1, _, e3, _, _⟩
  · exact .inl z
  · exact .inr ⟨dx, _, e1, e3⟩
/-- the instance, as isinstance asks of it -/
def IsaV (K : Fg) (H : Hp) (x : V) (t : Value) : Prop := (x = .non ∧ t = .type "NoneType") ∨ ∃ (a C : Addr) (dd : Option Addr), x = .ref a ∧ t = .ref C ∧ H a = some (ExT (.ref C) dd a) ∧ DdOk H dd ∧ ExcC K C
section
variable {X : Cx}
def rIsE1 (K : Fg) : List V → Hp → VK → Prop := fun xs H Q => ∃ (x c : V) (t u : Value) (b : Bool), xs = [x, c] ∧ ClsV c u ∧ IsaV K H x t ∧ PySem.W.kitOne K t u = some b ∧ Q (.bl b) H
def rIsE2 (K : Fg) : List V → Hp → VK → Prop := fun xs H Q => ∃ (x : V) (tp : Addr) (cs : List V) (t : Value) (us : List Value) (b : Bool), xs = [x, .ref tp] ∧ H tp = some (.tup cs) ∧ Paired ClsV cs us ∧ IsaV K H x t ∧ PySem.W.kitAny K t us = some b ∧ Q (.bl b) H
/-- the classes that are named -/
inductive PCls (X : Cx) : List Expr → List V → List Value → Prop
  | nil : PCls X [] [] []
  | cons {x : Str} {v : V} {c : Value} {np : Pos} {es : List Expr} {vs : List V} {cs : List Value} (h : PE X (.Name x np) (tC v)) (k : ClsV v c) (t : PCls X es vs cs) (he : starEach (.Name x np :: es) X.env = (false, eval (.Name x np) X.env) :: starEach es X.env) : PCls X (.Name x np :: es) (v :: vs) (c :: cs)
theorem PCls.pa : ∀ {es : List Expr} {vs : List V} {cs : List Value}, PCls X es vs cs → PA X es (fun σ H Q => Q vs H)
  | _, _, _, .nil => pa_nil
  | _, _, _, .cons h k t he => pa_cons h t.pa he
def oIsX (L : List (Str × Bool)) : O1 := fun r R => (r.d = .none ∧ R 0 (.bool false)) ∨ ∃ nm fs b, r.d = excD nm fs ∧ L.lookup nm = some b ∧ R 0 (.bool b)
end
end Pv

/-! Pv34: what a law's text says of its own exception classes. -/
namespace Pv
open PySem PySem.Spec PyProof.Rows L2
/-- a def within a class -/
def clsSt (st : Stmt) (i : Nat) : Stmt := match st with
  | .ClassDef (body := b) .. => b.getD i (.Pass ⟨0, 0, 0, 0⟩)
  | _ => .Pass ⟨0, 0, 0, 0⟩
structure ClX (K : Fg) (mg : Str → Option Value) (x : Str) (C : Addr) : Prop where
  nm : NmC K x C
  gl : mg x = some (.ref C)
  xf : XfC K C
  is : ExcC K C
/-- a promise where nothing is raised -/
def calmP (φ : Phi) : Phi := fun args R => φ args fun c ios => c.k ≠ 9 ∧ R c ios
theorem Fnx.calmed {P : Program} {w : World} {K : Fg} {mg : Str → Option Value} {base : Heap} {k : Nat} {x : Str} {ms : List Bool} {φ : Phi} (F : Fnx P w K mg base k x ms φ) : Fnc P w K mg base k x ms (calmP φ) := F.calm fun _ _ h => h
theorem FnxK.calmed {P : Program} {w : World} {K : Fg} {mg : Str → Option Value} {base : Heap} {k m n : Nat} {x : Str} {ks : List Str} {perm : List Nat} {φ : Phi} (F : FnxK P w K mg base k x m n ks perm φ) : FncK P w K mg base k x m n ks perm (calmP φ) := by
  obtain ⟨f, fd, ps, F, a, b, c⟩ := F.ex
  exact ⟨f, fd, ps, fng_calm F fun _ _ h => h, a, b, c⟩
/-- the text that an __init__ makes -/
def JP (x : V) (t : TE) : Prop := ∀ (a : Addr) (H : Hp) (Q' : VK), (∀ y : Str, y.length ≤ 1000000 → Q' (.str y) H) → t [some (.ref a), some x] H Q'
end Pv

/-! Pv35: methods of own instances, called. -/
namespace Pv
open PySem PySem.Spec PyProof.Rows L2
/-- an own class that a module's name stands for -/
structure ClO (K : Fg) (mg : Str → Option Value) (nm : Str) (C : Addr) : Prop where
  is_ : NmC K nm C
  gl : mg nm = some (.ref C)
  cl : L2.Cls K C
def isInsN (nm m : Str) (d : D) : Prop := ∃ fs, d = insD nm fs ∧ fs.lookup m = none
theorem isInsN_mk {nm m : Str} {fs : List (Str × D)} (h : fs.lookup m = none) : isInsN nm m (insD nm fs) := ⟨fs, rfl, h⟩
section
variable {K : Fg} {ω : Om} {H : Hp} {env : Env} {σ : Sg}
theorem Rp.ins_ {v : V} {nm : Str} {fs : List (Str × D)} (h : Rp K ω H v (insD nm fs)) : ∃ a C dx gs, v = .ref a ∧ H a = some (.ins C dx gs) ∧ NmC K nm C ∧ gs.map Prod.fst = fs.map Prod.fst := by
  generalize e : insD nm fs = d at h
  cases h with
  | ins h1 h2 h3 h4 h5 h6 =>
    obtain ⟨rfl, rfl⟩ := insD_inj e
    exact ⟨_, _, _, _, rfl, h1, h5, h6.keys⟩
  | scr _ => exact (scr_not_ins e.symm).elim
  | dct _ _ _ => exact (dct_not_ins e.symm).elim
  | exc _ _ _ _ => exact (ins_not_exc e).elim
  | _ => cases e
theorem OwR.ins_ {k : Nat} {o : List Nat → Ow} {p : List Nat} {v : V} {nm : Str} {fs : List (Str × D)} (h : OwR K ω H k o p v (insD nm fs)) : ∃ a C dx gs, v = .ref a ∧ H a = some (.ins C dx gs) ∧ NmC K nm C ∧ gs.map Prod.fst = fs.map Prod.fst := by
  cases k with
  | zero => exact Rp.ins_ h
  | succ k =>
    rcases h with ⟨_, h⟩ | ⟨_, _, _, _, e2, _⟩ | ⟨_, _, _, _, e2, _⟩ | ⟨a, C, dx, gs, nm', fs', e1, e2, h1, _, _, _, hn, hk, _⟩ | ⟨_, _, _, _, e2, _⟩
    · exact Rp.ins_ h
    · cases e2
    · exact (dct_not_ins e2.symm).elim
    · obtain ⟨rfl, rfl⟩ := insD_inj e2
      exact ⟨a, C, dx, gs, e1, h1, hn, hk⟩
    · exact (ins_not_otp e2).elim
end
/-- the receiver of a method: an instance of the class nm that has no field m -/
def fRecv (nm m : Str) (fo : FE) : FE := fun env R => fo env fun r e => isInsN nm m r.d ∧ R r e
def tMG (C : Addr) (m : Str) (sp : Sp) (E : L2.St → XK) (to : TE) (t : TA) : TE := fun σ H Q => to σ H fun x H1 => ∃ a dx fs, x = .ref a ∧ H1 a = some (.ins C dx fs) ∧ fs.lookup m = none ∧ t σ H1 fun vs H2 => sp (x :: vs) H2 Q (E σ)
def tMGK (C : Addr) (m : Str) (n : Nat) (sp : Sp) (gV : List V → List V → List V) (E : L2.St → XK) (to : TE) (tk : TA) : TE := fun σ H Q => to σ H fun x H1 => ∃ a dx fs, x = .ref a ∧ H1 a = some (.ins C dx fs) ∧ fs.lookup m = none ∧
  tk σ H1 fun zs H2 => zs.length = n ∧ sp (gV [x] zs) H2 Q (E σ)
section
variable {X : Cx} {CX : CXT} {k : Nat} {f C : Addr} {fd : FuncData} {ps ks : List Str} {sp : Sp} {E : L2.St → XK} {m : Str} {apos pos : Pos} {o e : Expr} {es : List Expr} {kws : List Keyword} {to : TE} {t tk : TA} {g : List Value → List Value → List Value} {gV : List V → List V → List V}
end
/-- o.m(k = v, ..), the values then in the parameters' order -/
def fMethK (n : Nat) (perm : List Nat) (φ : Phi) (fo : FE) (fk : FA) : FE := fun env R => fo env fun r e0 => fk e0 fun ks e => noB ks ∧ ks.length = n ∧ match refr e r with
  | some r' => match mkArgs [true] [r'] with
    | some args => apP φ (args ++ (permD perm (dsOf ks)).map sh) fun c ios => R (.v c.k c.d) (putIos e [true] [r'] ios)
    | none => False
  | none => False
section
variable {K : Fg}
end
/-- a method that may be called -/
structure Mth (P : Program) (w : World) (K : Fg) (mg : Str → Option Value) (base : Heap) (k : Nat) (nm m : Str) (ms : List Bool) (φ : Phi) : Prop where
  ex : ∃ (C f : Addr) (fd : FuncData) (ps : List Str), NmC K nm C ∧ Cls K C ∧ Meth K C m f ∧ FnG P w K mg base CX0 k f fd ps (spOf K ms φ) ∧ Binds K fd ps []
structure MthX (P : Program) (w : World) (K : Fg) (mg : Str → Option Value) (base : Heap) (k : Nat) (nm m : Str) (ms : List Bool) (φ : Phi) : Prop where
  ex : ∃ (C f : Addr) (fd : FuncData) (ps : List Str), NmC K nm C ∧ Cls K C ∧ Meth K C m f ∧ FnG P w K mg base (L2.CX P w) k f fd ps (spX K ms φ) ∧ Binds K fd ps []
structure MthK (P : Program) (w : World) (K : Fg) (mg : Str → Option Value) (base : Heap) (k : Nat) (nm m : Str) (ks : List Str) (perm : List Nat) (φ : Phi) : Prop where
  ex : ∃ (C f : Addr) (fd : FuncData) (ps : List Str), NmC K nm C ∧ Cls K C ∧ Meth K C m f ∧ FnG P w K mg base CX0 k f fd ps (spOf K (true :: List.replicate perm.length false) φ) ∧ KwB K fd ps 1 ks (0 :: perm.map (· + 1))
structure MthXK (P : Program) (w : World) (K : Fg) (mg : Str → Option Value) (base : Heap) (k : Nat) (nm m : Str) (ks : List Str) (perm : List Nat) (φ : Phi) : Prop where
  ex : ∃ (C f : Addr) (fd : FuncData) (ps : List Str), NmC K nm C ∧ Cls K C ∧ Meth K C m f ∧ FnG P w K mg base (L2.CX P w) k f fd ps (spX K (true :: List.replicate perm.length false) φ) ∧ KwB K fd ps 1 ks (0 :: perm.map (· + 1))
/-- a method that doesn't raise here -/
theorem MthX.calm {P : Program} {w : World} {K : Fg} {mg : Str → Option Value} {base : Heap} {k : Nat} {nm m : Str} {ms : List Bool} {φ ψ : Phi} (F : MthX P w K mg base k nm m ms φ)
    (h : ∀ args R, ψ args R → φ args fun c ios => c.k ≠ 9 ∧ R c ios) : Mth P w K mg base k nm m ms ψ := by
  obtain ⟨C, f, fd, ps, a, b, c, F, d⟩ := F.ex
  exact ⟨C, f, fd, ps, a, b, c, fng_calm F h, d⟩
theorem MthXK.calm {P : Program} {w : World} {K : Fg} {mg : Str → Option Value} {base : Heap} {k : Nat} {nm m : Str} {ks : List Str} {perm : List Nat} {φ ψ : Phi} (F : MthXK P w K mg base k nm m ks perm φ)
    (h : ∀ args R, ψ args R → φ args fun c ios => c.k ≠ 9 ∧ R c ios) : MthK P w K mg base k nm m ks perm ψ := by
  obtain ⟨C, f, fd, ps, a, b, c, F, d⟩ := F.ex
  exact ⟨C, f, fd, ps, a, b, c, fng_calm F h, d⟩
section
variable {X : Cx} {k j n : Nat} {nm m : Str} {ms : List Bool} {φ : Phi} {o e : Expr} {es : List Expr} {kws : List Keyword} {fo : FE} {fa fk : FA} {apos pos : Pos} {ks : List Str} {perm : List Nat}
end
end Pv

/-! Pv36: fields of own instances: looked at (shared), lent in expressions, stored at. -/
namespace Pv
open PySem PySem.Spec PyProof.Rows L2
/-! ### what a class's text says of a field -/
def ClF (K : Fg) (nm f : Str) : Prop := ∀ C, NmC K nm C → Cls K C ∧ NoAttr K C f
/-! ### x.f of a shared instance -/
def fldGo (f : Str) : List (D × D) → Option D
  | (.str g, d) :: r => bif f == g then some d else fldGo f r
  | _ => none
/-- a field, over data -/
def fldD (nm f : Str) : D → Option D
  | .dict ((.bool false, .str n) :: l) => bif n == nm then fldGo f l else none
  | _ => none
def pickF (R : D → Prop) : Option D → Prop
  | some d => R d
  | none => False
@[irreducible] def apFl (nm f : Str) (d : D) (R : D → Prop) : Prop := ∃ fs c, d = insD nm fs ∧ fs.lookup f = some c ∧ R c
theorem apFl_mk {nm f : Str} {fs : List (Str × D)} {c : D} {R : D → Prop} (h : fs.lookup f = some c) (r : R c) : apFl nm f (insD nm fs) R := by unfold apFl; exact ⟨fs, c, rfl, h, r⟩
def shr0 : Res → Prop
  | .v 0 _ => True
  | _ => False
def fFldS (nm f : Str) (fo : FE) : FE := fun env R => fo env fun r e => shr0 r ∧ apFl nm f r.d fun d => R (.v 0 d) e
section
variable {K : Fg} {ω ω' : Om} {H H' : Hp} {env : Env} {σ : Sg}
end
section
variable {X : Cx} {e : Expr} {f nm : Str} {pos : Pos} {fo : FE}
end
/-! ### a slot's own is lent for an expression -/
def isT : HO → Bool
  | .tup _ => true
  | _ => false
/-- own lists, instances, their shared leaves without lists -/
def leafI : Nat → D → Prop
  | 0, d => imm d = true
  | k + 1, d => imm d = true ∨ (∃ ds, d = .list ds ∧ ∀ x ∈ ds, leafI k x) ∨ (∃ nm fs, d = insD nm fs ∧ ∀ p ∈ fs, leafI k p.2) ∨ ∃ es, d = dtpD es
theorem leafI_imm {k : Nat} {d : D} (h : imm d = true) : leafI k d := by
  cases k with
  | zero => exact h
  | succ k => exact .inl h
theorem leafI_list {k : Nat} {ds : List D} (h : ∀ x ∈ ds, leafI k x) : leafI (k + 1) (.list ds) := .inr (.inl ⟨ds, rfl, h⟩)
theorem leafI_ins {k : Nat} {nm : Str} {fs : List (Str × D)} (h : ∀ p ∈ fs, leafI k p.2) : leafI (k + 1) (insD nm fs) := .inr (.inr (.inl ⟨nm, fs, rfl, h⟩))
def immO : Res → Prop
  | .v 0 d => imm d = true
  | .v 1 d => leafI 1 d
  | _ => False
/-- a slot that is kept beside the lent one -/
def keptC (e e' : Env) (j : Nat) : Prop := match getC e j with
  | some ⟨k + 1, d⟩ => getC e' j = some ⟨k + 1, d⟩ ∧ leafI (k + 1) d
  | _ => True
def keptL (e e' : Env) : List Nat → Prop
  | [] => True
  | j :: js => keptC e e' j ∧ keptL e e' js
theorem keptL_at {e e' : Env} {j k : Nat} {d : D} : ∀ {js : List Nat}, keptL e e' js → j ∈ js → getC e j = some ⟨k + 1, d⟩ → getC e' j = some ⟨k + 1, d⟩ ∧ leafI (k + 1) d
  | i :: js, h, hj, hc => by
    rcases List.mem_cons.mp hj with z | z
    · subst z
      have h1 : keptC e e' j := h.1
      unfold keptC at h1
      rw [hc] at h1
      exact h1
    · exact keptL_at h.2 z hc
def fLendE (i : Nat) (bx : List Nat) (fc : FE) : FE := fun env R => match getC env i with
  | some c => fc (env.set i (some (sh c.d))) fun r e' => immO r ∧ keptL env e' bx ∧ R r (lendG i bx 0 env)
  | none => False
section
variable {K : Fg} {ω ω' ω2 : Om} {H H' : Hp}
mutual
theorem Rp.immT (g : ∀ a xs, H a = some (.tup xs) → ω a = .shr → ω2 a = .shr) : ∀ {v : V} {d : D}, imm d = true → Rp K ω H v d → Rp K ω2 H v d
  | _, _, _, .non => .non
  | _, _, _, .bl b => .bl b
  | _, _, _, .int i => .int i
  | _, _, _, .str x => .str x
  | _, _, z, .lst hs ha => by cases z
  | _, _, z, .tup hs ha => .tup (hs.elim (fun h => .inl ⟨h.1, g _ _ h.1 h.2⟩) .inr) (RpAll.immT g z ha)
  | _, _, z, .scr hs => by cases z
  | _, _, z, .dct _ _ _ => by cases z
  | _, _, z, .ins _ _ _ _ _ _ => by cases z
  | _, _, z, .exc _ _ _ _ => by cases z
  | _, _, z, .otp _ _ => by cases z
theorem RpAll.immT (g : ∀ a xs, H a = some (.tup xs) → ω a = .shr → ω2 a = .shr) : ∀ {vs : List V} {ds : List D}, immAll ds = true → RpAll K ω H vs ds → RpAll K ω2 H vs ds
  | _, _, _, .nil => .nil
  | _, _, z, .cons h t => .cons (Rp.immT g ((Bool.and_eq_true _ _).mp z).1 h) (RpAll.immT g ((Bool.and_eq_true _ _).mp z).2 t)
end
mutual
theorem KyR.immT (g : ∀ a xs, H a = some (.tup xs) → ω a = .shr → ω2 a = .shr) : ∀ {v : V} {k : NestedKey}, KyR K ω H v k → KyR K ω2 H v k
  | _, _, .non => .non
  | _, _, .int i => .int i
  | _, _, .tup hs t => .tup (hs.elim (fun h => .inl ⟨h.1, g _ _ h.1 h.2⟩) .inr) (KyAll.immT g t)
theorem KyAll.immT (g : ∀ a xs, H a = some (.tup xs) → ω a = .shr → ω2 a = .shr) : ∀ {vs : List V} {ks : List NestedKey}, KyAll K ω H vs ks → KyAll K ω2 H vs ks
  | _, _, .nil => .nil
  | _, _, .cons h t => .cons (KyR.immT g h) (KyAll.immT g t)
end
theorem TPs.immT (g : ∀ a xs, H a = some (.tup xs) → ω a = .shr → ω2 a = .shr) : ∀ {xs : List (NestedKey × Addr × V)} {es : List (NestedKey × D)}, TPs K ω H xs es → TPs K ω2 H xs es
  | _, _, .nil => .nil
  | _, _, .cons h v t => .cons (h.immT g) v (TPs.immT g t)
theorem DcR.immT (g : ∀ a xs, H a = some (.tup xs) → ω a = .shr → ω2 a = .shr) {a : Addr} {u : HO} {q : D × List (D × D)} {es : List (NestedKey × D)} (h : DcR K ω H a u q) (e : dcD q = dtpD es) : DcR K ω2 H a u q := by
  cases h with
  | int _ =>
    have := congrArg headD e
    rw [dtpD, head_dct, head_dct] at this
    cases this
  | tup h => exact .tup (h.immT g)
theorem OwR.leafT {o : List Nat → Ow} (g : ∀ a xs, H a = some (.tup xs) → ω a = .shr → ω2 a = .shr) (h2 : ∀ a p, ω a = o p → ω2 a = o p) : ∀ (k : Nat) (p : List Nat) (v : V) (d : D), leafI k d → OwR K ω H k o p v d → OwR K ω2 H k o p v d
  | 0, _, v, d, z, h => Rp.immT g z h
  | k + 1, p, v, d, z, h => by
    rcases h with ⟨i, h⟩ | ⟨a, vs, ds, e1, e2, h1, e3, el, hc⟩ | ⟨a, kvs, es, e1, e2, h1, e3, hp⟩ | ⟨a, C, dx, gs, nm, fs, e1, e2, h1, e3, h4, e4, hn, hk, hc⟩ | ⟨a, vs, ds, e1, e2, h1, el, hc⟩
    · exact .inl ⟨i, Rp.immT g i h⟩
    · refine .inr (.inl ⟨a, vs, ds, e1, e2, h1, h2 a p e3, el, fun j v' d' z1 z2 => OwR.leafT g h2 k _ v' d' ?_ (hc j v' d' z1 z2)⟩)
      subst e2
      rcases z with z | ⟨ds', e, z⟩ | ⟨_, _, e, _⟩ | ⟨_, e⟩
      · cases z
      · cases e; exact z d' (List.mem_of_getElem? z2)
      · cases e
      · cases e
    · subst e2
      rcases z with z | ⟨ds', e, z⟩ | ⟨_, _, e, _⟩ | ⟨_, e⟩
      · cases z
      · cases e
      · exact (dct_not_ins e).elim
      · exact .inr (.inr (.inl ⟨a, kvs, es, e1, rfl, h1, h2 a p e3, hp.immT g e⟩))
    rotate_left
    · subst e2
      rcases z with z | ⟨ds', e, z⟩ | ⟨_, _, e, _⟩ | ⟨_, e⟩
      · cases z
      · cases e
      · exact (ins_not_otp e.symm).elim
      · exact (dct_not_otp e.symm).elim
    · refine .inr (.inr (.inr (.inl ⟨a, C, dx, gs, nm, fs, e1, e2, h1, h2 a p e3, h4, h2 dx p e4, hn, hk, fun j v' d' z1 z2 => OwR.leafT g h2 k _ v' d' ?_ (hc j v' d' z1 z2)⟩)))
      subst e2
      rcases z with z | ⟨ds', e, z⟩ | ⟨nm', fs', e, z⟩ | ⟨_, e⟩
      · cases z
      · cases e
      · obtain ⟨rfl, rfl⟩ := insD_inj e
        obtain ⟨q, hq, rfl⟩ := List.mem_map.mp (List.mem_of_getElem? z2)
        exact z q hq
      · exact (dct_not_ins e.symm).elim
/-- kept, what is no tuple -/
theorem OwR.goN {o o' : List Nat → Ow} (g : Sh ω H ω' H') (h2 : ∀ a u p, isT u = false → H a = some u → ω a = o p → H' a = some u ∧ ω' a = o' p) : ∀ (k : Nat) (p : List Nat) (v : V) (d : D), OwR K ω H k o p v d → OwR K ω' H' k o' p v d
  | 0, _, v, d, h => Rp.sh g d v h
  | k + 1, p, v, d, h => by
    rcases h with ⟨i, h⟩ | ⟨a, vs, ds, e1, e2, h1, e3, el, hc⟩ | ⟨a, kvs, es, e1, e2, h1, e3, hp⟩ | ⟨a, C, dx, gs, nm, fs, e1, e2, h1, e3, h4, e4, hn, hk, hc⟩ | ⟨a, vs, ds, e1, e2, h1, el, hc⟩
    · exact .inl ⟨i, Rp.sh g d v h⟩
    · obtain ⟨q1, q2⟩ := h2 a _ p rfl h1 e3
      exact .inr (.inl ⟨a, vs, ds, e1, e2, q1, q2, el, fun j v' d' z1 z2 => OwR.goN g h2 k _ v' d' (hc j v' d' z1 z2)⟩)
    · obtain ⟨q1, q2⟩ := h2 a _ p (by cases hp <;> rfl) h1 e3
      exact .inr (.inr (.inl ⟨a, kvs, es, e1, e2, q1, q2, hp.sh g⟩))
    · obtain ⟨q1, q2⟩ := h2 a _ p rfl h1 e3
      obtain ⟨q3, q4⟩ := h2 dx _ p rfl h4 e4
      exact .inr (.inr (.inr (.inl ⟨a, C, dx, gs, nm, fs, e1, e2, q1, q2, q3, q4, hn, hk, fun j v' d' z1 z2 => OwR.goN g h2 k _ v' d' (hc j v' d' z1 z2)⟩)))
    · exact .inr (.inr (.inr (.inr ⟨a, vs, ds, e1, e2, h1.sh g, el, fun j v' d' z1 z2 => OwR.goN g h2 k _ v' d' (hc j v' d' z1 z2)⟩)))
theorem lendE_run {t : TE} {fc : FE} (i : Nat) (bx : List Nat) (hc : SndE K t fc) {T : Nat} {env : Env} {σ : Sg} {R : Res → Env → Prop} {Q : VK} {c : Cell} (rel : Rel K ω env σ H) (fr : Free ω T) (hcell : env[i]? = some (some c))
    (hR : fc (env.set i (some (sh c.d))) (fun r e' => immO r ∧ keptL env e' bx ∧ R r (lendG i bx 0 env)))
    (q : ∀ v H' ω', Rel K ω' (lendG i bx 0 env) σ H' → Step ω H ω' H' → Free ω' (T + 1) → ∀ r, ResR K ω' H' σ (lendG i bx 0 env) T v r → immO r → R r (lendG i bx 0 env) → (∀ a u p, isT u = false → H a = some u → ω a = .own i p → H' a = some u ∧ ω' a = .own i p) → Q v H') : t σ H Q := by
  obtain ⟨v, hv, ho⟩ := rel.cell i c hcell
  have gsh : Sh ω H (ren (fzO i) ω) H := fun a o h e => ⟨h, by show fzO i (ω a) = _; rw [e]; rfl⟩
  have own1 : ∀ a p, ω a = .own i p → ren (fzO i) ω a = .shr := fun a p z => by
    show fzO i (ω a) = _
    rw [z]
    show (if i = i then Ow.shr else _) = _
    rw [if_pos rfl]
  have own2 : ∀ a j p, j ≠ i → ω a = .own j p → ren (fzO i) ω a = .own j p := fun a j p hj z => by
    show fzO i (ω a) = _
    rw [z]
    show (if j = i then Ow.shr else _) = _
    rw [if_neg hj]
  have rp : Rp K (ren (fzO i) ω) H v c.d := OwR.fz gsh (fun a u p z1 z2 => ⟨z1, own1 a p z2⟩) _ _ _ _ ho
  have rel1 : Rel K (ren (fzO i) ω) (env.set i (some (sh c.d))) σ H := by
    refine ⟨rel.tab.ren rfl, by rw [List.length_set]; exact rel.len, fun j c' e => ?_⟩
    by_cases hj : i = j
    · subst hj
      have hlt : i < env.length := (List.getElem?_eq_some_iff.mp hcell).1
      rw [List.getElem?_set_self hlt] at e
      cases e
      exact ⟨v, hv, rp⟩
    · rw [List.getElem?_set_ne hj] at e
      obtain ⟨v', hv', ho'⟩ := rel.cell j c' e
      exact ⟨v', hv', OwR.go gsh (fun a u p z1 z2 => ⟨z1, own2 a j p (fun z => hj z.symm) z2⟩) _ _ _ _ ho'⟩
  have fr1 : Free (ren (fzO i) ω) T := fun a t p e => by
    have e' : fzO i (ω a) = .tmp t p := e
    cases y : ω a with
    | own j p' =>
      rw [y] at e'
      have e2 : (if j = i then Ow.shr else .own j p') = .tmp t p := e'
      by_cases hj : j = i
      · rw [if_pos hj] at e2; cases e2
      · rw [if_neg hj] at e2; cases e2
    | tmp t' p' => rw [y] at e'; cases e'; exact fr a _ _ y
    | _ => rw [y] at e'; cases e'
  refine hc (ren (fzO i) ω) T _ σ H _ _ rel1 fr1 hR fun w H' ω' env' r rel' st' fr' rr' h' => ?_
  obtain ⟨im, lo, hRb⟩ := h'
  let ω2 : Om := fun a => match H a, ω a with
    | some u, .own j p => if j = i ∧ isT u = false then .own i p else ω' a
    | _, _ => ω' a
  have hit : ∀ a u p, H a = some u → isT u = false → ω a = .own i p → ω2 a = .own i p := fun a u p h1 h2 h3 => by
    show (match H a, ω a with | some u, .own j p => if j = i ∧ isT u = false then Ow.own i p else ω' a | _, _ => ω' a) = _
    rw [h1, h3]
    show (if i = i ∧ isT u = false then Ow.own i p else _) = _
    rw [if_pos ⟨rfl, h2⟩]
  have same : ∀ a, (¬ ∃ u p, H a = some u ∧ isT u = false ∧ ω a = .own i p) → ω2 a = ω' a := fun a hn => by
    show (match H a, ω a with | some u, .own j p => if j = i ∧ isT u = false then Ow.own i p else ω' a | _, _ => ω' a) = _
    cases y1 : H a with
    | none => rfl
    | some u =>
      cases y : ω a with
      | own j p =>
        show (if j = i ∧ isT u = false then Ow.own i p else ω' a) = _
        rw [if_neg fun z => hn ⟨u, p, y1, z.2, by rw [y, z.1]⟩]
      | _ => rfl
  -- the lent ones are as they were
  have lentS : ∀ a u p, H a = some u → ω a = .own i p → H' a = some u ∧ ω' a = .shr := fun a u p h1 h2 => by
    have e1 := own1 a p h2
    rcases st' a u h1 (by rw [e1]; nofun) with ⟨j', p', z⟩ | ⟨z1, z2⟩
    · rw [e1] at z; cases z
    · exact ⟨z1, z2.trans e1⟩
  have keep : ∀ a o, H a = some o → ω a ≠ .tab → (∀ j p, ω a ≠ .own j p) → H' a = some o ∧ ω2 a = ω a := fun a o h nt hn => by
    have e1 : ren (fzO i) ω a = ω a := by
      show fzO i (ω a) = ω a
      cases y : ω a with
      | own j p => exact (hn j p y).elim
      | _ => rfl
    rcases st' a o h (by rw [e1]; exact nt) with ⟨j', p', z⟩ | ⟨z1, z2⟩
    · exact (hn j' p' (e1 ▸ z)).elim
    · exact ⟨z1, (same a fun ⟨u, p, _, _, y⟩ => hn i p y).trans (z2.trans e1)⟩
  have gsh2 : Sh ω H ω2 H' := fun a o h e => by
    obtain ⟨k1, k2⟩ := keep a o h (by rw [e]; nofun) fun j p z => by rw [e] at z; cases z
    exact ⟨k1, k2.trans e⟩
  have gT : ∀ a xs, H' a = some (.tup xs) → ω' a = .shr → ω2 a = .shr := fun a xs h1 h2 => by
    refine (same a ?_).trans h2
    rintro ⟨u, p, z1, z2, z3⟩
    obtain ⟨y1, _⟩ := lentS a u p z1 z3
    rw [h1] at y1
    cases y1
    cases z2
  have nShr : ∀ a o', o' ≠ Ow.shr → ω' a = o' → ω2 a = o' := fun a o' hne h1 => by
    refine (same a ?_).trans h1
    rintro ⟨u, p, z1, _, z3⟩
    obtain ⟨_, y2⟩ := lentS a u p z1 z3
    exact hne (h1.symm.trans y2)
  have rr2 : ResR K ω2 H' σ (lendG i bx 0 env) T w r := by
    match r, im, rr' with
    | .v 0 d, im, rr' => exact Rp.immT gT im rr'
    | .v 1 d, im, rr' => exact OwR.leafT gT (fun a p z => nShr a _ (by nofun) z) 1 _ _ _ im rr'
  refine q w H' ω2 ⟨rel'.tab.go fun a o h e => ⟨h, nShr a _ (by nofun) e⟩, by rw [lendG_len]; exact rel.len, fun j c' e => ?_⟩ (fun a o h nt => ?_) (fun a t p e => ?_) r rr2 im hRb fun a u p z0 z1 z2 => ⟨(lentS a u p z1 z2).1, hit a u p z1 z0 z2⟩
  · obtain ⟨e, hk⟩ := lendG_get 0 env j e
    rw [Nat.zero_add] at hk
    obtain ⟨v', hv', ho'⟩ := rel.cell j c' e
    by_cases hj : j = i
    · subst hj
      exact ⟨v', hv', OwR.goN gsh2 (fun a u p z0 z1 z2 => ⟨(lentS a u p z1 z2).1, hit a u p z1 z0 z2⟩) _ _ _ _ ho'⟩
    · obtain ⟨k, d⟩ := c'
      cases k with
      | zero => exact ⟨v', hv', Rp.sh gsh2 d v' ho'⟩
      | succ k =>
        have hb : j ∈ bx := by
          rcases hk with z | z | z
          · exact absurd z hj
          · exact z
          · cases z
        obtain ⟨l1, l3⟩ := keptL_at lo hb (getC_of e)
        obtain ⟨v2, hv2, ho2⟩ := rel'.cell j _ (getC_some l1)
        exact ⟨v2, hv2, OwR.leafT gT (fun a p z => nShr a _ (by nofun) z) _ _ _ _ l3 ho2⟩
  · cases y : ω a with
    | own j p => exact .inl ⟨j, p, rfl⟩
    | _ =>
      obtain ⟨k1, k2⟩ := keep a o h nt fun j p z => by rw [y] at z; cases z
      exact .inr ⟨k1, k2.trans y⟩
  · by_cases hn : ∃ u p, H a = some u ∧ isT u = false ∧ ω a = .own i p
    · obtain ⟨u, p', z1, z2, z3⟩ := hn
      rw [hit a u p' z1 z2 z3] at e
      cases e
    · rw [same a hn] at e
      exact fr' a t p e
theorem snd_lendE {t : TE} {fc : FE} (i : Nat) (bx : List Nat) (hc : SndE K t fc) : SndE K t (fLendE i bx fc) := by
  intro ω T env σ H R Q rel fr h0 q
  obtain ⟨c, hcell, hR⟩ : ∃ c : Cell, env[i]? = some (some c) ∧ fc (env.set i (some (sh c.d))) (fun r e' => immO r ∧ keptL env e' bx ∧ R r (lendG i bx 0 env)) := by
    unfold fLendE at h0
    cases hc : getC env i with
    | none => rw [hc] at h0; exact h0.elim
    | some c => rw [hc] at h0; exact ⟨c, getC_some hc, h0⟩
  exact lendE_run i bx hc rel fr hcell hR fun v H' ω' a b c r d _ e _ => q v H' ω' _ r a b c d e
end
theorem se_lend {X : Cx} {e : Expr} {fc : FE} (i : Nat) (bx : List Nat) (h : SE X e fc) : SE X e (fLendE i bx fc) := by
  obtain ⟨t, p, s⟩ := h.ex
  exact ⟨_, p, snd_lendE i bx s⟩
/-! ### fields stored at -/
def putA {α : Type} (f : Str) (x : α) : List (Str × α) → List (Str × α)
  | [] => [(f, x)]
  | (g, y) :: r => if g = f then (g, x) :: r else (g, y) :: putA f x r
def idxF {α : Type} (f : Str) : List (Str × α) → Nat
  | [] => 0
  | (g, _) :: r => if g = f then 0 else idxF f r + 1
/-- a slot's own instance -/
@[irreducible] def onIns (nm : Str) (c : Option Cell) (P : List (Str × D) → Prop) : Prop := ∃ fs, c = some ⟨2, insD nm fs⟩ ∧ P fs
theorem onIns_mk {nm : Str} {fs : List (Str × D)} {P : List (Str × D) → Prop} (h : P fs) : onIns nm (some ⟨2, insD nm fs⟩) P := by unfold onIns; exact ⟨fs, rfl, h⟩
section
variable {K : Fg} {ω ω' : Om} {H H' : Hp} {env : Env} {σ : Sg} {i : Nat}
end
/-- what may become a field: a new list, or what has no list in it -/
def lv1 : Res → Prop
  | .v 1 _ => True
  | .v 0 d => imm d = true
  | _ => False
/-- x.f = e -/
def fSetF (nm : Str) (i : Nat) (f : Str) (fe : FE) : FS := fun env k => fe env fun r e1 => lv1 r ∧ onIns nm (getC e1 i) fun fs => fs.length < 1000 ∧ k.nx (e1.set i (some ⟨2, insD nm (putA f r.d fs)⟩))
section
variable {X : Cx} {io : Nat → Bool} {nm f x : Str} {e : Expr} {fe : FE} {p pos pos' : Pos}
end
end Pv

/-! Pv37: methods of a list that is a field of a slot's own instance; new instances. -/
namespace Pv
open PySem PySem.Spec PyProof.Rows L2
section
variable {K : Fg} {ω : Om} {H : Hp} {env : Env} {σ : Sg} {i : Nat}
end
/-- x.f.append(e), x lent for e -/
@[irreducible] def fAppF (nm : Str) (i : Nat) (f : Str) (bx : List Nat) (fe : FE) : FE := fun env R => onIns nm (getC env i) fun fs => ∃ es, fs.lookup f = some (.list es) ∧ es.length < sizeLine ∧ fe (env.set i (some (sh (insD nm fs)))) fun r e' => (shr0 r ∧ imm r.d = true) ∧ keptL env e' bx ∧
  R (.v 0 .none) ((lendG i bx 0 env).set i (some ⟨2, insD nm (putA f (.list (es ++ [r.d])) fs)⟩))
/-- x.f.pop() -/
@[irreducible] def fPopF (nm : Str) (i : Nat) (f : Str) : FE := fun env R => onIns nm (getC env i) fun fs => ∃ es d, fs.lookup f = some (.list (es ++ [d])) ∧ R (.v 0 d) (env.set i (some ⟨2, insD nm (putA f (.list es) fs)⟩))
section
variable {K : Fg} {i : Nat} {nm f : Str}
end
section
variable {X : Cx} {nm f x : Str} {e : Expr} {fe : FE} {p px apos cpos : Pos}
end
end Pv

/-! Pv38: new instances of own classes; len, ==, !=, repr by own methods. -/
namespace Pv
open PySem PySem.Spec PyProof.Rows L2
/-! ### C(..) -/
/-- C(e, .., k = v, ..): gV of the values as written -/
def tMakG (C : Addr) (n m : Nat) (sp : Sp) (gV : List V → List V → List V) (t tk : TA) : TE := fun σ H Q => t σ H fun vs H1 => tk σ H1 fun zs H2 => vs.length = n ∧ zs.length = m ∧ ∀ x dx, H2 x = none → H2 dx = none → dx ≠ x →
  sp (gV (.ref x :: vs) zs) (upd (upd H2 dx (.own x)) x (.ins C dx [])) (fun v H3 => v = .non ∧ Q (.ref x) H3) (fun _ _ _ => False)
section
variable {X : Cx} {k n : Nat} {f C : Addr} {fd : FuncData} {ps ks : List Str} {sp : Sp} {x : Str} {p pos : Pos} {e : Expr} {es : List Expr} {kws : List Keyword} {t tk : TA} {g : List Value → List Value → List Value} {gV : List V → List V → List V}
end
/-- what stands in the new instance behind __init__ -/
def madeR (P : D → Prop) : List (Option Cell) → Prop
  | [some ⟨2, d⟩] => P d
  | _ => False
/-- C(e, .., k = v, ..): perm tells which of the values as written, and of the defaults ex behind them, the parameters take -/
def fMake (nm : Str) (n m : Nat) (perm : List Nat) (ex : List D) (φ : Phi) (fa fk : FA) : FE := fun env R => fa env fun rs e => noB rs ∧ rs.length = n ∧ fk e fun ks e1 => noB ks ∧ ks.length = m ∧
  apP φ (⟨2, insD nm []⟩ :: (permD perm (dsOf rs ++ dsOf ks ++ ex)).map sh) fun c ios => c.d = .none ∧ madeR (fun d => R (.v 2 d) e1) (putIos [some ⟨2, insD nm []⟩] [true] [.b 0 2 (insD nm [])] ios)
section
variable {K : Fg}
/-- the slot L becomes the value in hand at T -/
def lastO (L T : Nat) : Ow → Ow
  | .own j p => if j = L then .tmp T p else .own j p
  | o => o
end
end Pv

/-! Pv39: C(..) as an expression; len, repr, ==, != by own methods; isinstance of an own class. -/
namespace Pv
open PySem PySem.Spec PyProof.Rows L2
/-! ### what a call binds that leaves keyword-only parameters out -/
def gU (perm : List Nat) (mv us ws : List Value) : List Value := match us with
  | u :: us => u :: permU perm (us ++ ws ++ mv)
  | [] => []
def gVm (perm : List Nat) (mz vs zs : List V) : List V := match vs with
  | x :: vs => x :: permV perm (vs ++ zs ++ mz)
  | [] => []
/-- a class whose instances may be made so -/
structure MakB (P : Program) (w : World) (K : Fg) (mg : Str → Option Value) (base : Heap) (k : Nat) (nm : Str) (n : Nat) (ks : List Str) (perm : List Nat) (ex : List D) (φ : Phi) : Prop where
  ex : ∃ (C f : Addr) (fd : FuncData) (ps : List Str) (exV : List V) (g : List Value → List Value → List Value), NmC K nm C ∧ mg nm = some (.ref C) ∧ Mk K C f ∧ FnG P w K mg base CX0 k f fd ps (spOf K (true :: List.replicate perm.length false) φ) ∧
    KBn K fd ps (n + 1) ks g (fun vs zs => gVm perm exV vs zs) ∧ ∀ (ω : Om) (H : Hp), RpAll K ω H exV ex
section
variable {X : Cx} {k j n nk : Nat} {nm : Str} {φ : Phi} {e : Expr} {es : List Expr} {kws : List Keyword} {fa fk : FA} {p pos : Pos} {ks : List Str} {perm : List Nat} {ex : List D}
end
/-! ### special methods -/
/-- a class with such a method -/
structure Spc (P : Program) (w : World) (K : Fg) (mg : Str → Option Value) (base : Heap) (k : Nat) (nm m : Str) (ms : List Bool) (φ : Phi) : Prop where
  ex : ∃ (C f : Addr) (fd : FuncData) (ps : List Str), NmC K nm C ∧ PySem.W.findIn K (.ref C) m = some (some (.ref f)) ∧ PySem.W.isFn K (.ref f) = true ∧ FnG P w K mg base CX0 k f fd ps (spOf K ms φ) ∧ Binds K fd ps []
section
variable {X : Cx} {C : Addr} {k : Nat} {f : Addr} {fd : FuncData} {ps : List Str} {sp : Sp} {pins : List (Addr × Obj)} {σ : L2.St} {H : Hp} {s : Shared}
def rLenO (C : Addr) (sp : Sp) : List V → Hp → VK → Prop := fun xs H Q => ∃ a dx fs, xs = [V.ref a] ∧ H a = some (.ins C dx fs) ∧ sp [.ref a] H (fun z H' => ∃ i : Int, z = .int i ∧ (0 ≤ i ∧ i < 2 ^ 63) ∧ Q (.int i) H') (fun _ _ _ => False)
def rRepO (C : Addr) (sp : Sp) : List V → Hp → VK → Prop := fun xs H Q => ∃ a dx fs, xs = [V.ref a] ∧ H a = some (.ins C dx fs) ∧ sp [.ref a] H (fun z H' => ∃ x : Str, z = .str x ∧ Q (.str x) H') (fun _ _ _ => False)
def rEqO (C : Addr) (sp : Sp) (p : Bool → Bool) : R2 := fun x y H Q => ∃ a dx fs b dy gs, x = .ref a ∧ y = .ref b ∧ H a = some (.ins C dx fs) ∧ H b = some (.ins C dy gs) ∧ sp [x, y] H (fun z H' => ∃ c : Bool, z = .bl c ∧ Q (.bl (p c)) H') (fun _ _ _ => False)
section
variable {prog : Program} {w : World} {A : Around} {E : Value → Shared → Prop} {K : PySem.W.Frag} {x y : Addr} {ox oy : Obj} {od od' : Option Obj}
end
end
end Pv

/-! Pv40: len(x), repr(x), x == y, x != y, isinstance(x, C) of shared instances, as expressions; f-strings; try: .. finally: ..; calls of methods that may raise. -/
namespace Pv
open PySem PySem.Spec PyProof.Rows L2
def isIns (nm : Str) (d : D) : Prop := ∃ fs, d = insD nm fs
def isV : Res → Prop
  | .v _ _ => True
  | _ => False
def shI (nm : Str) (r : Res) : Prop := isV r ∧ isIns nm r.d
def lenBk (P : Int → Prop) : D → Prop
  | .int i => (0 ≤ i ∧ i < 2 ^ 63) ∧ P i
  | _ => False
def strBk (P : Str → Prop) : D → Prop
  | .str x => P x
  | _ => False
def fLenO (nm : Str) (φ : Phi) (fo : FE) : FE := fun env R => fo env fun r e => shI nm r ∧ apP φ [sh r.d] fun c _ => lenBk (fun i => R (.v 0 (.int i)) e) c.d
def fRepO (nm : Str) (φ : Phi) (fo : FE) : FE := fun env R => fo env fun r e => shI nm r ∧ apP φ [sh r.d] fun c _ => strBk (fun x => R (.v 0 (.str x)) e) c.d
def fEqO (nm : Str) (p : Bool → Bool) (φ : Phi) (fo fo2 : FE) : FE := fun env R => fo env fun r1 e1 => fo2 e1 fun r2 e2 => shI nm r1 ∧ shI nm r2 ∧ apP φ [sh r1.d, sh r2.d] fun c _ => dB (fun b => R (.v 0 (.bool (p b))) e2) c.d
def fIsO (nm : Str) (fo : FE) : FE := fun env R => fo env fun r e => shI nm r ∧ R (.v 0 (.bool true)) e
section
variable {K : Fg} {ω : Om} {H : Hp} {T : Nat}
end
section
variable {X : Cx} {k j : Nat} {nm : Str} {φ : Phi} {e a b : Expr} {fo fo2 : FE} {p p2 pos : Pos}
/-- a comparison, as a value and as a test -/
structure SEt (X : Cx) (e : Expr) (f : FE) : Prop where
  ex : ∃ t : TE, PE X e t ∧ PT X e (fun σ H Q => t σ H fun x H' => ∃ k, x = .bl k ∧ Q k H') ∧ SndE X.K t f
/-- what != asks besides -/
def NeO (K : Fg) (nm : Str) : Prop := ∀ C, NmC K nm C → PySem.W.mroIn K C (.type "object") = some true ∧ PySem.W.findIn K (.ref C) "__ne__" = some (some (.builtin "object.__ne__"))
/-- what isinstance asks of the class -/
structure IsO (K : Fg) (C : Addr) : Prop where
  cl : Cls K C
  ha : PySem.W.findIn K (.ref C) "__class__" = some (some (.builtin "object.__class__"))
  hn : PySem.W.specialIn K (.builtin "object.__class__") "__get__" = some (some (.builtin "getset_descriptor.__get__"))
  ht : PySem.W.takesIn K (.builtin "object.__class__") = some true
  hm : PySem.W.mroIn K C (.type "object") = some true
  hk : PySem.W.kitOne K (.ref C) (.ref C) = some true
def rIsO (K : Fg) (C : Addr) : List V → Hp → VK → Prop := fun xs H Q => ∃ (a dx : Addr) (gs : List (Str × V)) (c : V), xs = [V.ref a, c] ∧ ClsV c (.ref C) ∧ H a = some (.ins C dx gs) ∧ Q (.bl true) H
end
/-! ### f-strings of texts and ints -/
abbrev FJ := Env → Str → (Str → Env → Prop) → Prop
def fjNil : FJ := fun env acc R => R acc env
def fjS (x : Str) (f : FJ) : FJ := fun env acc R => (acc ++ x).length ≤ sizeLine ∧ f env (acc ++ x) R
def txtBk (P : Str → Prop) : D → Prop
  | .str x => P x
  | .int i => i.natAbs.log2 < 1920 ∧ P (toString i)
  | _ => False
def fjE (fo : FE) (f : FJ) : FJ := fun env acc R => fo env fun r e => txtBk (fun x => (acc ++ x).length ≤ sizeLine ∧ f e (acc ++ x) R) r.d
def fJoin (f : FJ) : FE := fun env R => f env Str.empty fun x e => R (.v 0 (.str x)) e
def SndJ (K : Fg) (ts : List TE) (f : FJ) : Prop := ∀ (ω : Om) (T : Nat) (env : Env) (σ : Sg) (H : Hp) (acc : Str) (R : Str → Env → Prop) (Q : Str → Hp → Prop), Rel K ω env σ H → Free ω T → f env acc R →
  (∀ x H' ω' env', Rel K ω' env' σ H' → Step ω H ω' H' → Free ω' T → R x env' → Q x H') → tJs ts acc σ H Q
structure SJ (X : Cx) (es : List Expr) (f : FJ) : Prop where
  ex : ∃ ts, PJ X es ts ∧ SndJ X.K ts f
section
variable {X : Cx} {e v1 v2 : Expr} {es rest : List Expr} {fo : FE} {f : FJ} {pos : Pos}
end
/-! ### try: body finally: suite -/
def fFin (fb fs : FS) : FS := fun env k => fb env { nx := fun e => fs e k, rt := fun r e => match r with
  | .v _ _ => False
  | .b j _ d => j = e.length ∧ fs e { nx := fun e' => xr k e' d, rt := fun _ _ => False } }
def tFin (tb : WX → TS) (tf tfs : TS) (Wout : WX) : TS := fun D σ H => tb (wFin tfs Wout) { nx := fun σ1 H1 => tf D σ1 H1, rt := fun _ _ => False } σ H
section
variable {X : Cx} {body : List Stmt} {f₀ : Stmt} {fs : List Stmt} {pos : Pos} {tb : WX → TS} {tf tfs : TS} {Wout : WX}
end
/-! ### methods that may raise, as statements -/
section
variable {K : Fg} {io : Nat → Bool} {W : WX} {nm m : Str} {C : Addr}
end
section
variable {X : Cx} {W : WX} {io : Nat → Bool} {k j : Nat} {nm m y : Str} {ms : List Bool} {φ : Phi} {o e : Expr} {es : List Expr} {fo : FE} {fa : FA} {apos pos pos' pos2 : Pos}
end
end Pv

/-! Pv41: try .. except X: without a name; calls whose first argument is a call that may raise; methods called by keywords that may raise. -/
namespace Pv
open PySem PySem.Spec PyProof.Rows L2
/-! ### try: body except (..): suite -/
def wOnT (K : PySem.W.Frag) (cs : List Value) (ts : TS) (Wout : WX) (D : Ends) : WX := fun cls d σ H => ∃ b, PySem.W.exmAny K cls cs = some b ∧ (b = true → ts D σ H) ∧ (b = false → Wout cls d σ H)
section
variable {X : Cx} {te : Expr} {cs : List Value} {body suite : List Stmt} {b₀ : Stmt} {pos pos' : Pos} {tb : WX → TS} {ts : TS} {Wout : WX}
end
def fTryOn (L : List (Str × Bool)) (fb fs : FS) : FS := fun env k => fb env { k with rt := fun r e => match r with
  | .v n d => k.rt (.v n d) e
  | .b j n d => (j ≠ e.length ∧ k.rt (.b j n d) e) ∨ (j = e.length ∧ ∃ nm xs, d = excD nm xs ∧ L.lookup nm = some true ∧ fs e k) }
section
variable {X : Cx} {te : Expr} {cs : List Value} {io : Nat → Bool} {body suite : List Stmt} {b₀ : Stmt} {pos pos' : Pos} {fb fs : FS} {L : List (Str × Bool)}
end
/-! ### arguments the first of which is a call that may raise -/
abbrev FAX := Env → (List Res → Env → Prop) → (Env → D → Prop) → Prop
def KXa (K : Fg) (ω : Om) (σ : Sg) (H : Hp) (P : Env → D → Prop) (W : WX) : Prop := ∀ H' ω' env' C d nm fs, Rel K ω' env' σ H' → Step ω H ω' H' → Free ω' 1 → NmC K nm C → XFs ω' H' d fs → P env' (excD nm fs) → W (.ref C) d σ H'
structure SAX (X : Cx) (W : WX) (es : List Expr) (f : FAX) : Prop where
  ex : ∃ t : TA, PA X es t ∧ ∀ (ω : Om) (env : Env) (σ : Sg) (H : Hp) (R : List Res → Env → Prop) (P : Env → D → Prop) (Q : List V → Hp → Prop), Rel X.K ω env σ H → Free ω 0 → f env R P → KXa X.K ω σ H P W →
    (∀ vs H' ω' env' rs, Rel X.K ω' env' σ H' → Step ω H ω' H' → Free ω' (0 + rs.length) → ResAll X.K ω' H' σ env' 0 vs rs → R rs env' → Q vs H') → t σ H Q
/-- f(..), e, .. : f may raise -/
def fArgX (ms : List Bool) (φ : Phi) (fa fr : FA) : FAX := fun env R P => fa env fun rs e => distinct (ioIx ms rs) = true ∧ match mkArgs ms rs with
  | some args => apP φ args fun c ios => rz c (P (putIos e ms rs ios) c.d) (fr (putIos e ms rs ios) fun rs2 e2 => R (.v c.k c.d :: rs2) e2)
  | none => False
section
variable {X : Cx} {W : WX} {io : Nat → Bool} {k j : Nat} {x nm m y : Str} {ms : List Bool} {φ : Phi} {e : Expr} {es rest : List Expr} {fo : FE} {fa fr : FA} {F : FAX} {p pos pos' pos2 apos : Pos}
/-- y = f(F) -/
def fCallAX (ms : List Bool) (φ : Phi) (F : FAX) (g : Cell → FS) : FS := fun env k => F env (fun rs e => distinct (ioIx ms rs) = true ∧ match mkArgs ms rs with
  | some args => apP φ args fun c ios => g c (putIos e ms rs ios) k
  | none => False) fun e d => xr k e d
def allShr : List Res → Prop
  | [] => True
  | .v 0 _ :: rs => allShr rs
  | _ => False
/-- x.m(F) for its own sake, x a slot's own instance -/
def fMethAX (nm m : Str) (i : Nat) (ms : List Bool) (φ : Phi) (F : FAX) : FS := fun env k => onIns nm (getC env i) (fun fs => fs.lookup m = none) ∧ F env (fun rs e => allShr rs ∧ match getC e i with
  | some c => distinct (ioIx ms (.b i c.k c.d :: rs)) = true ∧ (match mkArgs ms (.b i c.k c.d :: rs) with
    | some args => apP φ args fun _ ios => k.nx (putIos e ms (.b i c.k c.d :: rs) ios)
    | none => False)
  | none => False) fun e d => xr k e d
end
/-! ### by keywords -/
def fMethKX (n : Nat) (perm : List Nat) (φ : Phi) (fo : FE) (fk : FA) (g : Cell → FS) : FS := fun env k => fo env fun r e0 => fk e0 fun ks e => noB ks ∧ ks.length = n ∧ match refr e r with
  | some r' => match mkArgs [true] [r'] with
    | some args => apP φ (args ++ (permD perm (dsOf ks)).map sh) fun c ios => rz c (xr k (putIos e [true] [r'] ios) c.d) (g c (putIos e [true] [r'] ios) k)
    | none => False
  | none => False
section
variable {X : Cx} {W : WX} {io : Nat → Bool} {k j n : Nat} {nm m : Str} {φ : Phi} {o : Expr} {kws : List Keyword} {fo : FE} {fk : FA} {apos pos pos2 : Pos} {ks : List Str} {perm : List Nat}
end
end Pv

/-! Pv42: what a law's text says of its own classes. -/
namespace Pv
open PySem PySem.Spec PyProof.Rows L2
theorem MthX.calmed {P : Program} {w : World} {K : Fg} {mg : Str → Option Value} {base : Heap} {k : Nat} {nm m : Str} {ms : List Bool} {φ : Phi} (F : MthX P w K mg base k nm m ms φ) : Mth P w K mg base k nm m ms (calmP φ) := F.calm fun _ _ h => h
theorem MthXK.calmed {P : Program} {w : World} {K : Fg} {mg : Str → Option Value} {base : Heap} {k : Nat} {nm m : Str} {ks : List Str} {perm : List Nat} {φ : Phi} (F : MthXK P w K mg base k nm m ks perm φ) : MthK P w K mg base k nm m ks perm (calmP φ) := F.calm fun _ _ h => h
section
variable {K : Fg} {nm f : Str} {A : Addr} {mg : Str → Option Value}
end
end Pv

/-! Pv43: truths that may be None: tests, any. -/
namespace Pv
open PySem PySem.Spec PyProof.Rows L2
def truO : D → Option Bool
  | .bool b => some b
  | .none => some false
  | _ => none
def truV : V → Option Bool
  | .bl b => some b
  | .non => some false
  | _ => none
@[irreducible] def dBO (R : Bool → Prop) (d : D) : Prop := ∃ b, truO d = some b ∧ R b
theorem dBO_mk {R : Bool → Prop} {d : D} {b : Bool} (h : truO d = some b) (q : R b) : dBO R d := by unfold dBO; exact ⟨b, h, q⟩
def fTstO (fa : FE) : FT := fun env R => fa env fun r e => dBO (fun b => R b e) r.d
section
variable {K : Fg}
end
section
variable {X : Cx} {e : Expr} {fa : FE}
end
/-! ### any -/
def rAnyO (K : Fg) : List V → Hp → VK → Prop := fun xs H Q => ∃ (a : Addr) (vs : List V) (bs : List Bool), xs = [V.ref a] ∧ SqL K H a vs ∧ vs.map truV = bs.map some ∧ Q (.bl (bs.any id)) H
section
variable {X : Cx}
end
@[irreducible] def dAnyO (f : Prop) (R : KC) : D → Prop
  | .list ds => f ∧ ∃ bs : List Bool, ds.map truO = bs.map some ∧ R 0 (.bool (bs.any id))
  | _ => False
theorem dAnyO_mk {f : Prop} {R : KC} {ds : List D} (h : f ∧ ∃ bs : List Bool, ds.map truO = bs.map some ∧ R 0 (.bool (bs.any id))) : dAnyO f R (.list ds) := by unfold dAnyO; exact h
def oAnyO : O1 := fun r R => dAnyO (flat r) R r.d
section
variable {X : Cx} {e : Expr} {fa : FA} {p pos : Pos}
end
end Pv

/-! Pv59: an own class whose __init__ has no keyword defaults. -/
namespace Pv
open PySem PySem.Spec PyProof.Rows L2
end Pv

/-! Pv60: a tuple of ints below another. -/
namespace Pv
open PySem PySem.Spec PyProof.Rows L2
def oLtT : O2 := fun r1 r2 R => ∃ ns ms : List Int, r1.d = .tuple (ns.map .int) ∧ r2.d = .tuple (ms.map .int) ∧ R 0 (.bool (decide (ns < ms)))
section
variable {K : Fg} {X : Cx} {a b : Expr} {fa fb : FE} {pos : Pos}
end
end Pv

/-! Pv61: the shortest of an own list of own lists, taken out of it: return min(x, key=lambda p: len(p)). -/
namespace Pv
open PySem PySem.Spec PyProof.Rows L2
/-- what one element owns is a temporary's; the rest of the slot's is of no more use -/
def mvJ (i j T : Nat) : Ow → Ow
  | .own a (b :: p) => if a = i ∧ b = j then .tmp T p else .own a (b :: p)
  | o => o
/-- the shortest, the first of such -/
def fMinO (i : Nat) : FE := fun env R => isOwn2 (getC env i) ∧ ∃ dss : List (List D), getC env i = some ⟨2, .list (dss.map .list)⟩ ∧ dss ≠ [] ∧
  ∀ (j : Nat) (ds : List D), dss[j]? = some ds → (∀ (k : Nat) (es : List D), dss[k]? = some es → ds.length ≤ es.length ∧ (k < j → ds.length < es.length)) → R (.v 1 (.list ds)) (env.set i none)
section
variable {K : Fg} {ω : Om} {H : Hp} {env : Env} {σ : Sg}
theorem sh_mvJ {i j T : Nat} : Sh ω H (ren (mvJ i j T) ω) H := fun a o h e => ⟨h, by show mvJ i j T (ω a) = _; rw [e]; rfl⟩
theorem Rel.mvJ (rel : Rel K ω env σ H) (i j T : Nat) : Rel K (ren (Pv.mvJ i j T) ω) (env.set i none) σ H := by
  refine ⟨rel.tab.ren rfl, by rw [List.length_set]; exact rel.len, fun k c' e => ?_⟩
  have hk : i ≠ k := fun z => by
    subst z
    by_cases hlt : i < env.length
    · rw [List.getElem?_set_self hlt] at e; cases e
    · rw [List.getElem?_eq_none (by rw [List.length_set]; omega)] at e; cases e
  rw [List.getElem?_set_ne hk] at e
  obtain ⟨v', hv', ho'⟩ := rel.cell k c' e
  refine ⟨v', hv', OwR.go sh_mvJ (fun a u p z1 z2 => ⟨z1, ?_⟩) _ _ _ _ ho'⟩
  show Pv.mvJ i j T (ω a) = _
  rw [z2]
  cases p with
  | nil => rfl
  | cons b p =>
    show (if k = i ∧ b = j then _ else _) = _
    rw [if_neg fun z => hk z.1.symm]
end
section
variable {X : Cx}
end
end Pv

/-! Pv62: texts: x.split(s), s.join(xs), x.partition(s). -/
namespace Pv
open PySem PySem.Spec PyProof.Rows L2
/-- a text is looked at -/
def atStr (P : Str → Prop) : D → Prop
  | .str i => P i
  | _ => False
/-- a text's method of one argument -/
def fM1 (o : O2) (fa fb : FE) : FE := fun env R => fa env fun r1 e1 => atStr (fun _ => fb e1 fun r2 e2 => okb e2 r1 ∧ ap2 o r1 r2 fun k d => R (.v k d) e2) r1.d
def oSplit : O2 := fun r1 r2 R => ∃ a b : Str, r1.d = .str a ∧ r2.d = .str b ∧ (b.length == 0) = false ∧ a.length + 2 ≤ sizeLine ∧ R 1 (.list ((Txt.split a b).map .str))
def oPart : O2 := fun r1 r2 R => ∃ a b : Str, r1.d = .str a ∧ r2.d = .str b ∧ (b.length == 0) = false ∧ a.length ≤ sizeLine ∧ R 0 (.tuple [.str (Txt.partition a b).1, .str (Txt.partition a b).2.1, .str (Txt.partition a b).2.2])
def oJoin : O2 := fun r1 r2 R => ∃ (a : Str) (ys : List Str), r1.d = .str a ∧ r2.d = .list (ys.map .str) ∧ flat r2 ∧ (ys.map (·.length)).sum + ys.length * a.length ≤ 16777216 ∧ R 0 (.str (Txt.join a ys))
def rSplit1 : V → List V → Hp → VK → Prop := fun x xs H Q => ∃ a b, x = .str a ∧ xs = [.str b] ∧ (b.length == 0) = false ∧ a.length + 2 ≤ sizeLine ∧ rNewStrs (Txt.split a b) H Q
def rPart1 : V → List V → Hp → VK → Prop := fun x xs H Q => ∃ a b, x = .str a ∧ xs = [.str b] ∧ (b.length == 0) = false ∧ a.length ≤ sizeLine ∧
      ∀ p, H p = none → Q (.ref p) (upd H p (.tup [.str (Txt.partition a b).1, .str (Txt.partition a b).2.1, .str (Txt.partition a b).2.2]))
def rJoin1 (K : Fg) : V → List V → Hp → VK → Prop := fun x xs H Q => ∃ a p, ∃ ys : List Str, x = .str a ∧ xs = [.ref p] ∧ (SqL K H p (ys.map V.str) ∨ SqT K H p (ys.map V.str)) ∧
      (ys.map (·.length)).sum + ys.length * a.length ≤ 16777216 ∧ Q (.str (Txt.join a ys)) H
section
variable {K : Fg} {ω : Om} {H : Hp}
end
section
variable {X : Cx} {o e : Expr} {fa fb : FE} {apos pos : Pos}
end
/-! ### a text, sign by sign; a sign in a text; int(text) -/
def fStrI (fa : FE) : FI := fun env R => fa env fun r e => atStr (fun x => R (.v 0 .none) (x.cps.toList.map fun c => .str ⟨#[c]⟩) e) r.d
def oInS (p : Bool → Bool) : O2 := fun r1 r2 R => ∃ a b : Str, r1.d = .str a ∧ r2.d = .str b ∧ R 0 (.bool (p (!(Builtin.Str.occurrences b a 0 b.length 1).isEmpty)))
def oIntS : O1 := fun r R => ∃ (a : Str) (n : Int), r.d = .str a ∧ PySem.intText? a = some n ∧ a.length ≤ 640 ∧ R 0 (.int n)
section
variable {K : Fg} {ω : Om} {σ : Sg} {H : Hp}
end
section
variable {X : Cx} {tg a b e : Expr} {fa fb : FE} {fA : FA} {p pos : Pos}
end
end Pv

/-! Pv63: len(set(x)), x a list of ints. -/
namespace Pv
open PySem PySem.Spec PyProof.Rows L2
section
variable {X : Cx}
def rSetLi (K : Fg) (w : World) : List V → Hp → VK → Prop := fun vs H Q => ∃ (a : Addr) (ns : List Int), vs = [V.ref a] ∧ SqL K H a (ns.map V.int) ∧ ns.length ≤ 1000 ∧
  ∀ p c, H p = none → c ≤ ns.length → Q (.ref p) (upd H p (SetO w p (fun j => decide (j ∈ ns)) c))
def oLenSetL : O1 := fun r R => ∃ ns : List Int, r.d = .list (ns.map PyData.int) ∧ flat r ∧ ns.length ≤ 1000 ∧ ∀ ks : List Int, ks.Nodup → (∀ k, k ∈ ks ↔ k ∈ ns) → R 0 (.int (ks.length : Nat))
variable {e o : Expr} {fa fb : FE} {fA : FA} {p p2 pos pos2 apos cpos : Pos}
end
end Pv

/-! Pv64: a text times a number; `text or ..`. -/
namespace Pv
open PySem PySem.Spec PyProof.Rows L2
def oMulS : O2 := fun r1 r2 R => ∃ (a : Str) (n : Int), r1.d = .str a ∧ r2.d = .int n ∧ MulOk a n ∧ R 0 (.str (Txt.mul a n))
def rMulS : R2 := fun x y H Q => ∃ a n, x = .str a ∧ y = .int n ∧ MulOk a n ∧ Q (.str (Txt.mul a n)) H
def fOrS (f g : FE) : FE := fun env R => f env fun r e => atStr (fun x => x.length ≤ sizeLine ∧ (x.length = 0 → g e R) ∧ (0 < x.length → R (.v 0 (.str x)) e)) r.d
section
variable {X : Cx}
end
section
variable {K : Fg} {ω : Om} {H : Hp}
end
section
variable {X : Cx} {a b : Expr} {rest : List Expr} {fa fb : FE} {pos : Pos}
end
/-! ### [a, b, ..], some of them own lists, the others without a list in them: kept own -/
def own1m : List Res → Prop
  | [] => True
  | .v 0 d :: rs => imm d = true ∧ own1m rs
  | .v 1 _ :: rs => own1m rs
  | _ => False
section
variable {K : Fg} {ω : Om} {H : Hp} {σ : Sg} {env : Env} {T : Nat}
def fLst2m (fa : FA) : FE := fun env R => fa env fun rs e => (own1m rs ∧ rs.length ≤ sizeLine) ∧ R (.v 2 (.list (dsOf rs))) e
end
section
variable {X : Cx} {es : List Expr} {fa : FA} {pos : Pos}
end
end Pv

/-! Pv65: zip(a, b) of a tuple and a list of one length. -/
namespace Pz
open PySem
open PySem.Sem (wp)
open RZ (nextOf_tuple_item nextOf_tuple_end)
section
variable {prog : Program} {w : World} {A : Around} {E : Value → Shared → Prop} {s : Shared}
end
section
variable {prog : Program} {w : World} {A : Around} {E : Value → Shared → Prop} {s : Shared}
end
abbrev zipMH (h : Heap) (l1 l2 : Addr) : Heap := (h.push { cls := .type "tuple_iterator", data := .fields #[.ref l1, .int 0 0] }).push { cls := .type "list_iterator", data := .fields #[.ref l2, .int 0 0] }
abbrev zipMH3 (h : Heap) (l1 l2 : Addr) : Heap := (zipMH h l1 l2).push { cls := .type "tuple", data := .seq #[.ref h.objs.size, .ref (h.push { cls := .type "tuple_iterator", data := .fields #[.ref l1, .int 0 0] }).objs.size] }
abbrev zipMH4 (h : Heap) (l1 l2 : Addr) : Heap := (zipMH3 h l1 l2).push { cls := .type "tuple", data := .seq #[.none, .none] }
abbrev zipMH5 (h : Heap) (l1 l2 : Addr) : Heap := (zipMH4 h l1 l2).push { cls := .type "zip", data := .fields #[.none, .bool false, .bool false, .ref (zipMH h l1 l2).objs.size, .ref (zipMH3 h l1 l2).objs.size] }
section
variable {prog : Program} {w : World} {A : Around} {E : Value → Shared → Prop} {s : Shared}
end
end Pz
namespace Pv
open PySem PySem.Spec PyProof.Rows L2
open Pz
/-- a tuple and a list as they stand at each turn; both end at once -/
def ItzM (K : Fg) (a b : Addr) : It :=
  ⟨fun i H => ∃ (xs ys : List V) (x y : V), SqT K H a xs ∧ SqL K H b ys ∧ xs[i]? = some x ∧ ys[i]? = some y, fun i H v H' => ∃ T x y, v = .ref T ∧ H T = none ∧ H' = upd H T (.tup [x, y]) ∧ (∀ xs, SqT K H a xs → xs[i]? = some x) ∧ ∀ ys, SqL K H b ys → ys[i]? = some y, fun i H => ∃ xs ys : List V, SqT K H a xs ∧ SqL K H b ys ∧ xs.length ≤ i ∧ ys.length ≤ i⟩
def iZipM (K : Fg) (ta : TA) : TI := fun σ H R => ta σ H fun vs H1 => ∃ a b xs ys, vs = [.ref a, .ref b] ∧ SqT K H1 a xs ∧ SqL K H1 b ys ∧ R (ItzM K a b) H1
def overZipM (P : List D → Prop) : D → D → Prop
  | .tuple ds, .list es => match zipE ds es with
    | some xs => P xs
    | none => False
  | _, _ => False
def fZipM (fa : FA) : FI := fun env R => fa env fun rs e => noB rs ∧ match rs with
  | [r, r'] => ovr2 (overZipM fun ds => R (.v 0 .none) ds e) r.d r'.d
  | _ => False
section
variable {X : Cx} {K : Fg} {σ : Sg} {ω : Om} {H : Hp}
end
end Pv

/-! Pv70: a tuple with an own list in it: made, given up, its list appended to. -/
namespace Pv
open PySem PySem.Spec PyProof.Rows L2
/-- as it is told when it is shared -/
def unO : D → D
  | .dict ((.bool false, .bool true) :: r) => .tuple (r.map (·.2))
  | d => d
theorem unO_otp {ds : List D} : unO (otpD ds) = .tuple ds := by
  show PyData.tuple ((ds.map fun d => (PyData.none, d)).map (·.2)) = _
  rw [List.map_map]
  exact congrArg PyData.tuple (List.map_id' _)
def own1t : List Res → Prop
  | [] => True
  | .v 1 _ :: rs => own1t rs
  | .v 0 d :: rs => imm d = true ∧ own1t rs
  | _ => False
section
variable {K : Fg} {ω : Om} {H : Hp} {σ : Sg} {env : Env} {T : Nat}
theorem ResAll.nstt : ∀ {vs : List V} {rs : List Res} (n : Nat), own1t rs → ResAll K ω H σ env (T + n) vs rs → vs.length = (dsOf rs).length ∧ ∀ j v' d', vs[j]? = some v' → (dsOf rs)[j]? = some d' → OwR K (Pv.nst T ω) H 1 (Ow.tmp T) [n + j] v' d'
  | [], [], n, _, _ => ⟨rfl, fun j v' d' z _ => by cases z⟩
  | [], _ :: _, n, _, h => h.elim
  | _ :: _, [], n, _, h => h.elim
  | v :: vs, .v 1 d :: rs, n, ho, h => by
    obtain ⟨h1, h2⟩ := h
    have h1 : OwR K ω H 1 (Ow.tmp (T + n)) [] v d := h1
    obtain ⟨e, ih⟩ := ResAll.nstt (n + 1) (show own1t rs from ho) (show ResAll K ω H σ env (T + (n + 1)) vs rs from h2)
    refine ⟨by show _ + 1 = (d :: dsOf rs).length; rw [List.length_cons, e], fun j v' d' z1 z2 => ?_⟩
    cases j with
    | zero =>
      cases z1
      have z2 : some d = some d' := z2
      cases z2
      exact OwR.nst h1
    | succ j =>
      have := ih j v' d' z1 z2
      rwa [show n + 1 + j = n + (j + 1) by omega] at this
  | v :: vs, .v 0 d :: rs, n, ho, h => by
    obtain ⟨h1, h2⟩ := h
    have h1 : Rp K ω H v d := h1
    obtain ⟨e, ih⟩ := ResAll.nstt (n + 1) (show own1t rs from ho.2) (show ResAll K ω H σ env (T + (n + 1)) vs rs from h2)
    refine ⟨by show _ + 1 = (d :: dsOf rs).length; rw [List.length_cons, e], fun j v' d' z1 z2 => ?_⟩
    cases j with
    | zero =>
      cases z1
      have z2 : some d = some d' := z2
      cases z2
      exact .inl ⟨ho.1, Rp.sh nst_sh d v h1⟩
    | succ j =>
      have := ih j v' d' z1 z2
      rwa [show n + 1 + j = n + (j + 1) by omega] at this
  | _ :: _, .v (_ + 2) _ :: _, _, ho, _ => ho.elim
  | _ :: _, .b _ _ _ :: _, _, ho, _ => ho.elim
end
/-- (a, b, ..), own lists in it kept own -/
def fTupO (fa : FA) : FE := fun env R => fa env fun rs e => (own1t rs ∧ rs.length ≤ sizeLine) ∧ R (.v 2 (otpD (dsOf rs))) e
def fFrz (fa : FE) : FE := fun env R => fa env fun r e => match r with
  | .v _ d => R (.v 0 (unO d)) e
  | .b _ _ _ => False
section
variable {K : Fg} {ω : Om} {H : Hp} {σ : Sg} {env : Env} {T : Nat}
theorem Rp.unO {v : V} {d : D} (h : Rp K ω H v d) : Rp K ω H v (Pv.unO d) := by
  cases h with
  | non => exact .non
  | bl b => exact .bl b
  | int i => exact .int i
  | str x => exact .str x
  | lst hs ha => exact .lst hs ha
  | tup hs ha => exact .tup hs ha
  | scr hs =>
    rename_i a ns
    cases ns with
    | nil => exact .scr (ns := []) hs
    | cons n ns => exact .scr (ns := n :: ns) hs
  | dct h1 h2 h3 => exact .dct h1 h2 h3
  | ins h1 h2 h3 h4 h5 h6 => exact .ins h1 h2 h3 h4 h5 h6
  | exc h1 h2 h3 h4 => exact .exc h1 h2 h3 h4
  | otp hs ha => rw [unO_otp]; exact .tup hs ha
theorem snd_tupO {t : TA} {fa : FA} (ha : SndA K t fa) : SndE K (fun σ H Q => t σ H fun vs H1 => vs.length ≤ sizeLine ∧ ∀ p, H1 p = none → Q (.ref p) (upd H1 p (.tup vs))) (fTupO fa) := by
  intro ω T env σ H R Q rel fre hR q
  refine ha ω T env σ H _ _ rel fre hR fun vs H1 ω1 e1 rs rel1 st1 fr1 rr1 h1 => ?_
  obtain ⟨⟨ho, hz⟩, hR'⟩ := h1
  obtain ⟨el, hc⟩ := ResAll.nstt 0 ho rr1
  refine ⟨by rw [el, dsOf_len]; exact hz, fun p hp => ?_⟩
  have g : Grow (Pv.nst T ω1) H1 (putO p .shr (Pv.nst T ω1)) (upd H1 p (.tup vs)) := put_grow hp
  refine q (.ref p) _ (putO p .shr (Pv.nst T ω1)) e1 (.v 2 (otpD (dsOf rs))) ((rel1.nst T).grow g) ((st1.nst fre).grow g) (fun a t l e => ?_) ?_ hR'
  · by_cases hb : a = p
    · subst hb; rw [putO_same] at e; cases e
    · rw [putO_ne hb] at e; exact nst_free a t l e
  · refine .inr (.inr (.inr (.inr ⟨p, vs, dsOf rs, rfl, rfl, .inl ⟨upd_same, putO_same⟩, el, fun j v' d' z1 z2 => ?_⟩)))
    have h2 := hc j v' d' z1 z2
    rw [Nat.zero_add] at h2
    exact OwR.go g.step.sh (fun a u l z3 z4 => by obtain ⟨y1, y2⟩ := g a u z3; exact ⟨y1, y2.trans z4⟩) _ _ _ _ h2
theorem snd_frz {t : TE} {fa : FE} (ha : SndE K t fa) : SndE K t (fFrz fa) := by
  intro ω T env σ H R Q rel fre hR q
  refine ha ω T env σ H _ _ rel fre hR fun v H1 ω1 e1 r rel1 st1 fr1 rr1 h1 => ?_
  cases r with
  | b _ _ _ => exact h1.elim
  | v k d =>
    have rp : Rp K (gc T ω1) H1 v d := ResR.gc (env := e1) (r := .v k d) rr1 rel1 (Nat.le_refl _)
    exact q v H1 (gc T ω1) e1 (.v 0 (unO d)) (rel1.gc T) (st1.gc fre) gc_free.up rp.unO h1
end
section
variable {X : Cx} {es : List Expr} {e : Expr} {fa : FA} {fe : FE} {pos : Pos} {k : Nat}
theorem se_tupO (ha : SA X es fa) : SE X (.Tuple es k pos) (fTupO fa) := by
  obtain ⟨t, p, s⟩ := ha.ex
  exact ⟨_, pe_tup p, snd_tupO s⟩
theorem se_frz (ha : SE X e fe) : SE X e (fFrz fe) := by
  obtain ⟨t, p, s⟩ := ha.ex
  exact ⟨_, p, snd_frz s⟩
end
/-! ### x[j].append(text), x such a tuple, given up from then on -/
@[irreducible] def onOtp (c : Option Cell) (P : List D → Prop) : Prop := ∃ ds, c = some ⟨2, otpD ds⟩ ∧ P ds
theorem ev_onOtp {ds : List D} {P : List D → Prop} (h : P ds) : onOtp (some ⟨2, otpD ds⟩) P := by unfold onOtp; exact ⟨ds, rfl, h⟩
theorem onOtp_ex {c : Option Cell} {P : List D → Prop} (h : onOtp c P) : ∃ ds, c = some ⟨2, otpD ds⟩ ∧ P ds := by unfold onOtp at h; exact h
def fAppT (i j : Nat) : FE := fun env R => onOtp (getC env i) fun ds => ∃ es, ds[j]? = some (.list es) ∧ es.length < sizeLine ∧ R (.v 0 .none) (env.set i none)
section
variable {K : Fg} {i j : Nat}
theorem snd_appT {x : Str} : SndE K (tBM K "list" rAppend (tOp (rIx K) (tVar i) fun _ H Q => Q (.int (j : Nat)) H) fun _ H Q => Q [.str x] H) (fAppT i j) := by
  intro ω T env σ H R Q rel fr hR q
  obtain ⟨ds, e0, es, hj, hz, hR⟩ := onOtp_ex hR
  obtain ⟨v, hv, ho⟩ := rel.cell i _ (getC_some e0)
  have ho' : OwR K ω H 2 (Ow.own i) [] v (otpD ds) := ho
  rcases ho' with ⟨z, _⟩ | ⟨_, _, _, _, e2, _⟩ | ⟨_, _, _, _, e2, _⟩ | ⟨_, _, _, _, _, _, _, e2, _⟩ | ⟨a, vs, ds', rfl, e2, hS, el, hc⟩
  · cases z
  · cases e2
  · exact (dct_not_otp e2.symm).elim
  · exact (ins_not_otp e2.symm).elim
  cases otpD_inj e2
  have hl : j < vs.length := by rw [el]; exact (List.getElem?_eq_some_iff.mp hj).1
  have hvj := List.getElem?_eq_getElem hl
  have hw : OwR K ω H 1 (Ow.own i) [j] vs[j] (.list es) := hc j _ _ hvj hj
  rcases hw with ⟨z, _⟩ | ⟨b, ws, es', f1, f2, g1, g2, gl, gc2⟩ | ⟨_, _, _, _, f2, _⟩ | ⟨_, _, _, _, _, _, _, f2, _⟩ | ⟨_, _, _, _, f2, _⟩
  · cases z
  rotate_left
  · cases f2
  · cases f2
  · cases f2
  cases f2
  rw [f1] at hvj
  have hp : RpAll K ω H ws es := RpAll.of_get gl gc2
  refine ⟨.ref a, hv, .inr (.inl ⟨a, vs, (j : Nat), .ref b, rfl, rfl, hS.seq, atI_nat hvj, .inl ⟨rfl, ws, .inl (.inl g1)⟩, b, ws, .str x, rfl, rfl, g1, by rw [hp.length]; exact hz, ?_⟩)⟩
  have hs : Sh ω H ω (upd H b (.lst (ws ++ [.str x]))) := sh_upd (by rw [g2]; exact fun z => by cases z)
  have hi : i < env.length := (List.getElem?_eq_some_iff.mp (getC_some e0)).1
  refine q .non _ ω _ (.v 0 .none) ⟨rel.tab.go fun c o hb e => ⟨by rw [upd_ne (fun z => by subst z; rw [g2] at e; cases e)]; exact hb, e⟩, by rw [List.length_set]; exact rel.len, fun k c e => ?_⟩ (fun c o hb _ => ?_) fr.up .non hR
  · by_cases hk : i = k
    · subst hk; rw [List.getElem?_set_self hi] at e; cases e
    · rw [List.getElem?_set_ne hk] at e
      obtain ⟨v', hv', ho'⟩ := rel.cell k c e
      refine ⟨v', hv', OwR.go hs (fun c u p z1 z2 => ⟨?_, z2⟩) _ _ _ _ ho'⟩
      rw [upd_ne (fun z => by subst z; rw [g2] at z2; cases z2; exact hk rfl)]; exact z1
  · by_cases e : c = b
    · subst e; exact .inl ⟨i, _, g2⟩
    · exact .inr ⟨by rw [upd_ne e]; exact hb, rfl⟩
end
section
variable {X : Cx} {x s : Str} {px pj ps pk apos cpos : Pos} {k k2 : Nat}
theorem se_appT (i j : Nat) (hN : X.N[i]? = some x := by rfl) (hv : Vis X.env.scope x := by first | exact Or.inl rfl | exact Or.inr (Or.inl rfl) | exact Or.inr (Or.inr rfl)) (hix : PlainIx (.Constant (.int (j : Nat)) k pj) := by exact fun _ _ => rfl)
    (hbase : attributeBase (.Subscript (.Name x px) (.Constant (.int (j : Nat)) k pj) ps) "append" X.env (eval (.Subscript (.Name x px) (.Constant (.int (j : Nat)) k pj) ps) X.env) = eval (.Subscript (.Name x px) (.Constant (.int (j : Nat)) k pj) ps) X.env := by rfl)
    (hfew : ((backTo cpos (starEach [.Constant (.str s) k2 pk] X.env)).all (fun x => !x.1) && (backToKw cpos (keywordEach [] X.env)).all (fun x => x.1.isSome) && decide ([Expr.Constant (.str s) k2 pk].length + ([] : List Keyword).length + (if ([] : List Keyword).isEmpty then 0 else 1) < 30)) = true := by rfl)
    (hline : (apos.endLine == cpos.line) = true := by rfl) (hs : starEach [.Constant (.str s) k2 pk] X.env = (false, eval (.Constant (.str s) k2 pk) X.env) :: starEach [] X.env := by rfl) (hd : (x == ("__debug__" : Str)) = false := by decide) (hcd : (x == ("__classdict__" : Str)) = false := by decide) :
    SE X (.Call (.Attribute (.Subscript (.Name x px) (.Constant (.int (j : Nat)) k pj) ps) "append" apos) [.Constant (.str s) k2 pk] [] cpos) (fAppT i j) :=
  ⟨_, pe_bm PySem.F.plainAttrs_list PySem.F.slot_list_append PySem.F.type_list_append mt_append (pe_ix ix_seq (pe_var hN hv hd hcd) pe_int hix) (pa_cons pe_str pa_nil hs) hbase hfew hline hs rfl, snd_appT⟩
end
end Pv

/-! Vh: what the contracts of the laws' defs share. -/
namespace Lw
open PySem PySem.Spec PyProof.Rows L2 Pv
/-- the box: a number to be taken apart, a seed, a count -/
def bx (a b c : Int) : Cell := ow (.list [.int a, .int b, .int c])
def Bx (n : Nat) (x : Cell) : Prop := ∃ a b c : Int, x = bx a b c ∧ 0 ≤ a ∧ 0 ≤ b ∧ b < 2 ^ 62 ∧ 0 ≤ c ∧ c ≤ n
theorem Bx.mono {m n : Nat} {x : Cell} (h : Bx m x) (e : m ≤ n) : Bx n x := by
  obtain ⟨a, b, c, h1, h2, h3, h4, h5, h6⟩ := h
  exact ⟨a, b, c, h1, h2, h3, h4, h5, by omega⟩
/-- a box is a slot's own list -/
theorem Bx.ex {n : Nat} {x : Cell} (h : Bx n x) : ∃ d, x = ⟨1, d⟩ := by
  obtain ⟨a, b, c, h1, _⟩ := h
  exact ⟨_, h1⟩
theorem cmr {i j : Int} (h : -(2 ^ 64) < j) (h2 : j < 2 ^ 64) : CMul i j := .inr ⟨h, h2⟩
theorem cml {i j : Int} (h : -(2 ^ 64) < i) (h2 : i < 2 ^ 64) : CMul i j := .inl ⟨h, h2⟩
theorem cdv {i j : Int} (h : 0 < j) (h2 : j < 2 ^ 62) : CDivW i j := wide_div (b := 62) h (by omega) (by decide) (by decide)
/-! ### data of so many levels, no dict in it -/
def leafD (d : D) : Bool := flatD d && d.canLay0
def dep : Nat → D → Bool
  | 0, d => leafD d
  | n + 1, .list ds => ds.all (dep n)
  | n + 1, .tuple ds => ds.all (dep n)
  | _ + 1, d => leafD d
theorem depAll_le : ∀ (n : Nat) (ds : List D), (∀ d ∈ ds, d.canLay0 = true ∧ d.depth ≤ n) → PyData.canLayAll0 ds = true ∧ PyData.depthAll ds ≤ n
  | _, [], _ => ⟨rfl, Nat.zero_le _⟩
  | n, d :: ds, h => by
    obtain ⟨h1, h2⟩ := h d List.mem_cons_self
    obtain ⟨h3, h4⟩ := depAll_le n ds fun e he => h e (List.mem_cons_of_mem _ he)
    refine ⟨by simp [PyData.canLayAll0, h1, h3], ?_⟩
    show max d.depth (PyData.depthAll ds) ≤ n
    omega
theorem dep_ok : ∀ (n : Nat) (d : D), dep n d = true → d.canLay0 = true ∧ d.depth ≤ n
  | 0, d, h => ⟨(Bool.and_eq_true_iff.mp h).2, by cases d <;> first | exact Nat.le_refl _ | cases h⟩
  | n + 1, .list ds, h => by
    obtain ⟨h1, h2⟩ := depAll_le n ds fun d hd => dep_ok n d (List.all_eq_true.mp h d hd)
    exact ⟨by simpa [PyData.canLay0] using h1, by show PyData.depthAll ds + 1 ≤ n + 1; omega⟩
  | n + 1, .tuple ds, h => by
    obtain ⟨h1, h2⟩ := depAll_le n ds fun d hd => dep_ok n d (List.all_eq_true.mp h d hd)
    exact ⟨by simpa [PyData.canLay0] using h1, by show PyData.depthAll ds + 1 ≤ n + 1; omega⟩
  | n + 1, .none, _ => ⟨rfl, Nat.zero_le _⟩
  | n + 1, .bool _, _ => ⟨rfl, Nat.zero_le _⟩
  | n + 1, .int _, _ => ⟨rfl, Nat.zero_le _⟩
  | n + 1, .str x, h => ⟨(Bool.and_eq_true_iff.mp (show (flatD (.str x) && (PyData.str x).canLay0) = true from h)).2, Nat.zero_le _⟩
  | n + 1, .dict _, h => by cases h
theorem dep_shp {n : Nat} {d : D} (h : dep n d = true) (hn : n ≤ 64) : shp d := by
  obtain ⟨h1, h2⟩ := dep_ok n d h
  show (d.canLay0 && decide (d.depth ≤ 64)) = true
  rw [h1, decide_eq_true (Nat.le_trans h2 hn)]
  rfl
theorem eqvAll_self : ∀ (ds : List D), (∀ d ∈ ds, PyData.eqv d d = true) → PyData.eqvAll ds ds = true
  | [], _ => rfl
  | d :: ds, h => by
    show (PyData.eqv d d && PyData.eqvAll ds ds) = true
    rw [h d List.mem_cons_self, eqvAll_self ds fun e he => h e (List.mem_cons_of_mem _ he)]
    rfl
theorem eqv_self : ∀ (n : Nat) (d : D), dep n d = true → PyData.eqv d d = true
  | 0, d, h => by cases d <;> first | (cases h; done) | simp [PyData.eqv]
  | n + 1, .list ds, h => eqvAll_self ds fun d hd => eqv_self n d (List.all_eq_true.mp h d hd)
  | n + 1, .tuple ds, h => eqvAll_self ds fun d hd => eqv_self n d (List.all_eq_true.mp h d hd)
  | n + 1, .none, _ => rfl
  | n + 1, .bool _, _ => by simp [PyData.eqv]
  | n + 1, .int _, _ => by simp [PyData.eqv]
  | n + 1, .str _, _ => by simp [PyData.eqv]
  | n + 1, .dict _, h => by cases h
/-- no bools, no dicts: == is being the same -/
def nob : Nat → D → Bool
  | 0, d => match d with | .none => true | .int _ => true | .str x => (PyData.str x).canLay0 | _ => false
  | n + 1, .list ds => ds.all (nob n)
  | n + 1, .tuple ds => ds.all (nob n)
  | _ + 1, d => match d with | .none => true | .int _ => true | .str x => (PyData.str x).canLay0 | _ => false
theorem nob_dep : ∀ (n : Nat) (d : D), nob n d = true → dep n d = true
  | 0, d, h => by cases d <;> first | (cases h; done) | rfl | exact h
  | n + 1, .list ds, h => List.all_eq_true.mpr fun d hd => nob_dep n d (List.all_eq_true.mp h d hd)
  | n + 1, .tuple ds, h => List.all_eq_true.mpr fun d hd => nob_dep n d (List.all_eq_true.mp h d hd)
  | n + 1, .none, _ => rfl
  | n + 1, .bool _, h => by cases h
  | n + 1, .int _, _ => rfl
  | n + 1, .str _, h => h
  | n + 1, .dict _, h => by cases h
theorem eqvAll_eq : ∀ (ds es : List D), (∀ d ∈ ds, ∀ e ∈ es, PyData.eqv d e = true → d = e) → PyData.eqvAll ds es = true → ds = es
  | [], [], _, _ => rfl
  | [], _ :: _, _, h => by cases h
  | _ :: _, [], _, h => by cases h
  | d :: ds, e :: es, hh, h => by
    have h' : (PyData.eqv d e && PyData.eqvAll ds es) = true := h
    rw [Bool.and_eq_true] at h'
    rw [hh d List.mem_cons_self e List.mem_cons_self h'.1, eqvAll_eq ds es (fun a ha b hb => hh a (List.mem_cons_of_mem _ ha) b (List.mem_cons_of_mem _ hb)) h'.2]
theorem eqv_eq : ∀ (n : Nat) (d e : D), nob n d = true → nob n e = true → PyData.eqv d e = true → d = e
  | 0, d, e, h, h', he => by cases d <;> cases e <;> first | (cases h; done) | (cases h'; done) | (cases he; done) | rfl | (simp [PyData.eqv] at he; rw [he])
  | n + 1, .list ds, .list es, h, h', he => by rw [eqvAll_eq ds es (fun d hd e he => eqv_eq n d e (List.all_eq_true.mp h d hd) (List.all_eq_true.mp h' e he)) he]
  | n + 1, .tuple ds, .tuple es, h, h', he => by rw [eqvAll_eq ds es (fun d hd e he => eqv_eq n d e (List.all_eq_true.mp h d hd) (List.all_eq_true.mp h' e he)) he]
  | n + 1, .none, e, h, h', he => by cases e <;> first | (cases h'; done) | (cases he; done) | rfl
  | n + 1, .int _, e, h, h', he => by cases e <;> first | (cases h'; done) | (cases he; done) | (simp [PyData.eqv] at he; rw [he])
  | n + 1, .str _, e, h, h', he => by cases e <;> first | (cases h'; done) | (cases he; done) | (simp [PyData.eqv] at he; rw [he])
  | n + 1, .bool _, _, h, _, _ => by cases h
  | n + 1, .dict _, _, h, _, _ => by cases h
  | n + 1, .list _, .tuple _, _, _, he => by cases he
  | n + 1, .list _, .none, _, _, he => by cases he
  | n + 1, .list _, .int _, _, _, he => by cases he
  | n + 1, .list _, .str _, _, _, he => by cases he
  | n + 1, .list _, .bool _, _, _, he => by cases he
  | n + 1, .list _, .dict _, _, _, he => by cases he
  | n + 1, .tuple _, .list _, _, _, he => by cases he
  | n + 1, .tuple _, .none, _, _, he => by cases he
  | n + 1, .tuple _, .int _, _, _, he => by cases he
  | n + 1, .tuple _, .str _, _, _, he => by cases he
  | n + 1, .tuple _, .bool _, _, _, he => by cases he
  | n + 1, .tuple _, .dict _, _, _, he => by cases he
theorem nob_ints (n : Nat) (ns : List Int) : (ns.map PyData.int).all (nob n) = true := by
  rw [List.all_map]
  exact List.all_eq_true.mpr fun i _ => by cases n <;> rfl
theorem dep_ints (n : Nat) (ns : List Int) : (ns.map PyData.int).all (dep n) = true := by
  rw [List.all_map]
  exact List.all_eq_true.mpr fun i _ => by cases n <;> rfl
theorem dep_mono : ∀ (n m : Nat) (d : D), n ≤ m → dep n d = true → dep m d = true
  | 0, 0, _, _, h => h
  | 0, m + 1, d, _, h => by cases d <;> first | (cases h; done) | rfl | exact h
  | n + 1, m + 1, .list ds, e, h => List.all_eq_true.mpr fun d hd => dep_mono n m d (by omega) (List.all_eq_true.mp h d hd)
  | n + 1, m + 1, .tuple ds, e, h => List.all_eq_true.mpr fun d hd => dep_mono n m d (by omega) (List.all_eq_true.mp h d hd)
  | n + 1, m + 1, .none, _, _ => rfl
  | n + 1, m + 1, .bool _, _, _ => rfl
  | n + 1, m + 1, .int _, _, _ => rfl
  | n + 1, m + 1, .str _, _, h => h
  | n + 1, m + 1, .dict _, _, h => by cases h
  | _ + 1, 0, _, e, _ => absurd e (by omega)
theorem pop_perm {α : Type} : ∀ (l : List α) (i : Nat) (y : α), l[i]? = some y → (y :: l.eraseIdx i).Perm l
  | [], _, _, h => by simp at h
  | x :: l, 0, y, h => by
    have e : x = y := by simpa using h
    subst e
    exact List.Perm.refl _
  | x :: l, i + 1, y, h => by
    have ih := pop_perm l i y (by simpa using h)
    exact (List.Perm.swap x y (l.eraseIdx i)).trans (ih.cons x)
theorem six {t : Int} {n : Nat} (h0 : 0 ≤ t) (h1 : t < n) : seqIndex? t n = some t.toNat := by
  unfold seqIndex?
  simp only [show ¬ t < 0 by omega, if_false, h0, h1, decide_true, Bool.and_self, if_true]
/-! ### walks over what a list was made of -/
theorem for_inv {α : Type} (inj : α → D) {g : FG} {body : FS} {k : Kt} (Inv : List α → Pv.Env → Prop)
    (step : ∀ x xs e (N : Pv.Env → Prop), Inv (x :: xs) e → (∀ e', Inv xs e' → N e') → toEnv (fun e1 => body e1 { k with nx := N, ct := N, bk := k.nx }) (g (inj x) e)) (fin : ∀ e, Inv [] e → k.nx e) :
    ∀ (xs : List α) (e : Pv.Env), Inv xs e → forGo g body k (xs.map inj) e
  | [], e, h => fin e h
  | x :: xs, e, h => step x xs e _ h fun e' h' => for_inv inj Inv step fin xs e' h'
theorem lc_inv {α : Type} (inj : α → D) {own : List Nat} {g : FG} {ft : FT} {fe : FE} {r : Res} {R : List D → Pv.Env → Prop} (Inv : List α → List D → Pv.Env → Prop)
    (ok : ∀ xs acc e, Inv xs acc e → okb e r)
    (step : ∀ x xs acc e (N : List D → Pv.Env → Prop), Inv (x :: xs) acc e → (∀ acc' e', Inv xs acc' e' → N acc' e') →
      toEnv (fun e1 => ft e1 fun b e2 => match b with
        | true => fe e2 fun ry e3 => noB [ry] ∧ acc.length < sizeLine ∧ N (acc ++ [ry.d]) (wipeE e3 own)
        | false => N acc (wipeE e2 own)) (g (inj x) e)) (fin : ∀ acc e, Inv [] acc e → R acc e) :
    ∀ (xs : List α) (acc : List D) (e : Pv.Env), Inv xs acc e → lcGo own g ft fe r R (xs.map inj) acc e
  | [], acc, e, h => ⟨ok _ _ _ h, fin acc e h⟩
  | x :: xs, acc, e, h => ⟨ok _ _ _ h, step x xs acc e _ h fun acc' e' h' => lc_inv inj Inv ok step fin xs acc' e' h'⟩
/-- .. when nothing is written -/
theorem lc_map {α : Type} (inj : α → D) (f : α → Option D) {own : List Nat} {g : FG} {ft : FT} {fe : FE} {r : Res} {R : List D → Pv.Env → Prop} {E : Pv.Env} {X : List α}
    (step : ∀ x acc (N : List D → Pv.Env → Prop), x ∈ X → acc.length < sizeLine → N (acc ++ (f x).toList) E →
      toEnv (fun e1 => ft e1 fun b e2 => match b with
        | true => fe e2 fun ry e3 => noB [ry] ∧ acc.length < sizeLine ∧ N (acc ++ [ry.d]) (wipeE e3 own)
        | false => N acc (wipeE e2 own)) (g (inj x) E)) (ok : okb E r) (fin : R (X.filterMap f) E) (hl : X.length ≤ sizeLine) : lcGo own g ft fe r R (X.map inj) [] E := by
  refine lc_inv inj (fun xs acc e => e = E ∧ acc.length + xs.length ≤ sizeLine ∧ (∀ x ∈ xs, x ∈ X) ∧ acc ++ xs.filterMap f = X.filterMap f) (fun xs acc e h => by rw [h.1]; exact ok) (fun x xs acc e N h hN => ?_) (fun acc e h => ?_) X [] E ⟨rfl, by rw [List.length_nil, Nat.zero_add]; exact hl, fun x h => h, rfl⟩
  · obtain ⟨rfl, h1, h2, h3⟩ := h
    rw [List.length_cons] at h1
    refine step x acc N (h2 x List.mem_cons_self) (by omega) (hN _ _ ⟨rfl, ?_, fun y hy => h2 y (List.mem_cons_of_mem _ hy), ?_⟩)
    · rw [List.length_append]
      have : (f x).toList.length ≤ 1 := by cases f x <;> simp
      omega
    · rw [← h3]
      cases hf : f x with
      | none => simp [List.filterMap_cons, hf]
      | some y => simp [List.filterMap_cons, hf]
  · obtain ⟨rfl, h1, h2, h3⟩ := h
    rw [List.filterMap_nil, List.append_nil] at h3
    rw [h3]
    exact fin
def enumI {α : Type} : Nat → List α → List (Nat × α)
  | _, [] => []
  | n, d :: ds => (n, d) :: enumI (n + 1) ds
def prI (p : Nat × D) : D := .tuple [.int (p.1 : Int), p.2]
theorem enumD_eq : ∀ (ds : List D) (n : Nat), enumD n ds = (enumI n ds).map prI
  | [], _ => rfl
  | d :: ds, n => by
    show _ :: enumD (n + 1) ds = _ :: (enumI (n + 1) ds).map prI
    rw [enumD_eq ds (n + 1)]
    rfl
theorem enumI_map {α β : Type} (f : α → β) : ∀ (ds : List α) (n : Nat), enumI n (ds.map f) = (enumI n ds).map fun p => (p.1, f p.2)
  | [], _ => rfl
  | d :: ds, n => by
    show _ :: enumI (n + 1) (ds.map f) = _ :: (enumI (n + 1) ds).map _
    rw [enumI_map f ds (n + 1)]
/-- enumerate of ints -/
def prII (p : Nat × Int) : D := .tuple [.int (p.1 : Int), .int p.2]
theorem enumD_ints (ws : List Int) : enumD 0 (ws.map PyData.int) = (enumI 0 ws).map prII := by
  rw [enumD_eq, enumI_map, List.map_map]
  rfl
/-- a list or a tuple of ints -/
def Ints (d : D) (ws : List Int) : Prop := d = .list (ws.map .int) ∨ d = .tuple (ws.map .int)
/-- a standing, list or tuple -/
def Std (d : D) (l : Int) (lot : List Int) (r : Int) : Prop := ∃ dl, Ints dl lot ∧ (d = .tuple [.int l, dl, .int r] ∨ d = .list [.int l, dl, .int r])
/-- a standing as the program makes it -/
def std (l : Int) (lot : List Int) (r : Int) : D := .tuple [.int l, .tuple (lot.map .int), .int r]
theorem Std.of (l : Int) (lot : List Int) (r : Int) : Std (std l lot r) l lot r := ⟨_, .inr rfl, .inl rfl⟩
theorem Ints.of (ws : List Int) : Ints (.tuple (ws.map .int)) ws := .inr rfl
/-- a lot read from the other end -/
def turnI (n : Nat) (lot : List Int) : List Int := (lot.map fun p => (n : Int) - 1 - p).reverse
theorem turnI_len (n : Nat) (lot : List Int) : (turnI n lot).length = lot.length := by
  unfold turnI; rw [List.length_reverse, List.length_map]
/-- what rolls to the right: the pits that hold a bead then, and what leaves -/
def roll (s : Int) (lot : List Int) : List Int → Int → Int → List Int × Int
  | [], _, r => ([], r)
  | d :: ds, p, r =>
    if d < s then roll s lot ds (p + 1) (r + if p ∈ lot then 1 else 0)
    else if p ∈ lot then (p :: (roll s lot ds (p + 1) r).1, (roll s lot ds (p + 1) r).2)
    else if 0 < r then (p :: (roll s lot ds (p + 1) (r - 1)).1, (roll s lot ds (p + 1) (r - 1)).2)
    else roll s lot ds (p + 1) r
/-- a standing after a tilt to the right, and what came out -/
def toR (ws : List Int) (l : Int) (lot : List Int) (r s : Int) : (Int × List Int × Int) × Int := ((0, (roll s lot ws 0 l).1, r + (roll s lot ws 0 l).2), (roll s lot ws 0 l).2)
def tiltF (ws : List Int) (l : Int) (lot : List Int) (r : Int) (right : Bool) (s : Int) : (Int × List Int × Int) × Int :=
  if right then toR ws l lot r s
  else (((toR ws.reverse r (turnI ws.length lot) l s).1.2.2, turnI ws.length (toR ws.reverse r (turnI ws.length lot) l s).1.2.1, (toR ws.reverse r (turnI ws.length lot) l s).1.1), (toR ws.reverse r (turnI ws.length lot) l s).2)
theorem inD_ints (p : Int) (lot : List Int) : inD (.int p) (lot.map .int) = decide (p ∈ lot) := by
  unfold inD
  rw [List.any_map]
  by_cases h : p ∈ lot
  · rw [decide_eq_true h, List.any_eq_true]
    exact ⟨p, h, by simp [PyData.eqv]⟩
  · rw [decide_eq_false h, Bool.eq_false_iff, Ne, List.any_eq_true]
    rintro ⟨x, hx, e⟩
    have : x = p := by simpa [PyData.eqv] using e
    exact h (this ▸ hx)
theorem flat_ints (lot : List Int) : (lot.map PyData.int).all flatD = true := by
  rw [List.all_map]
  exact List.all_eq_true.mpr fun _ _ => rfl
theorem shp_ints (lot : List Int) : shp (.list (lot.map PyData.int)) := dep_shp (n := 1) (dep_ints 0 lot) (by decide)
theorem shp_intsT (lot : List Int) : shp (.tuple (lot.map PyData.int)) := dep_shp (n := 1) (dep_ints 0 lot) (by decide)
/-! a list or a tuple of ints, as it is looked at -/
theorem in_ints {dl : D} {lot : List Int} (h : Ints dl lot) {p : Int} {R : KC} (q : R 0 (.bool (decide (p ∈ lot)))) : dIn (fun b => b) (.int p) R dl := by
  rcases h with rfl | rfl
  · refine ⟨dep_shp (n := 0) rfl (by decide), shp_ints lot, ?_⟩
    rw [inD_ints]; exact q
  · refine ⟨dep_shp (n := 0) rfl (by decide), shp_intsT lot, ?_⟩
    rw [inD_ints]; exact q
theorem notIn_ints {dl : D} {lot : List Int} (h : Ints dl lot) {p : Int} {R : KC} (q : R 0 (.bool (!decide (p ∈ lot)))) : dIn (fun b => !b) (.int p) R dl := by
  rcases h with rfl | rfl
  · refine ⟨dep_shp (n := 0) rfl (by decide), shp_ints lot, ?_⟩
    rw [inD_ints]; exact q
  · refine ⟨dep_shp (n := 0) rfl (by decide), shp_intsT lot, ?_⟩
    rw [inD_ints]; exact q
theorem enum_ints {dl : D} {lot : List Int} (h : Ints dl lot) {P : List D → Prop} (q : P ((enumI 0 lot).map prII)) : overEnum P dl := by
  rcases h with rfl | rfl
  · show P _; rw [enumD_ints]; exact q
  · show P _; rw [enumD_ints]; exact q
/-! ### steps of a reading -/
theorem ev_okb_v {e : Pv.Env} {k : Nat} {d : D} {P : Prop} (q : P) : okb e (.v k d) ∧ P := ⟨trivial, q⟩
theorem ev_okb {e : Pv.Env} {r : Res} {P : Prop} (h : okb e r) (q : P) : okb e r ∧ P := ⟨h, q⟩
theorem ev_scr {ns : List Int} {P : Prop} (q : P) : isScr (ns.map fun n => (PyData.none, PyData.int n)) = true ∧ P := ⟨isScr_map ns, q⟩
theorem ev_dis {l : List Nat} {P : Prop} (h : distinct l = true) (q : P) : distinct l = true ∧ P := ⟨h, q⟩
theorem ev_noB {rs : List Res} {P : Prop} (h : noB rs) (q : P) : noB rs ∧ P := ⟨h, q⟩
theorem ev_own {c : Option Cell} {P : Prop} (h : isOwn c) (q : P) : isOwn c ∧ P := ⟨h, q⟩
theorem ev_flat {r : Res} {P : Prop} (h : flat r) (q : P) : flat r ∧ P := ⟨h, q⟩
theorem ev_away {r : Res} {l : List Nat} {P : Prop} (h : away r l = true) (q : P) : away r l = true ∧ P := ⟨h, q⟩
theorem ev_lst {rs : List Res} {P : Prop} (h : noB rs) (h3 : Nat.ble rs.length 64 = true) (q : P) : (noB rs ∧ rs.length ≤ sizeLine) ∧ P :=
  ⟨⟨h, Nat.le_trans (Nat.le_of_ble_eq_true h3) (by decide)⟩, q⟩
theorem ev_ix {len : Nat} {j : Int} {P : Nat → Prop} (h : (ixN len j).isSome = true) (q : P ((ixN len j).get h)) : ∃ n, ixN len j = some n ∧ P n := ⟨_, (Option.some_get h).symm, q⟩
def intAt : Option Cell → Int
  | some ⟨_, .int a⟩ => a
  | _ => 0
theorem ev_aug {e : Pv.Env} {i : Nat} {P : Int → Prop} (h : getC e i = some (sh (.int (intAt (getC e i))))) (q : P (intAt (getC e i))) : ∃ a : Int, getC e i = some (sh (.int a)) ∧ P a := ⟨_, h, q⟩
theorem rng_eq (lo hi : Int) : rngD lo hi = (List.range' 0 (hi - lo).toNat).map fun i : Nat => PyData.int (lo + (i : Int)) := by
  unfold rngD
  rw [List.range_eq_range']
/-- a channel: that many depths, no two alike -/
def wireOk (m : Int) (ws : List Int) : Prop := 0 < ws.length ∧ (ws.length : Int) ≤ m ∧ ws.Nodup ∧ ∀ w ∈ ws, 1 ≤ w ∧ w < 2 ^ 59
def wireOkP (m : Int) (ws : List Int) : Prop := 0 < ws.length ∧ (ws.length : Int) ≤ m ∧ ws.Nodup ∧ ∀ w ∈ ws, 1 ≤ w ∧ w < 2 ^ 60
theorem wireOk.p {m : Int} {ws : List Int} (h : wireOk m ws) : wireOkP m ws := ⟨h.1, h.2.1, h.2.2.1, fun w hw => ⟨(h.2.2.2 w hw).1, by have := (h.2.2.2 w hw).2; omega⟩⟩
theorem wireOk.of {m : Int} {ws vs : List Int} (h : wireOk m ws) (p : vs.Perm ws) : wireOk m vs :=
  ⟨by rw [p.length_eq]; exact h.1, by rw [p.length_eq]; exact h.2.1, p.nodup_iff.mpr h.2.2.1, fun w hw => h.2.2.2 w (p.mem_iff.mp hw)⟩
theorem nodup_lt {ws : List Int} (h : ws.Pairwise (· < ·)) : ws.Nodup := h.imp fun {a b} h => by omega
theorem perm_map {α β : Type} {f : α → β} : ∀ {es : List β} {vs : List α}, es.Perm (vs.map f) → ∃ us : List α, us.Perm vs ∧ es = us.map f := by
  intro es vs h
  generalize e : vs.map f = ds at h
  induction h generalizing vs with
  | nil => exact ⟨[], by rw [List.map_eq_nil_iff.mp e], rfl⟩
  | cons d h ih =>
    match vs, e with
    | v :: vs, e =>
      obtain ⟨rfl, e2⟩ := List.cons.inj e
      obtain ⟨us, h1, rfl⟩ := ih e2
      exact ⟨v :: us, h1.cons v, rfl⟩
  | swap a b l =>
    match vs, e with
    | v :: w :: vs, e =>
      obtain ⟨rfl, e2⟩ := List.cons.inj e
      obtain ⟨rfl, rfl⟩ := List.cons.inj e2
      exact ⟨w :: v :: vs, List.Perm.swap _ _ _, rfl⟩
  | trans h1 h2 ih1 ih2 =>
    obtain ⟨us, p2, rfl⟩ := ih2 e
    obtain ⟨ws, p1, rfl⟩ := ih1 rfl
    exact ⟨ws, p1.trans p2, rfl⟩
/-- no list in it is greater than 2 ^ 20 -/
def smallF : Nat → D → Bool
  | 0, _ => true
  | n + 1, .list ds => decide (ds.length ≤ 2 ^ 20) && ds.all (smallF n)
  | n + 1, .tuple ds => decide (ds.length ≤ 2 ^ 20) && ds.all (smallF n)
  | _ + 1, _ => true
theorem all_true (n : Nat) : (List.replicate n true).all id = true := by
  rw [List.all_eq_true]
  intro b hb
  rw [List.eq_of_mem_replicate hb]
  rfl
/-- what every law's part is to show: its answer is yes -/
def ph__law_right : Phi := fun args R => ∃ x, args = [x] ∧ Bx 0 x ∧ ∀ x', R (sh (.bool true)) [x']
theorem sorted_uniq : ∀ {xs ys : List Int}, xs.Perm ys → xs.Pairwise (· ≤ ·) → ys.Pairwise (· ≤ ·) → xs = ys
  | [], ys, p, _, _ => by rw [List.Perm.eq_nil p.symm]
  | x :: xs, [], p, _, _ => by cases p.length_eq
  | x :: xs, y :: ys, p, h1, h2 => by
    rw [List.pairwise_cons] at h1 h2
    have e1 : x ≤ y := by
      rcases List.mem_cons.mp (p.mem_iff.mpr (List.mem_cons_self (a := y) (l := ys))) with h | h
      · omega
      · exact h1.1 y h
    have e2 : y ≤ x := by
      rcases List.mem_cons.mp (p.mem_iff.mp (List.mem_cons_self (a := x) (l := xs))) with h | h
      · omega
      · exact h2.1 x h
    have e : x = y := by omega
    subst e
    rw [sorted_uniq (List.Perm.cons_inv p) h1.2 h2.2]
theorem ix_nat {α : Type} {xs : List α} {j : Int} {n : Nat} (h : j = (n : Int)) : ix xs j = xs[n]? := by
  subst h
  unfold ix
  rw [if_pos (by omega)]
  rfl
theorem ev_len {a b : Nat} {P : Prop} (h : a = b) (q : P) : a = b ∧ P := ⟨h, q⟩
/-- of so many levels, none too great -/
def okD (n : Nat) (d : D) : Prop := dep n d = true ∧ smallF n d = true
theorem okD_int {n : Nat} {i : Int} : okD n (.int i) := by cases n <;> exact ⟨rfl, rfl⟩
theorem okD_bl {n : Nat} {i : Bool} : okD n (.bool i) := by cases n <;> exact ⟨rfl, rfl⟩
theorem okD_list {n : Nat} {ds : List D} (hl : ds.length ≤ 2 ^ 20) (h : ∀ d ∈ ds, okD n d) : okD (n + 1) (.list ds) :=
  ⟨List.all_eq_true.mpr fun d hd => (h d hd).1, by
    show (decide (ds.length ≤ 2 ^ 20) && ds.all (smallF n)) = true
    rw [decide_eq_true hl, List.all_eq_true.mpr fun d hd => (h d hd).2]; rfl⟩
theorem okD_tup {n : Nat} {ds : List D} (hl : ds.length ≤ 2 ^ 20) (h : ∀ d ∈ ds, okD n d) : okD (n + 1) (.tuple ds) :=
  ⟨List.all_eq_true.mpr fun d hd => (h d hd).1, by
    show (decide (ds.length ≤ 2 ^ 20) && ds.all (smallF n)) = true
    rw [decide_eq_true hl, List.all_eq_true.mpr fun d hd => (h d hd).2]; rfl⟩
theorem okD_ints {n : Nat} {ws : List Int} (hl : ws.length ≤ 2 ^ 20) : okD (n + 1) (.tuple (ws.map .int)) := okD_tup (by rw [List.length_map]; exact hl) fun d hd => by
  obtain ⟨i, _, rfl⟩ := List.mem_map.mp hd
  exact okD_int
theorem okD_std {n : Nat} {l r : Int} {lot : List Int} (hl : lot.length ≤ 2 ^ 20) : okD (n + 2) (std l lot r) := okD_tup (show (3 : Nat) ≤ 2 ^ 20 by decide) fun d hd => by
  rcases List.mem_cons.mp hd with rfl | hd
  · exact okD_int
  · rcases List.mem_cons.mp hd with rfl | hd
    · exact okD_ints hl
    · rw [List.mem_singleton.mp hd]; exact okD_int
/-! ### standings as triples, rows of tilts -/
abbrev Tr := Int × List Int × Int
def dS (x : Tr) : D := std x.1 x.2.1 x.2.2
def tiltS (ws : List Int) (b : Bool) (s : Int) (x : Tr) : Tr := (tiltF ws x.1 x.2.1 x.2.2 b s).1
def ledS (ws : List Int) (row : List (Bool × Int)) (x : Tr) : Tr := row.foldl (fun x p => tiltS ws p.1 p.2 x) x
def iterS (f : Tr → Tr) : Nat → Tr → Tr
  | 0, x => x
  | n + 1, x => iterS f n (f x)
def sideS (b : Bool) : Str := if b then "right" else "left"
/-- one tilt of a row, as data -/
def prT (p : Bool × Int) : D := .tuple [.str (sideS p.1), .int p.2]
/-- a tilt as a list, as a tuple -/
def prW (w : Bool) (p : Bool × Int) : D := match w with
  | true => .list [.str (sideS p.1), .int p.2]
  | false => .tuple [.str (sideS p.1), .int p.2]
def Row (d : D) (row : List (Bool × Int)) : Prop := ∃ w, d = .list (row.map (prW w)) ∨ d = .tuple (row.map (prW w))
/-- what a standing may be -/
def StdS (d : D) (x : Tr) : Prop := Std d x.1 x.2.1 x.2.2
theorem roll_len (s : Int) (lot : List Int) : ∀ (ws : List Int) (p r : Int), (roll s lot ws p r).1.length ≤ ws.length
  | [], _, _ => Nat.le_refl _
  | w :: ws, p, r => by
    rw [roll]
    split
    · exact Nat.le_succ_of_le (roll_len s lot ws _ _)
    · split
      · exact Nat.succ_le_succ (roll_len s lot ws _ _)
      · split
        · exact Nat.succ_le_succ (roll_len s lot ws _ _)
        · exact Nat.le_succ_of_le (roll_len s lot ws _ _)
theorem tiltF_len (ws : List Int) (l : Int) (lot : List Int) (r : Int) (b : Bool) (s : Int) : (tiltF ws l lot r b s).1.2.1.length ≤ ws.length := by
  unfold tiltF
  cases b with
  | true => exact roll_len s lot ws 0 l
  | false =>
    show (turnI ws.length (roll s (turnI ws.length lot) ws.reverse 0 r).1).length ≤ ws.length
    rw [turnI_len]
    have := roll_len s (turnI ws.length lot) ws.reverse 0 r
    rw [List.length_reverse] at this
    exact this
theorem tiltS_len (ws : List Int) (b : Bool) (s : Int) (x : Tr) : (tiltS ws b s x).2.1.length ≤ ws.length := tiltF_len ws _ _ _ b s
theorem iterS_succ (f : Tr → Tr) : ∀ (n : Nat) (x : Tr), iterS f (n + 1) x = f (iterS f n x)
  | 0, _ => rfl
  | n + 1, x => iterS_succ f n (f x)
theorem ints_inj : ∀ {xs ys : List Int}, xs.map PyData.int = ys.map PyData.int → xs = ys
  | [], [], _ => rfl
  | [], _ :: _, h => by cases h
  | _ :: _, [], h => by cases h
  | x :: xs, y :: ys, h => by
    obtain ⟨h1, h2⟩ := List.cons.inj h
    rw [PyData.int.inj h1, ints_inj h2]
theorem dS_inj {x y : Tr} (h : dS x = dS y) : x = y := by
  obtain ⟨a, b, c⟩ := x
  obtain ⟨a', b', c'⟩ := y
  have h' := PyData.tuple.inj h
  obtain ⟨h1, h2⟩ := List.cons.inj h'
  obtain ⟨h3, h4⟩ := List.cons.inj h2
  obtain ⟨h5, _⟩ := List.cons.inj h4
  have e1 : a = a' := PyData.int.inj h1
  have e2 : b = b' := ints_inj (PyData.tuple.inj h3)
  have e3 : c = c' := PyData.int.inj h5
  rw [e1, e2, e3]
theorem nob_dS (x : Tr) : nob 2 (dS x) = true := by
  show List.all [PyData.int x.1, .tuple (x.2.1.map .int), .int x.2.2] (nob 1) = true
  rw [List.all_cons, List.all_cons, List.all_cons, List.all_nil]
  show (true && (List.all (x.2.1.map PyData.int) (nob 0) && (true && true))) = true
  rw [nob_ints]
  rfl
end Lw

/-! Vl: the law's own entry. -/
namespace Lw
open PySem PySem.Spec PyProof.Rows L2 Pv
/-- the tables that are watched stand there, empty -/
def Tab0 (K : Fg) (H : Hp) : Prop := ∀ p ∈ tabsOf K, H p.1 = some (.tbl #[])
theorem tab0_no {K : Fg} {H : Hp} (h : tabsOf K = []) : Tab0 K H := by
  unfold Tab0
  rw [h]
  nofun
theorem Tab0.start {K : Fg} {H : Hp} (h : Tab0 K H) : ∃ ω : Om, Tabs K ω H ∧ (∀ a, H a ≠ some (.tbl #[]) → ω a = .shr) ∧ Free ω 0 := by
  classical
  refine ⟨fun b => if H b = some (.tbl #[]) then .tab else .shr, fun p hp => ⟨if_pos (h p hp), #[], h p hp, True.intro, fun pos cv hc => ?_⟩, fun a ha => if_neg ha, fun a t p e => ?_⟩
  · have z : codeAmong pos [] = some cv := hc
    simp [codeAmong] at z
  · have e : (if H a = some (.tbl #[]) then Ow.tab else .shr) = .tmp t p := e
    split at e <;> cases e
theorem sp_of_script {K : Fg} {H : Hp} {a : Addr} {ns : List Int} {φ : Phi} {Q : VK} {E : XK} (hS : SqL K H a (ns.map V.int)) (hφ : φ [sh (scrD ns)] fun c _ => c = sh (.bool true)) (hq : ∀ H', Q (.bl true) H') (hT : Tab0 K H) : spOf K [false] φ [.ref a] H Q E := by
  obtain ⟨ω, htab, hsh, hfr⟩ := hT.start
  have hs : Rd H a (.lst (ns.map V.int)) → ω a = .shr := fun hS => hsh a fun z => by
    rcases hS with h | ⟨o, h⟩
    · rw [h] at z; cases z
    · rw [h] at z; cases z
  refine ⟨ω, [sh (scrD ns)], fun c _ => c = sh (.bool true), ⟨⟨rfl, .scr (hS.elim (fun h => .inl ⟨h, hs h⟩) .inr)⟩, trivial⟩, ⟨htab, hfr⟩, hφ, fun v H' ω' c ios _ _ ho hc => ?_⟩
  subst hc
  have h : Rp K ω' H' v (.bool true) := ho
  cases h
  exact hq H'
end Lw

/-! Vg: the words of the automatic runs. -/
namespace Lw
open PySem PySem.Spec PyProof.Rows L2 Pv
/-- a side condition that stands by itself -/
@[irreducible] def Hold (P : Prop) : Prop := P
theorem Hold.mk {P : Prop} (h : P) : Hold P := by unfold Hold; exact h
theorem Hold.out {P : Prop} (h : Hold P) : P := by unfold Hold at h; exact h
/-- at least k draws are left -/
@[irreducible] def Bk (k : Nat) (x : Cell) : Prop := ∃ n, Bx n x ∧ n + k ≤ 2 ^ 59
theorem Bk.get {k : Nat} {x : Cell} (h : Bk k x) : ∃ n, Bx n x ∧ n + k ≤ 2 ^ 59 := by unfold Bk at h; exact h
theorem Bk.of {n k : Nat} {x : Cell} (h : Bx n x) (e : n + k ≤ 2 ^ 59) : Bk k x := by unfold Bk; exact ⟨n, h, e⟩
theorem Bk.le {m k : Nat} {x : Cell} (h : Bk m x) (e : k ≤ m) : Bk k x := by
  obtain ⟨n, h1, h2⟩ := h.get
  exact .of h1 (by omega)
theorem Bk.ex {k : Nat} {x : Cell} (h : Bk k x) : ∃ d, x = ⟨1, d⟩ := by
  obtain ⟨n, h1, h2⟩ := h.get
  exact h1.ex
theorem R_of {R : Cell → List Cell → Prop} {c c' : Cell} {o o' : List Cell} (h : R c o) (e : Hold (c' = c)) (e2 : Hold (o' = o)) : R c' o' := by
  rw [e.out, e2.out]; exact h
/-! ### a list or a tuple of anything -/
def Sq (d : D) (ds : List D) : Prop := d = .list ds ∨ d = .tuple ds
theorem Sq.l (ds : List D) : Sq (.list ds) ds := .inl rfl
theorem Sq.t (ds : List D) : Sq (.tuple ds) ds := .inr rfl
theorem Ints.sq {d : D} {ws : List Int} (h : Ints d ws) : Sq d (ws.map .int) := h
theorem Row.sq {d : D} {row : List (Bool × Int)} (h : Row d row) : ∃ w, Sq d (row.map (prW w)) := h
theorem Ints.l (ws : List Int) : Ints (.list (ws.map .int)) ws := .inl rfl
theorem Ints.t (ws : List Int) : Ints (.tuple (ws.map .int)) ws := .inr rfl
theorem Ints.l0 : Ints (.list []) [] := .inl rfl
theorem Ints.t0 : Ints (.tuple []) [] := .inr rfl
theorem Row.l (ws : List (Bool × Int)) : Row (.list (ws.map prT)) ws := ⟨false, .inl rfl⟩
theorem Row.wl (w : Bool) (ws : List (Bool × Int)) : Row (.list (ws.map (prW w))) ws := ⟨w, .inl rfl⟩
theorem Row.wt (w : Bool) (ws : List (Bool × Int)) : Row (.tuple (ws.map (prW w))) ws := ⟨w, .inr rfl⟩
theorem Row.t (ws : List (Bool × Int)) : Row (.tuple (ws.map prT)) ws := ⟨false, .inr rfl⟩
theorem Row.l0 : Row (.list []) [] := ⟨false, .inl rfl⟩
theorem Row.l1 (b : Bool) (s : Int) : Row (.list [.tuple [.str (sideS b), .int s]]) [(b, s)] := ⟨false, .inl rfl⟩
theorem Row.l1r (s : Int) : Row (.list [.tuple [.str "right", .int s]]) [(true, s)] := ⟨false, .inl rfl⟩
theorem Row.l1l (s : Int) : Row (.list [.tuple [.str "left", .int s]]) [(false, s)] := ⟨false, .inl rfl⟩
theorem StdS.o (x : Tr) : StdS (dS x) x := Std.of _ _ _
theorem StdS.mk (l : Int) (lot : List Int) (r : Int) : StdS (.tuple [.int l, .tuple (lot.map .int), .int r]) (l, lot, r) := Std.of _ _ _
theorem StdS.mk0 (l : Int) (r : Int) : StdS (.tuple [.int l, .tuple [], .int r]) (l, [], r) := Std.of l [] r
theorem Row.t0 : Row (.tuple []) [] := ⟨false, .inr rfl⟩
/-- written ints -/
inductive IL : List D → List Int → Prop
  | nil : IL [] []
  | cons {x : Int} {ds : List D} {xs : List Int} : IL ds xs → IL (.int x :: ds) (x :: xs)
theorem IL.eq : ∀ {ds : List D} {xs : List Int}, IL ds xs → ds = xs.map .int
  | _, _, .nil => rfl
  | _, _, .cons h => by rw [IL.eq h]; rfl
theorem IL.of : ∀ (xs : List Int), IL (xs.map .int) xs
  | [] => .nil
  | _ :: xs => .cons (IL.of xs)
theorem IL.map (xs : List Int) : IL (xs.map .int) xs := IL.of xs
theorem IL.app {a b : List D} {xs ys : List Int} (h : IL a xs) (h' : IL b ys) : IL (a ++ b) (xs ++ ys) := by
  rw [h.eq, h'.eq, ← List.map_append]
  exact IL.of _
theorem Ints.ofIL {ds : List D} {xs : List Int} (h : IL ds xs) : Ints (.list ds) xs := by rw [h.eq]; exact .inl rfl
theorem Ints.ofILt {ds : List D} {xs : List Int} (h : IL ds xs) : Ints (.tuple ds) xs := by rw [h.eq]; exact .inr rfl
/-- written rows -/
inductive RL : List D → List (Bool × Int) → Prop
  | nil : RL [] []
  | consR {x : Int} {ds : List D} {xs : List (Bool × Int)} : RL ds xs → RL (.tuple [.str "right", .int x] :: ds) ((true, x) :: xs)
  | consL {x : Int} {ds : List D} {xs : List (Bool × Int)} : RL ds xs → RL (.tuple [.str "left", .int x] :: ds) ((false, x) :: xs)
  | consS {b : Bool} {x : Int} {ds : List D} {xs : List (Bool × Int)} : RL ds xs → RL (.tuple [.str (sideS b), .int x] :: ds) ((b, x) :: xs)
theorem RL.eq : ∀ {ds : List D} {xs : List (Bool × Int)}, RL ds xs → ds = xs.map prT
  | _, _, .nil => rfl
  | _, _, .consR h => by rw [RL.eq h]; rfl
  | _, _, .consL h => by rw [RL.eq h]; rfl
  | _, _, .consS h => by rw [RL.eq h]; rfl
theorem RL.of : ∀ (xs : List (Bool × Int)), RL (xs.map prT) xs
  | [] => .nil
  | (b, s) :: xs => .consS (RL.of xs)
theorem RL.map (xs : List (Bool × Int)) : RL (xs.map prT) xs := RL.of xs
theorem RL.app {a b : List D} {xs ys : List (Bool × Int)} (h : RL a xs) (h' : RL b ys) : RL (a ++ b) (xs ++ ys) := by
  rw [h.eq, h'.eq, ← List.map_append]
  exact RL.of _
theorem Row.ofRL {ds : List D} {xs : List (Bool × Int)} (h : RL ds xs) : Row (.list ds) xs := by rw [h.eq]; exact ⟨false, .inl rfl⟩
theorem Row.ofRLt {ds : List D} {xs : List (Bool × Int)} (h : RL ds xs) : Row (.tuple ds) xs := by rw [h.eq]; exact ⟨false, .inr rfl⟩
/-! ### functions on lists of ints -/
def gI (ws : List Int) (i : Int) : Int := ws.getD i.toNat 0
@[irreducible] def irange (lo hi : Int) : List Int := (List.range (hi - lo).toNat).map fun i : Nat => lo + (i : Int)
theorem rngD_eq (lo hi : Int) : rngD lo hi = (irange lo hi).map .int := by
  unfold rngD irange
  rw [List.map_map]
  rfl
theorem mem_irange {lo hi i : Int} : i ∈ irange lo hi ↔ lo ≤ i ∧ i < hi := by
  unfold irange
  rw [List.mem_map]
  constructor
  · rintro ⟨n, hn, rfl⟩
    have := List.mem_range.mp hn
    omega
  · rintro ⟨h1, h2⟩
    exact ⟨(i - lo).toNat, List.mem_range.mpr (by omega), by omega⟩
theorem irange_len (lo hi : Int) : (irange lo hi).length = (hi - lo).toNat := by unfold irange; rw [List.length_map, List.length_range]
theorem irange_lt (lo hi : Int) : (irange lo hi).Pairwise (· < ·) := by
  unfold irange
  rw [List.pairwise_map]
  exact List.Pairwise.imp (fun {a b} h => by omega) List.pairwise_lt_range
theorem irange_get {lo hi : Int} {i : Nat} (h : i < (hi - lo).toNat) : (irange lo hi)[i]? = some (lo + (i : Int)) := by
  unfold irange
  rw [List.getElem?_map, List.getElem?_range h]
  rfl
theorem irange_nil {lo hi : Int} (h : hi ≤ lo) : irange lo hi = [] := List.eq_nil_of_length_eq_zero (by rw [irange_len]; omega)
theorem irange_cons {lo hi : Int} (h : lo < hi) : irange lo hi = lo :: irange (lo + 1) hi := by
  refine List.ext_getElem? fun i => ?_
  cases i with
  | zero => rw [irange_get (by omega)]; simp
  | succ i =>
    rw [List.getElem?_cons_succ]
    by_cases hi : i + 1 < (hi - lo).toNat
    · rw [irange_get hi, irange_get (by omega)]
      congr 1; omega
    · rw [List.getElem?_eq_none (by rw [irange_len]; omega), List.getElem?_eq_none (by rw [irange_len]; omega)]
/-- the greatest, the least -/
def mx : List Int → Int
  | [] => 0
  | w :: ws => ws.foldl max w
def mn : List Int → Int
  | [] => 0
  | w :: ws => ws.foldl min w
theorem mx_mem {ws : List Int} (h : 0 < ws.length) : mx ws ∈ ws := by
  match ws, h with
  | w :: ws, _ => exact (foldl_max ws w).1
theorem le_mx {ws : List Int} {x : Int} (h : x ∈ ws) : x ≤ mx ws := by
  match ws, h with
  | w :: ws, h => exact (foldl_max ws w).2 x h
theorem mn_mem {ws : List Int} (h : 0 < ws.length) : mn ws ∈ ws := by
  match ws, h with
  | w :: ws, _ => exact (foldl_min ws w).1
theorem mn_le {ws : List Int} {x : Int} (h : x ∈ ws) : mn ws ≤ x := by
  match ws, h with
  | w :: ws, h => exact (foldl_min ws w).2 x h
/-- sorted -/
def srt (ws : List Int) : List Int := ws.mergeSort fun a b => decide (a ≤ b)
theorem srt_perm (ws : List Int) : (srt ws).Perm ws := List.mergeSort_perm _ _
theorem srt_le (ws : List Int) : (srt ws).Pairwise (· ≤ ·) := by
  have := List.pairwise_mergeSort (le := fun a b : Int => decide (a ≤ b)) (fun a b c h1 h2 => by simp at *; omega) (fun a b => by simp; omega) ws
  exact this.imp fun {a b} h => of_decide_eq_true h
theorem srt_eq {ws vs : List Int} (p : vs.Perm ws) (h : vs.Pairwise (· ≤ ·)) : vs = srt ws := sorted_uniq (p.trans (srt_perm ws).symm) h (srt_le ws)
theorem srt_len (ws : List Int) : (srt ws).length = ws.length := (srt_perm ws).length_eq
/-! ### views: len, list, tuple, in -/
section
variable {α : Type} {inj : α → D} {xs : List α} {ds : List D} {ws lot : List Int} {r : Res} {d : D} {R : KC} {k k' : Nat}
theorem v_len (h : Sq r.d ds) (q : R 0 (.int ds.length)) : apN (at1 oLen) [r] R := apN_op (by rcases h with h | h <;> (show dLen R r.d; rw [h]; exact q))
theorem v_lenM (h : Sq r.d (xs.map inj)) (q : R 0 (.int xs.length)) : apN (at1 oLen) [r] R := v_len h (by rw [List.length_map]; exact q)
theorem v_lenI (h : Ints r.d ws) (q : R 0 (.int ws.length)) : apN (at1 oLen) [r] R := v_lenM (inj := .int) h q
theorem v_list (h : Sq r.d ds) (hf : flat r) (q : R 1 (.list ds)) : apN (at1 oList) [r] R := apN_op (by
  rcases h with h | h <;> (show dList (flat r) R r.d; rw [h])
  · exact ⟨hf, q⟩
  · exact q)
theorem v_tuple (h : Sq r.d ds) (hf : flat r) (q : R 0 (.tuple ds)) : apN (at1 oTuple) [r] R := apN_op (by
  rcases h with h | h <;> (show dTuple (flat r) R r.d; rw [h])
  · exact ⟨hf, q⟩
  · exact q)
theorem v_in {p : Int} (h : Ints r.d lot) (q : R 0 (.bool (decide (p ∈ lot)))) : ap2 oIn (.v k (.int p)) r R := ap2_op (in_ints h q)
theorem v_notIn {p : Int} (h : Ints r.d lot) (q : R 0 (.bool (!decide (p ∈ lot)))) : ap2 oNotIn (.v k (.int p)) r R := ap2_op (notIn_ints h q)
theorem v_sorted (h : r.d = .list (ws.map .int)) (hf : flat r) (q : R 1 (.list ((srt ws).map .int))) : apN (at1 oSorted) [r] R := apN_op (by
  show dSorted (flat r) R r.d
  rw [h]
  exact ⟨hf, .inl ⟨ws, rfl, fun ns' p s => by rw [srt_eq p s]; exact q⟩⟩)
theorem v_sortedT (h : r.d = .tuple (ws.map .int)) (q : R 1 (.list ((srt ws).map .int))) : apN (at1 oSorted) [r] R := apN_op (by
  show dSorted (flat r) R r.d
  rw [h]
  exact ⟨ws, rfl, fun ns' p s => by rw [srt_eq p s]; exact q⟩)
theorem v_sortedS (h : r.d = .list (ws.map .int)) (hf : flat r) (hl : Hold (ws.length ≤ 60)) (q : ∀ us : List Int, us.Pairwise (· < ·) → (∀ k, k ∈ us ↔ k ∈ ws) → us.length ≤ ws.length → R 1 (.list (us.map .int))) : apN (at1 oSortedSet) [r] R := apN_op (by
  show dSortedSet (flat r) R r.d
  rw [h]
  exact ⟨hf, ws, rfl, hl.out, q⟩)
theorem v_sortedS1 {e : Int} (h : r.d = .list (ws.map .int ++ [.int e])) (hf : flat r) (hl : Hold (ws.length + 1 ≤ 60)) (q : ∀ us : List Int, us.Pairwise (· < ·) → (∀ k, k ∈ us ↔ k ∈ ws ++ [e]) → us.length ≤ ws.length + 1 → R 1 (.list (us.map .int))) : apN (at1 oSortedSet) [r] R :=
  v_sortedS (ws := ws ++ [e]) (by rw [h, List.map_append]; rfl) hf (.mk (by rw [List.length_append]; exact hl.out)) fun us h1 h2 h3 => q us h1 h2 (by rw [List.length_append] at h3; exact h3)
theorem v_sortedI (h : Ints r.d ws) (hf : flat r) (q : R 1 (.list ((srt ws).map .int))) : apN (at1 oSorted) [r] R := by
  rcases h with h | h
  · exact v_sorted h hf q
  · exact v_sortedT h q
theorem v_sortedP {ps : List (Int × Int)} (h : r.d = .list (ps.map ijD)) (hf : flat r) (q : ∀ ps' : List (Int × Int), ps'.Perm ps → R 1 (.list (ps'.map ijD))) : apN (at1 oSorted) [r] R := apN_op (by
  show dSorted (flat r) R r.d
  rw [h]
  exact ⟨hf, .inr ⟨ps, rfl, q⟩⟩)
theorem int_le_antisymm' {a b : Int} (h : a ≤ b) (h' : b ≤ a) : a = b := by omega
theorem v_maxDf {i : Int} (h : r.d = .list (ws.map .int)) (hf : flat r) (q : R 0 (.int (mxD i ws))) : apN (at1 (oMaxDf i)) [r] R := apN_op (by
  show dMaxDf (flat r) R i r.d
  rw [h]
  exact ⟨hf, ws, rfl, q⟩)
theorem v_max (h : Ints r.d ws) (hf : flat r) (h0 : Hold (0 < ws.length)) (q : R 0 (.int (mx ws))) : apN (at1 oMax) [r] R := apN_op (by
  have go : ∀ m, m ∈ ws → (∀ y, y ∈ ws → y ≤ m) → R 0 (.int m) := fun m hm hy => by rw [int_le_antisymm' (le_mx hm) (hy _ (mx_mem h0.out))]; exact q
  rcases h with h | h <;> (show dMax (flat r) R r.d; rw [h])
  · exact ⟨hf, ws, rfl, h0.out, go⟩
  · exact ⟨ws, rfl, h0.out, go⟩)
theorem v_min (h : Ints r.d ws) (hf : flat r) (h0 : Hold (0 < ws.length)) (q : R 0 (.int (mn ws))) : apN (at1 oMin) [r] R := apN_op (by
  have go : ∀ m, m ∈ ws → (∀ y, y ∈ ws → m ≤ y) → R 0 (.int m) := fun m hm hy => by rw [int_le_antisymm' (hy _ (mn_mem h0.out)) (mn_le hm)]; exact q
  rcases h with h | h <;> (show dMin (flat r) R r.d; rw [h])
  · exact ⟨hf, ws, rfl, h0.out, go⟩
  · exact ⟨ws, rfl, h0.out, go⟩)
theorem map_bools {f : α → Bool} : (xs.map fun x => PyData.bool (f x)) = (xs.map f).map .bool := by rw [List.map_map]; rfl
theorem v_all {f : α → Bool} (h : r.d = .list (xs.map fun x => .bool (f x))) (hf : flat r) (q : R 0 (.bool (xs.all f))) : apN (at1 oAll) [r] R := apN_op (by
  show dAll (flat r) R r.d
  rw [h, map_bools]
  refine ⟨hf, _, rfl, ?_⟩
  rw [List.all_map]
  exact q)
theorem v_any {f : α → Bool} (h : r.d = .list (xs.map fun x => .bool (f x))) (hf : flat r) (q : R 0 (.bool (xs.any f))) : apN (at1 oAny) [r] R := apN_op (by
  show dAny (flat r) R r.d
  rw [h, map_bools]
  refine ⟨hf, _, rfl, ?_⟩
  rw [List.any_map]
  exact q)
/-! ### subscripts -/
theorem pick_ix {i : Int} {n : Nat} {v : D} (h0 : i = (n : Int)) (hv : ds[n]? = some v) (q : R 0 v) : pick R (ix ds i) := by
  rw [ix_nat h0, hv]; exact q
theorem v_ix {i : Int} (h : Sq r.d (xs.map inj)) (hf : flat r) (h0 : Hold (0 ≤ i)) (h1 : Hold (i < xs.length)) (q : ∀ x, xs[i.toNat]? = some x → R 0 (inj x)) : ap2 oIx r (.v k (.int i)) R := by
  have h0' := h0.out
  have h1' := h1.out
  have hl : i.toNat < xs.length := by omega
  have e : (xs.map inj)[i.toNat]? = some (inj xs[i.toNat]) := by rw [List.getElem?_map, List.getElem?_eq_getElem hl]; rfl
  have q' := q _ (List.getElem?_eq_getElem hl)
  refine ap2_op ?_
  rcases h with h | h
  · show dIx (flat r) R r.d (.int i)
    rw [h]; exact ⟨hf, pick_ix (by omega) e q'⟩
  · show dIx (flat r) R r.d (.int i)
    rw [h]; exact pick_ix (by omega) e q'
theorem v_ixI {i : Int} (h : Ints r.d ws) (hf : flat r) (h0 : Hold (0 ≤ i)) (h1 : Hold (i < ws.length)) (q : R 0 (.int (gI ws i))) : ap2 oIx r (.v k (.int i)) R :=
  v_ix (inj := .int) h hf h0 h1 fun x hx => by
    have : gI ws i = x := by unfold gI; rw [List.getD_eq_getElem?_getD, hx]; rfl
    rw [← this]; exact q
theorem ix_last (h : 0 < ds.length) : ix ds (-1) = ds.getLast? := by
  unfold ix
  rw [if_neg (by omega), if_pos (by omega), List.getLast?_eq_getElem?]
  congr 1; omega
theorem v_ixL (h : Sq r.d (xs.map inj)) (hf : flat r) (h1 : Hold (0 < xs.length)) (q : ∀ x, xs.getLast? = some x → R 0 (inj x)) : ap2 oIx r (.v k (.int (-1))) R := by
  have h1' := h1.out
  have hl : 0 < (xs.map inj).length := by rw [List.length_map]; exact h1'
  obtain ⟨x, hx⟩ : ∃ x, xs.getLast? = some x := by
    rw [List.getLast?_eq_getElem?]
    exact ⟨_, List.getElem?_eq_getElem (by omega)⟩
  have e : pick R (ix (xs.map inj) (-1)) := by
    rw [ix_last hl, List.getLast?_map, hx]
    exact q x hx
  refine ap2_op ?_
  rcases h with h | h
  · show dIx (flat r) R r.d (.int (-1))
    rw [h]; exact ⟨hf, e⟩
  · show dIx (flat r) R r.d (.int (-1))
    rw [h]; exact e
def gL (ws : List Int) : Int := ws.getLastD 0
theorem gL_get {ws : List Int} {y : Int} (h : ws.getLast? = some y) : gL ws = y := by unfold gL; rw [List.getLastD_eq_getLast?, h]; rfl
theorem v_ixLI (h : Ints r.d ws) (hf : flat r) (h1 : Hold (0 < ws.length)) (q : R 0 (.int (gL ws))) : ap2 oIx r (.v k (.int (-1))) R :=
  v_ixL (inj := .int) h hf h1 fun x hx => by rw [gL_get hx] at q; exact q
theorem v_ixF {i : Int} {dd : D} (h : r.d = .list ds) (hf : flat r) (he : ix ds i = some dd) (q : R 0 dd) : ap2 oIx r (.v k (.int i)) R := by
  refine ap2_op ?_
  show dIx (flat r) R r.d (.int i)
  rw [h]
  exact ⟨hf, by rw [he]; exact q⟩
theorem v_ixM {α : Type} [Inhabited α] {inj : α → D} {xs : List α} {i : Int} (h : Sq r.d (xs.map inj)) (hf : flat r) (h0 : Hold (0 ≤ i)) (h1 : Hold (i < xs.length)) (q : R 0 (inj (xs.getD i.toNat default))) : ap2 oIx r (.v k (.int i)) R := by
  have h0' := h0.out
  have h1' := h1.out
  have e : ix (xs.map inj) i = some (inj (xs.getD i.toNat default)) := by
    unfold ix
    rw [if_pos h0', List.getElem?_map, List.getElem?_eq_getElem (by omega), List.getD_eq_getElem?_getD, List.getElem?_eq_getElem (by omega)]
    rfl
  refine ap2_op ?_
  show dIx (flat r) R r.d (.int i)
  rcases h with h | h <;> rw [h]
  · exact ⟨hf, by rw [e]; exact q⟩
  · show pick R (ix (xs.map inj) i); rw [e]; exact q
theorem v_ixA {dd : D} (h : r.d = .list (ds ++ [dd])) (hf : flat r) (q : R 0 dd) : ap2 oIx r (.v k (.int (-1))) R := by
  refine ap2_op ?_
  show dIx (flat r) R r.d (.int (-1))
  rw [h]
  refine ⟨hf, ?_⟩
  rw [ix_last (by simp)]
  simp only [List.getLast?_append, List.getLast?_singleton]
  exact q
theorem v_ixS0 {x : Tr} (h : StdS d x) (q : R 0 (.int x.1)) : ap2 oIx (.v k d) (.v k' (.int 0)) R := by
  obtain ⟨dl, hl, rfl | rfl⟩ := h
  · exact ap2_op q
  · exact ap2_op ⟨trivial, q⟩
theorem v_ixS1 {x : Tr} (h : StdS d x) (q : ∀ dl, Ints dl x.2.1 → R 0 dl) : ap2 oIx (.v k d) (.v k' (.int 1)) R := by
  obtain ⟨dl, hl, rfl | rfl⟩ := h
  · exact ap2_op (q _ hl)
  · exact ap2_op ⟨trivial, q _ hl⟩
theorem v_ixS2 {x : Tr} (h : StdS d x) (q : R 0 (.int x.2.2)) : ap2 oIx (.v k d) (.v k' (.int 2)) R := by
  obtain ⟨dl, hl, rfl | rfl⟩ := h
  · exact ap2_op q
  · exact ap2_op ⟨trivial, q⟩
theorem v_unpP {w : Bool} {p : Bool × Int} {P : Pv.Env → Prop} {gs : FGs} {e : Pv.Env} (q : toEnv P (gs [.str (sideS p.1), .int p.2] e)) : toEnv P (unpk 2 gs (prW w p) e) := by
  cases w
  · exact unpk_tE q
  · exact unpk_lE q
theorem v_seqP {d : D} {row : List (Bool × Int)} {k : Nat} {P : Res → List D → Prop} (h : Row d row) (q : ∀ w k' d', P (.v k' d') (row.map (prW w))) : ovr (overSeq (.v k d) P) d := ovr_op (by
  obtain ⟨w, rfl | rfl⟩ := h
  · exact ⟨trivial, q _ _ _⟩
  · exact q _ _ _)
theorem v_unpS {x : Tr} {P : Pv.Env → Prop} {gs : FGs} {e : Pv.Env} (h : StdS d x) (q : ∀ dl, Ints dl x.2.1 → toEnv P (gs [.int x.1, dl, .int x.2.2] e)) : toEnv P (unpk 3 gs d e) := by
  obtain ⟨dl, hl, rfl | rfl⟩ := h
  · rw [unpk_t]; exact q _ hl
  · rw [unpk_l]; exact q _ hl
/-! ### equality -/
/-- no bools, no dicts in it -/
def Nb (d : D) : Prop := nob 60 d = true
theorem nob_mono : ∀ (n m : Nat) (d : D), n ≤ m → nob n d = true → nob m d = true
  | 0, 0, _, _, h => h
  | 0, m + 1, d, _, h => by cases d <;> first | (cases h; done) | rfl | exact h
  | n + 1, m + 1, .list ds, e, h => List.all_eq_true.mpr fun d hd => nob_mono n m d (by omega) (List.all_eq_true.mp h d hd)
  | n + 1, m + 1, .tuple ds, e, h => List.all_eq_true.mpr fun d hd => nob_mono n m d (by omega) (List.all_eq_true.mp h d hd)
  | n + 1, m + 1, .none, _, _ => rfl
  | n + 1, m + 1, .bool _, _, h => by cases h
  | n + 1, m + 1, .int _, _, _ => rfl
  | n + 1, m + 1, .str _, _, h => h
  | n + 1, m + 1, .dict _, _, h => by cases h
  | _ + 1, 0, _, e, _ => absurd e (by omega)
theorem nb_int (i : Int) : Nb (.int i) := rfl
theorem nb_non : Nb .none := rfl
theorem nb_side (b : Bool) : Nb (.str (sideS b)) := by cases b <;> (show nob 60 _ = true; decide +kernel)
theorem nb_list {ds : List D} (h : ∀ d ∈ ds, nob 59 d = true) : Nb (.list ds) := List.all_eq_true.mpr h
theorem nb_tup {ds : List D} (h : ∀ d ∈ ds, nob 59 d = true) : Nb (.tuple ds) := List.all_eq_true.mpr h
theorem nb_listI (ws : List Int) : Nb (.list (ws.map .int)) := nob_ints 59 ws
theorem nb_tupI (ws : List Int) : Nb (.tuple (ws.map .int)) := nob_ints 59 ws
theorem nb_nil : Nb (.list []) := rfl
theorem nb_nilT : Nb (.tuple []) := rfl
theorem nb_dS (x : Tr) : Nb (dS x) := nob_mono 2 60 _ (by omega) (nob_dS x)
theorem nb_ints (h : Ints d ws) : Nb d := by rcases h with rfl | rfl; exact nb_listI _; exact nb_tupI _
theorem nob_side (b : Bool) (n : Nat) : nob n (.str (sideS b)) = true := by
  have : nob 0 (.str (sideS b)) = true := by cases b <;> decide +kernel
  exact nob_mono 0 n _ (by omega) this
theorem nob_prT (p : Bool × Int) (n : Nat) : nob (n + 1) (prT p) = true := by
  show List.all [PyData.str (sideS p.1), .int p.2] (nob n) = true
  rw [List.all_cons, List.all_cons, List.all_nil, nob_side]
  cases n <;> rfl
theorem nb_row (row : List (Bool × Int)) : Nb (.list (row.map prT)) := nb_list fun d hd => by
  obtain ⟨p, _, rfl⟩ := List.mem_map.mp hd
  exact nob_prT p 58
theorem dEq_nb {p : Bool → Bool} {a b : D} (h1 : Nb a) (h2 : Nb b) (q : ∀ c, (c = true ↔ a = b) → R 0 (.bool (p c))) : dEq p R a b := by
  have h0 : shp a ∧ shp b ∧ R 0 (.bool (p (PyData.eqv a b))) := ⟨dep_shp (nob_dep 60 _ h1) (by decide), dep_shp (nob_dep 60 _ h2) (by decide), q _ ⟨eqv_eq 60 _ _ h1 h2, fun e => by rw [e]; exact eqv_self 60 _ (nob_dep 60 _ h2)⟩⟩
  have h3 : ∀ c : Bool, (c = true ↔ a = b) → R 0 (.bool (p c)) := q
  cases a <;> cases b <;> first
    | exact h0
    | exact h3 _ (by simp)
theorem v_eq {r' : Res} (h1 : Hold (Nb r.d)) (h2 : Hold (Nb r'.d)) (q : ∀ c, (c = true ↔ r.d = r'.d) → R 0 (.bool c)) : ap2 oEq r r' R := ap2_op (dEq_nb h1.out h2.out q)
theorem v_ne {r' : Res} (h1 : Hold (Nb r.d)) (h2 : Hold (Nb r'.d)) (q : ∀ c, (c = true ↔ r.d = r'.d) → R 0 (.bool (!c))) : ap2 oNe r r' R := ap2_op (dEq_nb (p := fun b => !b) h1.out h2.out q)
theorem v_eqI {i j : Int} (q : R 0 (.bool (decide (i = j)))) : ap2 oEq (.v k (.int i)) (.v k' (.int j)) R := ap2_op q
theorem v_neI {i j : Int} (q : R 0 (.bool (!decide (i = j)))) : ap2 oNe (.v k (.int i)) (.v k' (.int j)) R := ap2_op q
theorem sideS_r {b : Bool} : decide (sideS b = "right") = b := by cases b <;> decide
theorem sideS_l {b : Bool} : decide (sideS b = "left") = !b := by cases b <;> decide
theorem sideS_e {b c : Bool} : decide (sideS b = sideS c) = (b == c) := by cases b <;> cases c <;> decide
theorem v_eqR {b : Bool} (q : R 0 (.bool b)) : ap2 oEq (.v k (.str (sideS b))) (.v k' (.str "right")) R := ap2_op (by show R 0 (.bool (decide (sideS b = "right"))); rw [sideS_r]; exact q)
theorem v_eqL {b : Bool} (q : R 0 (.bool (!b))) : ap2 oEq (.v k (.str (sideS b))) (.v k' (.str "left")) R := ap2_op (by show R 0 (.bool (decide (sideS b = "left"))); rw [sideS_l]; exact q)
theorem v_eqSS {b c : Bool} (q : R 0 (.bool (b == c))) : ap2 oEq (.v k (.str (sideS b))) (.v k' (.str (sideS c))) R := ap2_op (by show R 0 (.bool (decide (sideS b = sideS c))); rw [sideS_e]; exact q)
theorem v_eqS {x y : Tr} (q : R 0 (.bool (decide (x = y)))) : ap2 oEq (.v k (dS x)) (.v k' (dS y)) R := v_eq (.mk (nb_dS x)) (.mk (nb_dS y)) fun c hc => by
  have : c = decide (x = y) := by
    rw [Bool.eq_iff_iff, hc, decide_eq_true_eq]
    exact ⟨dS_inj, fun e => by show dS x = dS y; rw [e]⟩
  rw [this]; exact q
theorem v_neS {x y : Tr} (q : R 0 (.bool (!decide (x = y)))) : ap2 oNe (.v k (dS x)) (.v k' (dS y)) R := v_ne (.mk (nb_dS x)) (.mk (nb_dS y)) fun c hc => by
  have : c = decide (x = y) := by
    rw [Bool.eq_iff_iff, hc, decide_eq_true_eq]
    exact ⟨dS_inj, fun e => by show dS x = dS y; rw [e]⟩
  rw [this]; exact q
theorem v_eqTT {x y : List Int} (q : R 0 (.bool (decide (x = y)))) : ap2 oEq (.v k (.tuple (x.map .int))) (.v k' (.tuple (y.map .int))) R := v_eq (.mk (nb_tupI x)) (.mk (nb_tupI y)) fun c hc => by
  have : c = decide (x = y) := by
    rw [Bool.eq_iff_iff, hc, decide_eq_true_eq]
    exact ⟨fun h => ints_inj (PyData.tuple.inj h), fun e => by show PyData.tuple _ = _; rw [e]; rfl⟩
  rw [this]; exact q
theorem v_neTT {x y : List Int} (q : R 0 (.bool (!decide (x = y)))) : ap2 oNe (.v k (.tuple (x.map .int))) (.v k' (.tuple (y.map .int))) R := v_ne (.mk (nb_tupI x)) (.mk (nb_tupI y)) fun c hc => by
  have : c = decide (x = y) := by
    rw [Bool.eq_iff_iff, hc, decide_eq_true_eq]
    exact ⟨fun h => ints_inj (PyData.tuple.inj h), fun e => by show PyData.tuple _ = _; rw [e]; rfl⟩
  rw [this]; exact q
theorem v_eqLL {x y : List Int} (q : R 0 (.bool (decide (x = y)))) : ap2 oEq (.v k (.list (x.map .int))) (.v k' (.list (y.map .int))) R := v_eq (.mk (nb_listI x)) (.mk (nb_listI y)) fun c hc => by
  have : c = decide (x = y) := by
    rw [Bool.eq_iff_iff, hc, decide_eq_true_eq]
    exact ⟨fun h => ints_inj (PyData.list.inj h), fun e => by show PyData.list _ = _; rw [e]; rfl⟩
  rw [this]; exact q
theorem v_neLL {x y : List Int} (q : R 0 (.bool (!decide (x = y)))) : ap2 oNe (.v k (.list (x.map .int))) (.v k' (.list (y.map .int))) R := v_ne (.mk (nb_listI x)) (.mk (nb_listI y)) fun c hc => by
  have : c = decide (x = y) := by
    rw [Bool.eq_iff_iff, hc, decide_eq_true_eq]
    exact ⟨fun h => ints_inj (PyData.list.inj h), fun e => by show PyData.list _ = _; rw [e]; rfl⟩
  rw [this]; exact q
/-- what a comparison tells, known ahead -/
theorem sh_d (d : D) : (sh d).d = d := rfl
theorem sh_k (d : D) : (sh d).k = 0 := rfl
theorem dEq_same {p : Bool → Bool} {a : D} (h : dep 60 a = true) (q : R 0 (.bool (p true))) : dEq p R a a := by
  have h0 : shp a ∧ shp a ∧ R 0 (.bool (p (PyData.eqv a a))) := ⟨dep_shp h (by decide), dep_shp h (by decide), by rw [eqv_self 60 a h]; exact q⟩
  cases a <;> first
    | exact h0
    | (show R 0 (.bool (p (decide (_ = _)))); rw [decide_eq_true rfl]; exact q)
def EqD (a b : D) (c : Bool) : Prop := (Nb a ∧ Nb b ∧ (c = true ↔ a = b)) ∨ (a = b ∧ dep 60 a = true ∧ c = true)
theorem v_eqD {a b : D} {c : Bool} (h : EqD a b c) (q : R 0 (.bool c)) : ap2 oEq (.v k a) (.v k' b) R := by
  rcases h with h | ⟨rfl, h, rfl⟩
  · exact v_eq (.mk h.1) (.mk h.2.1) fun c' hc => by
      have : c' = c := by rw [Bool.eq_iff_iff]; exact hc.trans h.2.2.symm
      rw [this]; exact q
  · exact ap2_op (dEq_same h q)
theorem v_neD {a b : D} {c : Bool} (h : EqD a b c) (q : R 0 (.bool (!c))) : ap2 oNe (.v k a) (.v k' b) R := by
  rcases h with h | ⟨rfl, h, rfl⟩
  · exact v_ne (.mk h.1) (.mk h.2.1) fun c' hc => by
      have : c' = c := by rw [Bool.eq_iff_iff]; exact hc.trans h.2.2.symm
      rw [this]; exact q
  · exact ap2_op (dEq_same (p := fun b => !b) h q)
theorem EqD.same {a b : D} (h : a = b) (hd : dep 60 b = true) : EqD a b true := .inr ⟨h, by rw [h]; exact hd, rfl⟩
section
variable {α : Type} {inj : α → D} {xs : List α} {r r' : Res} {R : KC}
theorem nilL : (PyData.list (xs.map inj) = PyData.list []) ↔ xs = [] := ⟨fun h => List.map_eq_nil_iff.mp (PyData.list.inj h), fun h => by rw [h]; rfl⟩
theorem nilT : (PyData.tuple (xs.map inj) = PyData.tuple []) ↔ xs = [] := ⟨fun h => List.map_eq_nil_iff.mp (PyData.tuple.inj h), fun h => by rw [h]; rfl⟩
theorem isE {c : Bool} {p : Prop} (h : c = true ↔ p) (h2 : p ↔ xs = []) : c = xs.isEmpty := by
  rw [Bool.eq_iff_iff, h, h2, List.isEmpty_iff]
theorem v_eqNL (h : r.d = .list (xs.map inj)) (h' : r'.d = .list []) (hn : Hold (Nb (.list (xs.map inj)))) (q : R 0 (.bool xs.isEmpty)) : ap2 oEq r r' R := v_eq (.mk (by rw [h]; exact hn.out)) (.mk (by rw [h']; exact nb_nil)) fun c hc => by rw [h, h'] at hc; rw [isE hc nilL]; exact q
theorem v_neNL (h : r.d = .list (xs.map inj)) (h' : r'.d = .list []) (hn : Hold (Nb (.list (xs.map inj)))) (q : R 0 (.bool (!xs.isEmpty))) : ap2 oNe r r' R := v_ne (.mk (by rw [h]; exact hn.out)) (.mk (by rw [h']; exact nb_nil)) fun c hc => by rw [h, h'] at hc; rw [isE hc nilL]; exact q
theorem v_eqNT (h : r.d = .tuple (xs.map inj)) (h' : r'.d = .tuple []) (hn : Hold (Nb (.tuple (xs.map inj)))) (q : R 0 (.bool xs.isEmpty)) : ap2 oEq r r' R := v_eq (.mk (by rw [h]; exact hn.out)) (.mk (by rw [h']; exact nb_nilT)) fun c hc => by rw [h, h'] at hc; rw [isE hc nilT]; exact q
theorem v_neNT (h : r.d = .tuple (xs.map inj)) (h' : r'.d = .tuple []) (hn : Hold (Nb (.tuple (xs.map inj)))) (q : R 0 (.bool (!xs.isEmpty))) : ap2 oNe r r' R := v_ne (.mk (by rw [h]; exact hn.out)) (.mk (by rw [h']; exact nb_nilT)) fun c hc => by rw [h, h'] at hc; rw [isE hc nilT]; exact q
end
theorem firstAt_int {q : Int} : ∀ {ws : List Int}, q ∈ ws → firstAt (.int q) (ws.map .int) = some (ws.idxOf q)
  | w :: ws, h => by
    rw [List.map_cons, firstAt, List.idxOf_cons]
    have e : PyData.eqv (.int w) (.int q) = (w == q) := by simp [PyData.eqv]
    rw [e]
    by_cases hq : w = q
    · subst hq; simp
    · have h' : q ∈ ws := (List.mem_cons.mp h).elim (fun z => absurd z.symm hq) id
      rw [firstAt_int h']
      have : (w == q) = false := by simp [hq]
      rw [this]; simp
theorem v_index {r : Res} {k : Nat} {q : Int} {ws : List Int} {R : KC} (h : r.d = .list (ws.map .int)) (hf : flat r) (hq : Hold (q ∈ ws)) (qq : R 0 (.int (ws.idxOf q : Nat))) : ap2 oIndex r (.v k (.int q)) R := ap2_op (by
  show dIndex (flat r) (.int q) R r.d
  rw [h]
  exact ⟨⟨hf, rfl, flat_ints ws⟩, _, firstAt_int hq.out, qq⟩)
theorem v_revL {α : Type} {inj : α → D} {xs : List α} {r : Res} {R : KC} (h : r.d = .list (xs.map inj)) (hf : flat r) (q : R 1 (.list (xs.reverse.map inj))) : ap1 (oStpA (some (-1))) r R := ap1_op (by
  show dStp (flat r) (-1) R r.d
  rw [h]
  refine ⟨⟨hf, .inr rfl⟩, ?_⟩
  rw [if_neg (by decide), ← List.map_reverse]; exact q)
theorem v_revT {α : Type} {inj : α → D} {xs : List α} {r : Res} {R : KC} (h : r.d = .tuple (xs.map inj)) (hf : flat r) (q : R 0 (.tuple (xs.reverse.map inj))) : ap1 (oStpA (some (-1))) r R := ap1_op (by
  show dStp (flat r) (-1) R r.d
  rw [h]
  refine ⟨.inr rfl, ?_⟩
  rw [if_neg (by decide), ← List.map_reverse]; exact q)
theorem sIx_nn {n d : Nat} {k : Int} (h : 0 ≤ k) : HT.sIx n d (some k) = min k.toNat n := by
  show (if k < 0 then (k + (n : Int)).toNat else min k.toNat n) = _
  rw [if_neg (by omega)]
theorem cut_to {α : Type} {xs : List α} {k : Int} (h : 0 ≤ k) : cut xs none (some k) = xs.take k.toNat := by
  unfold cut
  rw [sIx_nn h]
  show (xs.drop 0).take (min k.toNat xs.length - 0) = _
  rw [List.drop_zero, Nat.sub_zero]
  by_cases hk : k.toNat ≤ xs.length
  · rw [Nat.min_eq_left hk]
  · rw [Nat.min_eq_right (by omega), List.take_of_length_le (Nat.le_refl _), List.take_of_length_le (by omega)]
theorem cut_from {α : Type} {xs : List α} {k : Int} (h : 0 ≤ k) : cut xs (some k) none = xs.drop k.toNat := by
  unfold cut
  rw [sIx_nn h]
  show (xs.drop (min k.toNat xs.length)).take (xs.length - min k.toNat xs.length) = _
  by_cases hk : k.toNat ≤ xs.length
  · rw [Nat.min_eq_left hk, List.take_of_length_le (by rw [List.length_drop]; omega)]
  · rw [Nat.min_eq_right (by omega), List.drop_of_length_le (Nat.le_refl _), List.drop_of_length_le (by omega), List.take_nil]
section
variable {α : Type} {inj : α → D} {xs ys : List α} {r r' : Res} {R : KC} {k : Int}
theorem cut_in {α : Type} {xs : List α} {i j : Int} (h : 0 ≤ i) (h' : 0 ≤ j) : cut xs (some i) (some j) = (xs.drop i.toNat).take (j.toNat - i.toNat) := by
  unfold cut
  rw [sIx_nn h, sIx_nn h']
  by_cases hi : i.toNat ≤ xs.length
  · rw [Nat.min_eq_left hi]
    by_cases hj : j.toNat ≤ xs.length
    · rw [Nat.min_eq_left hj]
    · rw [Nat.min_eq_right (by omega), List.take_of_length_le (by rw [List.length_drop]; omega), List.take_of_length_le (by rw [List.length_drop]; omega)]
  · rw [List.drop_eq_nil_of_le (by omega), List.drop_eq_nil_of_le (by omega)]; simp
theorem cut_but {α : Type} {xs : List α} : cut xs none (some (-1)) = xs.dropLast := by
  unfold cut
  have h : HT.sIx xs.length xs.length (some (-1)) = xs.length - 1 := by
    show (if (-1 : Int) < 0 then ((-1 : Int) + (xs.length : Int)).toNat else min (-1 : Int).toNat xs.length) = _
    rw [if_pos (by decide)]; omega
  rw [h, List.dropLast_eq_take]
  rfl
theorem v_slButL (h : r.d = .list (xs.map inj)) (hf : flat r) (q : R 1 (.list (xs.dropLast.map inj))) : ap1 (oSlA none (some (-1))) r R := ap1_op (by
  show dSl (flat r) none (some (-1)) R r.d
  rw [h]
  refine ⟨hf, ?_⟩
  rw [cut_but, List.dropLast_eq_take, List.length_map, ← List.map_take, ← List.dropLast_eq_take]; exact q)
theorem v_slButT (h : r.d = .tuple (xs.map inj)) (q : R 0 (.tuple (xs.dropLast.map inj))) : ap1 (oSlA none (some (-1))) r R := ap1_op (by
  show dSl (flat r) none (some (-1)) R r.d
  rw [h]
  show R 0 (.tuple (cut _ _ _))
  rw [cut_but, List.dropLast_eq_take, List.length_map, ← List.map_take, ← List.dropLast_eq_take]; exact q)
theorem sIx_m1 {n d : Nat} : HT.sIx n d (some (-1)) = n - 1 := by
  show (if (-1 : Int) < 0 then ((-1 : Int) + (n : Int)).toNat else min (-1 : Int).toNat n) = _
  rw [if_pos (by decide)]; omega
theorem cut_mid {α : Type} {xs : List α} : cut xs (some 1) (some (-1)) = (xs.drop 1).dropLast := by
  unfold cut
  rw [sIx_m1, sIx_nn (by decide), List.dropLast_eq_take, List.length_drop]
  cases xs with
  | nil => rfl
  | cons a xs =>
    rw [show min (1 : Int).toNat (a :: xs).length = 1 by rw [List.length_cons]; show min 1 (xs.length + 1) = 1; omega]
theorem cut_last {α : Type} {xs : List α} : cut xs (some (-1)) none = xs.drop (xs.length - 1) := by
  unfold cut
  rw [sIx_m1]
  show (xs.drop (xs.length - 1)).take (xs.length - (xs.length - 1)) = _
  rw [List.take_of_length_le (by rw [List.length_drop]; omega)]
theorem v_slMidL (h : r.d = .list (xs.map inj)) (hf : flat r) (q : R 1 (.list ((xs.drop 1).dropLast.map inj))) : ap1 (oSlA (some 1) (some (-1))) r R := ap1_op (by
  show dSl (flat r) (some 1) (some (-1)) R r.d
  rw [h]
  refine ⟨hf, ?_⟩
  rw [cut_mid, ← List.map_drop, List.dropLast_eq_take, List.length_map, ← List.map_take, ← List.dropLast_eq_take]; exact q)
theorem v_slLastL (h : r.d = .list (xs.map inj)) (hf : flat r) (q : R 1 (.list ((xs.drop (xs.length - 1)).map inj))) : ap1 (oSlA (some (-1)) none) r R := ap1_op (by
  show dSl (flat r) (some (-1)) none R r.d
  rw [h]
  refine ⟨hf, ?_⟩
  rw [cut_last, List.length_map, ← List.map_drop]; exact q)
theorem v_slInL {i : Int} (h : r.d = .list (xs.map inj)) (hf : flat r) (h0 : Hold (0 ≤ i)) (h1 : Hold (0 ≤ k)) (q : R 1 (.list (((xs.drop i.toNat).take (k.toNat - i.toNat)).map inj))) : ap1 (oSlA (some i) (some k)) r R := ap1_op (by
  show dSl (flat r) (some i) (some k) R r.d
  rw [h]
  refine ⟨hf, ?_⟩
  rw [cut_in h0.out h1.out, ← List.map_drop, ← List.map_take]; exact q)
theorem v_slInT {i : Int} (h : r.d = .tuple (xs.map inj)) (h0 : Hold (0 ≤ i)) (h1 : Hold (0 ≤ k)) (q : R 0 (.tuple (((xs.drop i.toNat).take (k.toNat - i.toNat)).map inj))) : ap1 (oSlA (some i) (some k)) r R := ap1_op (by
  show dSl (flat r) (some i) (some k) R r.d
  rw [h]
  show R 0 (.tuple (cut _ _ _))
  rw [cut_in h0.out h1.out, ← List.map_drop, ← List.map_take]; exact q)
theorem v_slToL (h : r.d = .list (xs.map inj)) (hf : flat r) (h0 : Hold (0 ≤ k)) (q : R 1 (.list ((xs.take k.toNat).map inj))) : ap1 (oSlA none (some k)) r R := ap1_op (by
  show dSl (flat r) none (some k) R r.d
  rw [h]
  refine ⟨hf, ?_⟩
  rw [cut_to h0.out, ← List.map_take]; exact q)
theorem v_slToT (h : r.d = .tuple (xs.map inj)) (hf : flat r) (h0 : Hold (0 ≤ k)) (q : R 0 (.tuple ((xs.take k.toNat).map inj))) : ap1 (oSlA none (some k)) r R := ap1_op (by
  show dSl (flat r) none (some k) R r.d
  rw [h]
  show R 0 (.tuple (cut _ _ _))
  rw [cut_to h0.out, ← List.map_take]; exact q)
theorem v_slFromL (h : r.d = .list (xs.map inj)) (hf : flat r) (h0 : Hold (0 ≤ k)) (q : R 1 (.list ((xs.drop k.toNat).map inj))) : ap1 (oSlA (some k) none) r R := ap1_op (by
  show dSl (flat r) (some k) none R r.d
  rw [h]
  refine ⟨hf, ?_⟩
  rw [cut_from h0.out, ← List.map_drop]; exact q)
theorem v_slFromT (h : r.d = .tuple (xs.map inj)) (hf : flat r) (h0 : Hold (0 ≤ k)) (q : R 0 (.tuple ((xs.drop k.toNat).map inj))) : ap1 (oSlA (some k) none) r R := ap1_op (by
  show dSl (flat r) (some k) none R r.d
  rw [h]
  show R 0 (.tuple (cut _ _ _))
  rw [cut_from h0.out, ← List.map_drop]; exact q)
end
theorem v_catL {α : Type} {inj : α → D} {xs ys : List α} {r r' : Res} {R : KC} (h : r.d = .list (xs.map inj)) (h' : r'.d = .list (ys.map inj)) (hf : flat r) (hf' : flat r') (hl : Hold (xs.length + ys.length ≤ 2 ^ 20)) (q : R 1 (.list ((xs ++ ys).map inj))) : ap2 oAdd r r' R := ap2_op (by
  show dAdd (flat r) (flat r') R r.d r'.d
  rw [h, h']
  refine ⟨⟨hf, hf', by rw [List.length_map, List.length_map]; exact Nat.le_trans hl.out (by decide)⟩, ?_⟩
  rw [← List.map_append]; exact q)
theorem v_catT {α : Type} {inj : α → D} {xs ys : List α} {r r' : Res} {R : KC} (h : r.d = .tuple (xs.map inj)) (h' : r'.d = .tuple (ys.map inj)) (hf : flat r) (hf' : flat r') (hl : Hold (xs.length + ys.length ≤ 2 ^ 20)) (q : R 0 (.tuple ((xs ++ ys).map inj))) : ap2 oAdd r r' R := ap2_op (by
  show dAdd (flat r) (flat r') R r.d r'.d
  rw [h, h']
  refine ⟨by rw [List.length_map, List.length_map]; exact Nat.le_trans hl.out (by decide), ?_⟩
  rw [← List.map_append]; exact q)
theorem v_catIL {a b : List D} {xs ys : List Int} {r r' : Res} {R : KC} (h : r.d = .list a) (h' : r'.d = .list b) (ha : IL a xs) (hb : IL b ys) (hf : flat r) (hf' : flat r') (hl : Hold (xs.length + ys.length ≤ 2 ^ 20)) (q : R 1 (.list ((xs ++ ys).map .int))) : ap2 oAdd r r' R :=
  v_catL (inj := .int) (by rw [h, ha.eq]) (by rw [h', hb.eq]) hf hf' hl q
theorem v_catIT {a b : List D} {xs ys : List Int} {r r' : Res} {R : KC} (h : r.d = .tuple a) (h' : r'.d = .tuple b) (ha : IL a xs) (hb : IL b ys) (hf : flat r) (hf' : flat r') (hl : Hold (xs.length + ys.length ≤ 2 ^ 20)) (q : R 0 (.tuple ((xs ++ ys).map .int))) : ap2 oAdd r r' R :=
  v_catT (inj := .int) (by rw [h, ha.eq]) (by rw [h', hb.eq]) hf hf' hl q
theorem pos_of_ne {α : Type} {xs : List α} (h : xs.isEmpty = false) : 0 < xs.length := by
  cases xs with
  | nil => cases h
  | cons _ _ => exact Nat.succ_pos _
theorem flt_le {α : Type} {p : α → Bool} {xs : List α} {n : Nat} (h : xs.length ≤ n) : (xs.filter p).length ≤ n := Nat.le_trans (List.length_filter_le _ _) h
theorem flt_lt {α : Type} {p : α → Bool} {xs : List α} {n : Nat} (h : xs.length < n) : (xs.filter p).length < n := Nat.lt_of_le_of_lt (List.length_filter_le _ _) h
theorem rngDn_eq (a b : Int) : rngDn a b = ((irange (b + 1) (a + 1)).reverse).map .int := by
  unfold rngDn
  refine List.ext_getElem? fun i => ?_
  by_cases hi : i < (a - b).toNat
  · rw [List.getElem?_map, List.getElem?_range hi, List.getElem?_map, List.getElem?_reverse (by rw [irange_len]; omega), irange_len, irange_get (by omega)]
    show some (PyData.int _) = some (PyData.int _)
    congr 2; omega
  · rw [List.getElem?_eq_none (by rw [List.length_map, List.length_range]; omega), List.getElem?_eq_none (by rw [List.length_map, List.length_reverse, irange_len]; omega)]
theorem ev_rgdn {a b : Int} {P : Prop} (h1 : Hold (-(2 ^ 62) ≤ b ∧ a < 2 ^ 62)) (h2 : Hold (-(2 ^ 62) ≤ a ∧ b < 2 ^ 62 ∧ (a - b).toNat ≤ 2 ^ 24)) (q : P) : RgDn a b ∧ P := ⟨⟨h2.out.1, h1.out.2, h1.out.1, h2.out.2.1, h2.out.2.2⟩, q⟩
/-! ### what is walked -/
theorem v_seq {P : Res → List D → Prop} (h : Sq d ds) (q : ∀ k' d', P (.v k' d') ds) : ovr (overSeq (.v k d) P) d := ovr_op (by
  rcases h with rfl | rfl
  · exact ⟨trivial, q _ _⟩
  · exact q _ _)
theorem v_enum {P : List D → Prop} (h : Ints d ws) (q : P ((enumI 0 ws).map prII)) : ovr (overEnum P) d := ovr_op (enum_ints h q)
theorem v_enumM {α : Type} {inj : α → D} {xs : List α} {d : D} {P : List D → Prop} (h : d = .list (xs.map inj) ∨ d = .tuple (xs.map inj)) (q : P ((enumI 0 xs).map fun p => prI (p.1, inj p.2))) : ovr (overEnum P) d := ovr_op (by
  have e : enumD 0 (xs.map inj) = (enumI 0 xs).map fun p => prI (p.1, inj p.2) := by
    rw [enumD_eq, enumI_map, List.map_map]; rfl
  rcases h with rfl | rfl <;> (show P _; rw [e]; exact q))
theorem v_isT : ∀ {r : Res} {R : KC}, isP r.d (R 0 (.bool (match r.d with | .tuple _ => true | _ => false))) → ap1 (oIsi ["tuple"]) r R := by
  intro r R h
  refine ap1_op ?_
  show isP r.d (R 0 (.bool _))
  have : ((["tuple"] : List String).any fun T => isiD T r.d) = (match r.d with | .tuple _ => true | _ => false) := by
    rw [List.any_cons, List.any_nil, Bool.or_false]
    cases hr : r.d with
    | dict kvs => simp only [isiD, tyD]; cases isScr kvs <;> decide +kernel
    | _ => first | rfl | decide +kernel
  rw [this]; exact h
theorem v_isL : ∀ {r : Res} {R : KC}, isP r.d (R 0 (.bool (match r.d with | .list _ => true | .dict kvs => isScr kvs | _ => false))) → ap1 (oIsi ["list"]) r R := by
  intro r R h
  refine ap1_op ?_
  show isP r.d (R 0 (.bool _))
  have : ((["list"] : List String).any fun T => isiD T r.d) = (match r.d with | .list _ => true | .dict kvs => isScr kvs | _ => false) := by
    rw [List.any_cons, List.any_nil, Bool.or_false]
    cases hr : r.d with
    | dict kvs => simp only [isiD, tyD]; cases isScr kvs <;> decide +kernel
    | _ => first | rfl | decide +kernel
  rw [this]; exact h
theorem v_isS : ∀ {r : Res} {R : KC}, isP r.d (R 0 (.bool (match r.d with | .str _ => true | _ => false))) → ap1 (oIsi ["str"]) r R := by
  intro r R h
  refine ap1_op ?_
  show isP r.d (R 0 (.bool _))
  have : ((["str"] : List String).any fun T => isiD T r.d) = (match r.d with | .str _ => true | _ => false) := by
    rw [List.any_cons, List.any_nil, Bool.or_false]
    cases hr : r.d with
    | dict kvs => simp only [isiD, tyD]; cases isScr kvs <;> decide +kernel
    | _ => first | rfl | decide +kernel
  rw [this]; exact h
theorem v_isB : ∀ {r : Res} {R : KC}, isP r.d (R 0 (.bool (match r.d with | .bool _ => true | _ => false))) → ap1 (oIsi ["bool"]) r R := by
  intro r R h
  refine ap1_op ?_
  show isP r.d (R 0 (.bool _))
  have : ((["bool"] : List String).any fun T => isiD T r.d) = (match r.d with | .bool _ => true | _ => false) := by
    rw [List.any_cons, List.any_nil, Bool.or_false]
    cases hr : r.d with
    | dict kvs => simp only [isiD, tyD]; cases isScr kvs <;> decide +kernel
    | _ => first | rfl | decide +kernel
  rw [this]; exact h
theorem v_isI : ∀ {r : Res} {R : KC}, isP r.d (R 0 (.bool (match r.d with | .bool _ => true | .int _ => true | _ => false))) → ap1 (oIsi ["int"]) r R := by
  intro r R h
  refine ap1_op ?_
  show isP r.d (R 0 (.bool _))
  have : ((["int"] : List String).any fun T => isiD T r.d) = (match r.d with | .bool _ => true | .int _ => true | _ => false) := by
    rw [List.any_cons, List.any_nil, Bool.or_false]
    cases hr : r.d with
    | dict kvs => simp only [isiD, tyD]; cases isScr kvs <;> decide +kernel
    | _ => first | rfl | decide +kernel
  rw [this]; exact h
theorem v_isLT : ∀ {r : Res} {R : KC}, isP r.d (R 0 (.bool (match r.d with | .list _ => true | .tuple _ => true | .dict kvs => isScr kvs | _ => false))) → ap1 (oIsi ["list", "tuple"]) r R := by
  intro r R h
  refine ap1_op ?_
  show isP r.d (R 0 (.bool _))
  have : ((["list", "tuple"] : List String).any fun T => isiD T r.d) = (match r.d with | .list _ => true | .tuple _ => true | .dict kvs => isScr kvs | _ => false) := by
    rw [List.any_cons, List.any_cons, List.any_nil, Bool.or_false]
    cases hr : r.d with
    | dict kvs => simp only [isiD, tyD]; cases isScr kvs <;> decide +kernel
    | _ => first | rfl | decide +kernel
  rw [this]; exact h
end
theorem v_rep {r : Res} {R : KC} {ds : List D} {n : Int} {k : Nat} (h : r.d = .list ds) (hf : flat r) (h1 : Hold (-(2 ^ 63) ≤ n)) (h2 : Hold (n < 2 ^ 63)) (h3 : Hold (ds.length * n.toNat ≤ 2 ^ 20)) (q : R 1 (.list (List.replicate n.toNat ds).flatten)) : ap2 oMulA r (.v k (.int n)) R := ap2_op (by
  show dMulA (flat r) R r.d (.int n)
  rw [h]
  exact ⟨⟨hf, h1.out, h2.out, Nat.le_trans h3.out (by decide)⟩, q⟩)
theorem v_repT {r : Res} {R : KC} {d : D} {n k' : Nat} (h : r.d = .tuple [d]) (h1 : Hold (1 ≤ n)) (h2 : Hold (n ≤ 1000)) (q : R 0 (.tuple (List.replicate n d))) : ap2 oMulA r (.v k' (.int (n : Int))) R := ap2_op (by
  show dMulA (flat r) R r.d (.int n)
  rw [h]
  have := h1.out
  have := h2.out
  refine ⟨⟨List.cons_ne_nil _ _, by omega, by omega, show 1 ≤ 1000 by decide⟩, ?_⟩
  rw [Int.toNat_natCast]
  have e : (List.replicate n [d]).flatten = List.replicate n d := by
    clear q h1 h2
    induction n with
    | zero => rfl
    | succ n ih => cases n with
      | zero => rfl
      | succ n => rw [List.replicate_succ, List.flatten_cons, ih (by omega) (by omega), List.replicate_succ (n := n + 1)]; rfl
  rw [e]
  exact q)
theorem v_mulR {R : KC} {i j : Int} {k k' : Nat} (h1 : Hold (-(2 ^ 64) < j)) (h2 : Hold (j < 2 ^ 64)) (q : R 0 (.int (i * j))) : ap2 oMulA (.v k (.int i)) (.v k' (.int j)) R := ap2_op ⟨cmr h1.out h2.out, q⟩
theorem v_mulL {R : KC} {i j : Int} {k k' : Nat} (h1 : Hold (-(2 ^ 64) < i)) (h2 : Hold (i < 2 ^ 64)) (q : R 0 (.int (i * j))) : ap2 oMulA (.v k (.int i)) (.v k' (.int j)) R := ap2_op ⟨cml h1.out h2.out, q⟩
theorem ev_rg {lo hi : Int} {P : Prop} (h1 : Hold (-(2 ^ 62) ≤ lo)) (h2 : Hold (hi < 2 ^ 62)) (h3 : Hold (-(2 ^ 62) ≤ hi ∧ lo < 2 ^ 62 ∧ (hi - lo).toNat ≤ 2 ^ 24)) (q : P) : RgOk lo hi ∧ P := ⟨⟨h1.out, h3.out.2.1, h3.out.1, h2.out, h3.out.2.2⟩, q⟩
theorem ev_r1 {n : Int} {P : Prop} (h1 : Hold (-(2 ^ 62) ≤ n)) (h2 : Hold (n < 2 ^ 62)) (q : P) : (-(2 ^ 62) ≤ n ∧ n < 2 ^ 62) ∧ P := ⟨⟨h1.out, h2.out⟩, q⟩
theorem ev_r2 {m n : Int} {P : Prop} (h1 : Hold (-(2 ^ 62) ≤ m)) (h2 : Hold (m < 2 ^ 62)) (h3 : Hold (-(2 ^ 62) ≤ n)) (h4 : Hold (n < 2 ^ 62)) (q : P) : (-(2 ^ 62) ≤ m ∧ m < 2 ^ 62 ∧ -(2 ^ 62) ≤ n ∧ n < 2 ^ 62) ∧ P := ⟨⟨h1.out, h2.out, h3.out, h4.out⟩, q⟩
theorem ev_pow {i j : Int} {P : Prop} (h : 0 ≤ j ∧ j ≤ 1000000 ∧ i.natAbs < 2 ^ 64) (q : P) : CPow i j ∧ P := ⟨h, q⟩
theorem ev_sz {n : Nat} {P : Prop} (h1 : Hold (n ≤ 2 ^ 20)) (q : P) : n < sizeLine ∧ P := ⟨Nat.lt_of_le_of_lt h1.out (by decide), q⟩
theorem ev_szl {n : Nat} {P : Prop} (h1 : Hold (n ≤ 2 ^ 20)) (q : P) : n ≤ sizeLine ∧ P := ⟨Nat.le_trans h1.out (by decide), q⟩
/-! ### things of few levels -/
def okDs (n : Nat) (ds : List D) : Prop := ∀ d ∈ ds, okD n d
theorem okDs_nil {n : Nat} : okDs n [] := fun d h => by cases h
theorem okDs_cons {n : Nat} {d : D} {ds : List D} (h : okD n d) (h' : okDs n ds) : okDs n (d :: ds) := fun e he => by
  rcases List.mem_cons.mp he with rfl | he
  · exact h
  · exact h' e he
theorem okDs_map {α : Type} {n : Nat} {inj : α → D} {xs : List α} (h : ∀ x ∈ xs, okD n (inj x)) : okDs n (xs.map inj) := fun e he => by
  obtain ⟨x, hx, rfl⟩ := List.mem_map.mp he
  exact h x hx
theorem okD_L {n : Nat} {ds : List D} (hl : Hold (ds.length ≤ 2 ^ 20)) (h : okDs n ds) : okD (n + 1) (.list ds) := okD_list hl.out h
theorem okD_T {n : Nat} {ds : List D} (hl : Hold (ds.length ≤ 2 ^ 20)) (h : okDs n ds) : okD (n + 1) (.tuple ds) := okD_tup hl.out h
theorem okD_dS {n : Nat} {x : Tr} (h : Hold (x.2.1.length ≤ 2 ^ 20)) : okD (n + 2) (dS x) := okD_std h.out
theorem okD_non {n : Nat} : okD n .none := by cases n <;> exact ⟨rfl, rfl⟩
theorem okD_side {n : Nat} {b : Bool} : okD n (.str (sideS b)) := by
  have h : dep 0 (.str (sideS b)) = true := by cases b <;> decide +kernel
  exact ⟨dep_mono 0 n _ (by omega) h, by cases n <;> rfl⟩
/-! ### loops and comprehensions -/
/-- a comprehension that keeps those that p holds of, as g has them -/
theorem lc_fm {α : Type} (inj : α → D) (p : α → Bool) (g : α → D) {own : List Nat} {tg : FG} {ft : FT} {fe : FE} {r : Res} {R : List D → Pv.Env → Prop} {E : Pv.Env} {X : List α}
    (step : ∀ x acc (N : List D → Pv.Env → Prop), x ∈ X → acc.length < sizeLine → (p x = true → N (acc ++ [g x]) E) → (p x = false → N acc E) →
      toEnv (fun e1 => ft e1 fun b e2 => match b with
        | true => fe e2 fun ry e3 => noB [ry] ∧ acc.length < sizeLine ∧ N (acc ++ [ry.d]) (wipeE e3 own)
        | false => N acc (wipeE e2 own)) (tg (inj x) E)) (ok : okb E r) (hl : Hold (X.length ≤ sizeLine)) (fin : R ((X.filter p).map g) E) : apL (lcGo own tg ft fe r R) (X.map inj) [] E := by
  have ef : ∀ l : List α, l.filterMap (fun x => if p x then some (g x) else none) = (l.filter p).map g := fun l => by
    induction l with
    | nil => rfl
    | cons a l ih =>
      rw [List.filterMap_cons, List.filter_cons]
      cases h : p a with
      | true => simp [h, ih]
      | false => simp [h, ih]
  refine apL_op (lc_map inj (fun x => if p x then some (g x) else none) (fun x acc N hx hl hN => step x acc N hx hl (fun h => ?_) (fun h => ?_)) ok (by rw [ef]; exact fin) hl.out)
  · rw [if_pos h] at hN; exact hN
  · rw [if_neg (by rw [h]; decide)] at hN; rw [Option.toList_none, List.append_nil] at hN; exact hN
theorem lc_mp {α : Type} (inj : α → D) (g : α → D) {own : List Nat} {tg : FG} {ft : FT} {fe : FE} {r : Res} {R : List D → Pv.Env → Prop} {E : Pv.Env} {X : List α}
    (step : ∀ x acc (N : List D → Pv.Env → Prop), x ∈ X → acc.length < sizeLine → N (acc ++ [g x]) E →
      toEnv (fun e1 => ft e1 fun b e2 => match b with
        | true => fe e2 fun ry e3 => noB [ry] ∧ acc.length < sizeLine ∧ N (acc ++ [ry.d]) (wipeE e3 own)
        | false => N acc (wipeE e2 own)) (tg (inj x) E)) (ok : okb E r) (hl : Hold (X.length ≤ sizeLine)) (fin : R (X.map g) E) : apL (lcGo own tg ft fe r R) (X.map inj) [] E :=
  lc_fm inj (fun _ => true) g (fun x acc N hx hl h _ => step x acc N hx hl (h rfl)) ok hl (by rw [List.filter_eq_self.mpr fun _ _ => rfl]; exact fin)
theorem lc_fmI {α : Type} (inj : α → D) (p : α → Bool) (h : α → Int) {own : List Nat} {tg : FG} {ft : FT} {fe : FE} {r : Res} {R : List D → Pv.Env → Prop} {E : Pv.Env} {X : List α}
    (step : ∀ x acc (N : List D → Pv.Env → Prop), x ∈ X → acc.length < sizeLine → (p x = true → N (acc ++ [.int (h x)]) E) → (p x = false → N acc E) →
      toEnv (fun e1 => ft e1 fun b e2 => match b with
        | true => fe e2 fun ry e3 => noB [ry] ∧ acc.length < sizeLine ∧ N (acc ++ [ry.d]) (wipeE e3 own)
        | false => N acc (wipeE e2 own)) (tg (inj x) E)) (ok : okb E r) (hl : Hold (X.length ≤ 2 ^ 20)) (fin : R (((X.filter p).map h).map .int) E) : apL (lcGo own tg ft fe r R) (X.map inj) [] E :=
  lc_fm inj p (fun x => .int (h x)) step ok (.mk (Nat.le_trans hl.out (by decide))) (by rw [List.map_map] at fin; exact fin)
/-- a loop, from the slots as they stand ahead of it -/
theorem for_st {α : Type} (inj : α → D) {g : FG} {body : FS} {k : Kt} {xs0 : List α} {E0 : Pv.Env} (Inv : List α → Pv.Env → Pv.Env → Prop) (st : Inv xs0 E0 E0)
    (step : ∀ x xs e (N : Pv.Env → Prop), Inv (x :: xs) E0 e → (∀ e', Inv xs E0 e' → N e') → toEnv (fun e1 => body e1 { k with nx := N, ct := N, bk := k.nx }) (g (inj x) e)) (fin : ∀ e, Inv [] E0 e → k.nx e) : apF (forGo g body k) (xs0.map inj) E0 :=
  apF_op <| for_inv inj (fun xs e => Inv xs E0 e) step fin xs0 E0 st
theorem toEnv_go {P : Pv.Env → Prop} {o : Option Pv.Env} {e : Pv.Env} (h : o = some e) (q : P e) : toEnv P o := by subst h; exact q
theorem toEnv_gT {P : Pv.Env → Prop} {n : Nat} {gs : FGs} {ds : List D} {e e' : Pv.Env} (h : ds.length = n) (h2 : gs ds e = some e') (q : P e') : toEnv P (gT n gs (.tuple ds) e) := by
  show toEnv P (unpk n gs (.tuple ds) e)
  rw [unpk_t, if_pos h, h2]; exact q
/-! ### repr: the text is looked at as a whole -/
@[irreducible] def shw (d : D) : Str := d.shown
theorem shw_eq (d : D) : shw d = d.shown := by unfold shw; rfl
/-- data of at most m layers and n signs -/
structure Rep (m n : Nat) (d : D) : Prop where
  lay : d.canLay0 = true
  sh : d.showable = true
  dp : d.depth ≤ m
  len : d.shown.length ≤ n
theorem Rep.mono {m n m' n' : Nat} {d : D} (h : Rep m n d) (h1 : m ≤ m') (h2 : n ≤ n') : Rep m' n' d := ⟨h.lay, h.sh, Nat.le_trans h.dp h1, Nat.le_trans h.len h2⟩
theorem Rep.int {i : Int} (h : i.natAbs < 10 ^ 19) : Rep 0 20 (.int i) := ⟨rfl, by
  show decide (i.natAbs.log2 < 1920) = true
  rw [decide_eq_true_eq]
  have : i.natAbs < 2 ^ 1920 := Nat.lt_of_lt_of_le h (by decide)
  by_cases h0 : i.natAbs = 0
  · rw [h0]; decide
  · exact (Nat.log2_lt h0).mpr this, Nat.le_refl 0, by
  have e := int_text_length_le10 (k := 19) (by decide) h
  show (Str.ofString (toString i)).length ≤ 20
  rw [PySem.ofString_length]; exact e⟩
theorem Rep.side {b : Bool} : Rep 0 20 (.str (sideS b)) := by
  cases b <;> exact ⟨by decide +kernel, by decide +kernel, by decide +kernel, by decide +kernel⟩
theorem rep_lay {m n : Nat} : ∀ {ds : List D}, (∀ d ∈ ds, Rep m n d) → PyData.canLayAll0 ds = true ∧ PyData.showableAll ds = true ∧ PyData.depthAll ds ≤ m ∧ ((PyData.shownAll ds).map (·.length)).sum ≤ n * ds.length
  | [], _ => ⟨rfl, rfl, Nat.zero_le _, Nat.zero_le _⟩
  | d :: ds, h => by
    obtain ⟨h1, h2, h3, h4⟩ := rep_lay (ds := ds) fun x hx => h x (List.mem_cons_of_mem _ hx)
    have g := h d (List.mem_cons_self ..)
    refine ⟨?_, ?_, ?_, ?_⟩
    · show (PyData.canLay0 d && PyData.canLayAll0 ds) = true
      rw [g.lay, h1]; rfl
    · show (PyData.showable d && PyData.showableAll ds) = true
      rw [g.sh, h2]; rfl
    · exact Nat.max_le.mpr ⟨g.dp, h3⟩
    · show d.shown.length + ((PyData.shownAll ds).map (·.length)).sum ≤ n * (ds.length + 1)
      have := g.len
      rw [Nat.mul_add]; omega
theorem Rep.list {m n : Nat} {ds : List D} (h : ∀ d ∈ ds, Rep m n d) : Rep (m + 1) ((n + 2) * ds.length + 3) (.list ds) := by
  obtain ⟨h1, h2, h3, h4⟩ := rep_lay h
  have h5 := listText_len_le (PyData.shownAll ds)
  have h6 := PyData.shownAll_length ds
  refine ⟨h1, h2, Nat.succ_le_succ h3, ?_⟩
  show (listText (PyData.shownAll ds)).length ≤ _
  rw [h6] at h5
  rw [Nat.add_mul]; omega
theorem Rep.tuple {m n : Nat} {ds : List D} (h : ∀ d ∈ ds, Rep m n d) : Rep (m + 1) ((n + 2) * ds.length + 3) (.tuple ds) := by
  obtain ⟨h1, h2, h3, h4⟩ := rep_lay h
  have h5 := tupleText_len_le (PyData.shownAll ds)
  have h6 := PyData.shownAll_length ds
  refine ⟨h1, h2, Nat.succ_le_succ h3, ?_⟩
  show (tupleText (PyData.shownAll ds)).length ≤ _
  rw [h6] at h5
  rw [Nat.add_mul]; omega
theorem Rep.listM {α : Type} {inj : α → D} {m n l : Nat} {xs : List α} (hl : xs.length ≤ l) (h : ∀ x ∈ xs, Rep m n (inj x)) : Rep (m + 1) ((n + 2) * l + 3) (.list (xs.map inj)) :=
  (Rep.list (m := m) (n := n) fun d hd => by obtain ⟨x, hx, rfl⟩ := List.mem_map.mp hd; exact h x hx).mono (Nat.le_refl _) (by rw [List.length_map]; have := Nat.mul_le_mul_left (n + 2) hl; omega)
theorem Rep.tupleM {α : Type} {inj : α → D} {m n l : Nat} {xs : List α} (hl : xs.length ≤ l) (h : ∀ x ∈ xs, Rep m n (inj x)) : Rep (m + 1) ((n + 2) * l + 3) (.tuple (xs.map inj)) :=
  (Rep.tuple (m := m) (n := n) fun d hd => by obtain ⟨x, hx, rfl⟩ := List.mem_map.mp hd; exact h x hx).mono (Nat.le_refl _) (by rw [List.length_map]; have := Nat.mul_le_mul_left (n + 2) hl; omega)
theorem Rep.ints {l : Nat} {ws : List Int} (hl : ws.length ≤ l) (h : ∀ x ∈ ws, x.natAbs < 10 ^ 19) : Rep 1 (22 * l + 3) (.list (ws.map .int)) := Rep.listM hl fun x hx => Rep.int (h x hx)
theorem Rep.intsT {l : Nat} {ws : List Int} (hl : ws.length ≤ l) (h : ∀ x ∈ ws, x.natAbs < 10 ^ 19) : Rep 1 (22 * l + 3) (.tuple (ws.map .int)) := Rep.tupleM hl fun x hx => Rep.int (h x hx)
/-- a standing -/
theorem Rep.dS {l : Nat} {x : Tr} (h1 : x.1.natAbs < 10 ^ 19) (h2 : x.2.2.natAbs < 10 ^ 19) (hl : x.2.1.length ≤ l) (h : ∀ y ∈ x.2.1, y.natAbs < 10 ^ 19) : Rep 2 (66 * l + 80) (dS x) := by
  have a : ∀ d ∈ [PyData.int x.1, .tuple (x.2.1.map .int), .int x.2.2], Rep 1 (22 * l + 23) d := by
    intro d hd
    simp only [List.mem_cons, List.not_mem_nil, or_false] at hd
    rcases hd with rfl | rfl | rfl
    · exact (Rep.int h1).mono (by omega) (by omega)
    · exact (Rep.intsT hl h).mono (by omega) (by omega)
    · exact (Rep.int h2).mono (by omega) (by omega)
  exact (Rep.tuple a).mono (by omega) (by show (22 * l + 23 + 2) * 3 + 3 ≤ _; omega)
theorem Rep.prW {w : Bool} {p : Bool × Int} (h : p.2.natAbs < 10 ^ 19) : Rep 1 47 (prW w p) := by
  have a : ∀ d ∈ [PyData.str (sideS p.1), .int p.2], Rep 0 20 d := by
    intro d hd
    simp only [List.mem_cons, List.not_mem_nil, or_false] at hd
    rcases hd with rfl | rfl
    · exact Rep.side
    · exact Rep.int h
  cases w
  · exact (Rep.tuple a).mono (by omega) (by show (20 + 2) * 2 + 3 ≤ 47; omega)
  · exact (Rep.list a).mono (by omega) (by show (20 + 2) * 2 + 3 ≤ 47; omega)
theorem Rep.d {m n : Nat} {d : D} (h : Rep m n d) (hs : ∃ ds, d = .list ds ∨ d = .tuple ds) (hm : m ≤ 60 := by decide) (hn : n ≤ 10000000 := by decide) : RepD d :=
  ⟨h.lay, h.sh, Nat.le_trans h.dp hm, Nat.le_trans (Nat.le_trans h.len hn) (by rw [sizeLine_eq]; decide)⟩
theorem Rep.a {m n : Nat} {d : D} (h : Rep m n d) (hm : m ≤ 60 := by decide) (hn : n ≤ 10000000 := by decide) : RepD d :=
  ⟨h.lay, h.sh, Nat.le_trans h.dp hm, Nat.le_trans (Nat.le_trans h.len hn) (by rw [sizeLine_eq]; decide)⟩
section
variable {r : Res} {d : D} {R : KC} {k k' : Nat}
theorem v_reprV (h : Hold (RepD d)) (q : R 0 (.str (shw d))) : apN (at1 oRepr) [.v k d] R := apN_op (by show RepD d ∧ R 0 (.str d.shown); rw [← shw_eq]; exact ⟨h.out, q⟩)
theorem v_reprB (h : Hold (RepD d)) (q : R 0 (.str (shw d))) : apN (at1 oRepr) [.b k k' d] R := apN_op (by show RepD d ∧ R 0 (.str d.shown); rw [← shw_eq]; exact ⟨h.out, q⟩)
theorem v_eqW (q : R 0 (.bool true)) : ap2 oEq (.v k (.str (shw d))) (.v k' (.str (shw d))) R := ap2_op (by show R 0 (.bool (decide (shw d = shw d))); rw [decide_eq_true rfl]; exact q)
theorem v_neW (q : R 0 (.bool false)) : ap2 oNe (.v k (.str (shw d))) (.v k' (.str (shw d))) R := ap2_op (by show R 0 (.bool (!decide (shw d = shw d))); rw [decide_eq_true rfl]; exact q)
end
/-- the box is a list of ints: a slot may be lent -/
theorem lend_bx {m : Nat} {z : D} {e e' : Pv.Env} (h : Bk m (ow z)) : ∀ j ∈ [0], (some (ow z) :: e' : Pv.Env)[j]? = (some (ow z) :: e : Pv.Env)[j]? ∧ ∃ ns : List Int, (some (ow z) :: e : Pv.Env)[j]? = some (some ⟨1, .list (ns.map .int)⟩) := by
  intro j hj
  have hj0 : j = 0 := by simpa using hj
  subst hj0
  obtain ⟨n, ⟨a, b, c, e1, _⟩, _⟩ := h.get
  exact ⟨rfl, [a, b, c], congrArg (fun q => some (some q)) e1⟩
end Lw

/-! Vm: what tilts do, in plain Lean. -/
namespace Lw
open PySem PySem.Spec PyProof.Rows L2 Pv
/-- how many of a lot from p on -/
def cnt (lot : List Int) (p : Int) : Nat → Int
  | 0 => 0
  | n + 1 => (if p ∈ lot then 1 else 0) + cnt lot (p + 1) n
theorem irange_rev_map (a b n : Int) : ((irange a b).map fun p => n - 1 - p).reverse = irange (n - b) (n - a) := by
  refine List.ext_getElem? fun i => ?_
  by_cases hi : i < (b - a).toNat
  · rw [List.getElem?_reverse (by rw [List.length_map, irange_len]; exact hi), List.length_map, irange_len, List.getElem?_map, irange_get (by omega), irange_get (by omega)]
    show some (n - 1 - (a + (((b - a).toNat - 1 - i : Nat) : Int))) = _
    congr 1; omega
  · rw [List.getElem?_eq_none (by rw [List.length_reverse, List.length_map, irange_len]; omega), List.getElem?_eq_none (by rw [irange_len]; omega)]
theorem iterS_fix {f : Tr → Tr} {y : Tr} (h : f y = y) : ∀ n, iterS f n y = y
  | 0 => rfl
  | n + 1 => by rw [iterS, h]; exact iterS_fix h n
theorem tiltS_r (ws : List Int) (s l : Int) (lot : List Int) (r : Int) : tiltS ws true s (l, lot, r) = (0, (roll s lot ws 0 l).1, r + (roll s lot ws 0 l).2) := rfl
theorem tiltS_l (ws : List Int) (s l : Int) (lot : List Int) (r : Int) : tiltS ws false s (l, lot, r) = (l + (roll s (turnI ws.length lot) ws.reverse 0 r).2, turnI ws.length (roll s (turnI ws.length lot) ws.reverse 0 r).1, 0) := rfl
/-! ### pit by pit in an order -/
def rollO (dp : Int → Int) (s : Int) (lot : List Int) : List Int → Int → List Int × Int
  | [], r => ([], r)
  | q :: ord, r =>
    if dp q < s then rollO dp s lot ord (r + if q ∈ lot then 1 else 0)
    else if q ∈ lot then (q :: (rollO dp s lot ord r).1, (rollO dp s lot ord r).2)
    else if 0 < r then (q :: (rollO dp s lot ord (r - 1)).1, (rollO dp s lot ord (r - 1)).2)
    else rollO dp s lot ord r
def ordB (n : Nat) (b : Bool) : List Int := if b then irange 0 n else (irange 0 n).reverse
theorem roll_eq {dp : Int → Int} {s : Int} {lot : List Int} : ∀ (ws : List Int) (p r : Int), (∀ (i : Nat) (h : i < ws.length), dp (p + i) = ws[i]) → roll s lot ws p r = rollO dp s lot (irange p (p + ws.length)) r
  | [], p, r, _ => by rw [irange_nil (by simp)]; rfl
  | w :: ws, p, r, h => by
    have h0 : dp p = w := by have := h 0 (by simp); simpa using this
    have ih := fun r => roll_eq (dp := dp) (s := s) (lot := lot) ws (p + 1) r fun i hi => by
      have := h (i + 1) (by simpa using hi)
      rw [show p + 1 + (i : Int) = p + ((i + 1 : Nat) : Int) by omega]
      simpa using this
    rw [List.length_cons, irange_cons (by omega), show p + ((ws.length + 1 : Nat) : Int) = p + 1 + (ws.length : Int) by omega, roll, rollO, h0, ih, ih, ih]
theorem rollO_map {dp dp' : Int → Int} {s : Int} {lot lot' : List Int} {f : Int → Int} : ∀ (ord : List Int) (r : Int), (∀ q ∈ ord, dp' q = dp (f q)) → (∀ q ∈ ord, (q ∈ lot' ↔ f q ∈ lot)) → rollO dp s lot (ord.map f) r = ((rollO dp' s lot' ord r).1.map f, (rollO dp' s lot' ord r).2)
  | [], r, _, _ => rfl
  | q :: ord, r, h, h2 => by
    have hq := h q List.mem_cons_self
    have hl := h2 q List.mem_cons_self
    have ih := fun r => rollO_map (dp := dp) (dp' := dp') (s := s) (lot := lot) (lot' := lot') (f := f) ord r (fun x hx => h x (List.mem_cons_of_mem _ hx)) (fun x hx => h2 x (List.mem_cons_of_mem _ hx))
    rw [List.map_cons, rollO, rollO, ih, ih, ih, hq]
    by_cases hm : q ∈ lot'
    · rw [if_pos hm, if_pos hm, if_pos (hl.mp hm), if_pos (hl.mp hm)]
      split <;> rfl
    · rw [if_neg hm, if_neg hm, if_neg (fun z => hm (hl.mpr z)), if_neg (fun z => hm (hl.mpr z))]
      split
      · rfl
      · split <;> rfl
theorem gI_nat {ws : List Int} {i : Nat} (h : i < ws.length) : gI ws (i : Int) = ws[i] := by unfold gI; rw [Int.toNat_natCast, List.getD_eq_getElem?_getD, List.getElem?_eq_getElem h]; rfl
/-- what comes from a tilt's own side -/
def src (b : Bool) (x : Tr) : Int := if b then x.1 else x.2.2
def OO (ws : List Int) (b : Bool) (s : Int) (x : Tr) : List Int × Int := rollO (gI ws) s x.2.1 (ordB ws.length b) (src b x)
theorem mem_turnI {n : Nat} {lot : List Int} {q : Int} : q ∈ turnI n lot ↔ (n : Int) - 1 - q ∈ lot := by
  unfold turnI
  rw [List.mem_reverse, List.mem_map]
  constructor
  · rintro ⟨p, hp, rfl⟩
    rw [show (n : Int) - 1 - (n - 1 - p) = p by omega]; exact hp
  · intro h
    exact ⟨_, h, by omega⟩
theorem rollL_O (ws : List Int) (s r : Int) (lot : List Int) : rollO (gI ws) s lot (irange 0 ws.length).reverse r = ((turnI ws.length (roll s (turnI ws.length lot) ws.reverse 0 r).1).reverse, (roll s (turnI ws.length lot) ws.reverse 0 r).2) := by
  have h1 := roll_eq (dp := fun q => gI ws (ws.length - 1 - q)) (s := s) (lot := turnI ws.length lot) ws.reverse 0 r fun i hi => by
    rw [List.length_reverse] at hi
    rw [List.getElem_reverse, show (ws.length : Int) - 1 - (0 + (i : Int)) = ((ws.length - 1 - i : Nat) : Int) by omega, gI_nat]
  rw [List.length_reverse, Int.zero_add] at h1
  have h2 : (irange 0 (ws.length : Int)).reverse = (irange 0 (ws.length : Int)).map (fun p => (ws.length : Int) - 1 - p) := by
    have := irange_rev_map 0 ws.length ws.length
    rw [Int.sub_self, Int.sub_zero] at this
    rw [← this, List.reverse_reverse, this]
  rw [h2, rollO_map (dp := gI ws) (dp' := fun q => gI ws (ws.length - 1 - q)) (lot' := turnI ws.length lot) _ _ (fun q _ => rfl) (fun q _ => mem_turnI), ← h1]
  unfold turnI
  rw [List.reverse_reverse]
theorem rollR_O (ws : List Int) (s r : Int) (lot : List Int) : rollO (gI ws) s lot (irange 0 ws.length) r = roll s lot ws 0 r := by
  have h1 := roll_eq (dp := gI ws) (s := s) (lot := lot) ws 0 r fun i hi => by rw [Int.zero_add, gI_nat hi]
  rw [h1, Int.zero_add]
theorem tiltS_O (ws : List Int) (b : Bool) (s : Int) (x : Tr) : tiltS ws b s x = if b then (0, (OO ws b s x).1, x.2.2 + (OO ws b s x).2) else (x.1 + (OO ws b s x).2, (OO ws b s x).1.reverse, 0) := by
  obtain ⟨l, lot, r⟩ := x
  cases b with
  | true => rw [tiltS_r]; show _ = (0, (rollO (gI ws) s lot (irange 0 ws.length) l).1, r + (rollO (gI ws) s lot (irange 0 ws.length) l).2); rw [rollR_O]
  | false =>
    rw [tiltS_l]
    show _ = (l + (rollO (gI ws) s lot (irange 0 ws.length).reverse r).2, (rollO (gI ws) s lot (irange 0 ws.length).reverse r).1.reverse, 0)
    rw [rollL_O, List.reverse_reverse]
def rolS (ws : List Int) (b : Bool) (s : Int) (x : Tr) : Int := (tiltF ws x.1 x.2.1 x.2.2 b s).2
theorem rolS_O (ws : List Int) (b : Bool) (s : Int) (x : Tr) : rolS ws b s x = (OO ws b s x).2 := by
  obtain ⟨l, lot, r⟩ := x
  cases b with
  | true => show (roll s lot ws 0 l).2 = (rollO (gI ws) s lot (irange 0 ws.length) l).2; rw [rollR_O]
  | false => show (roll s (turnI ws.length lot) ws.reverse 0 r).2 = (rollO (gI ws) s lot (irange 0 ws.length).reverse r).2; rw [rollL_O]
theorem rollO_sub (dp : Int → Int) (s : Int) (lot : List Int) : ∀ (ord : List Int) (r : Int), ((rollO dp s lot ord r).1).Sublist ord
  | [], _ => .slnil
  | q :: ord, r => by
    rw [rollO]
    split
    · exact (rollO_sub dp s lot ord _).cons q
    · split
      · exact (rollO_sub dp s lot ord _).cons₂ q
      · split
        · exact (rollO_sub dp s lot ord _).cons₂ q
        · exact (rollO_sub dp s lot ord _).cons q
theorem rollO_deep (dp : Int → Int) (s : Int) (lot : List Int) : ∀ (ord : List Int) (r q : Int), q ∈ (rollO dp s lot ord r).1 → s ≤ dp q
  | [], _, _, h => by cases h
  | q' :: ord, r, q, h => by
    rw [rollO] at h
    split at h
    · exact rollO_deep dp s lot ord _ q h
    · split at h
      · rcases List.mem_cons.mp h with rfl | h
        · omega
        · exact rollO_deep dp s lot ord _ q h
      · split at h
        · rcases List.mem_cons.mp h with rfl | h
          · omega
          · exact rollO_deep dp s lot ord _ q h
        · exact rollO_deep dp s lot ord _ q h
theorem rollO_keep (dp : Int → Int) (s : Int) (lot : List Int) : ∀ (ord : List Int) (r q : Int), q ∈ ord → q ∈ lot → s ≤ dp q → q ∈ (rollO dp s lot ord r).1
  | [], _, _, h, _, _ => by cases h
  | q' :: ord, r, q, h, hl, hd => by
    rw [rollO]
    rcases List.mem_cons.mp h with rfl | h
    · rw [if_neg (by omega), if_pos hl]; exact List.mem_cons_self
    · split
      · exact rollO_keep dp s lot ord _ q h hl hd
      · split
        · exact List.mem_cons_of_mem _ (rollO_keep dp s lot ord _ q h hl hd)
        · split
          · exact List.mem_cons_of_mem _ (rollO_keep dp s lot ord _ q h hl hd)
          · exact rollO_keep dp s lot ord _ q h hl hd
theorem rollO_nn (dp : Int → Int) (s : Int) (lot : List Int) : ∀ (ord : List Int) (r : Int), 0 ≤ r → 0 ≤ (rollO dp s lot ord r).2
  | [], _, h => h
  | q :: ord, r, h => by
    rw [rollO]
    split
    · exact rollO_nn dp s lot ord _ (by split <;> omega)
    · split
      · exact rollO_nn dp s lot ord _ h
      · split
        · exact rollO_nn dp s lot ord _ (by omega)
        · exact rollO_nn dp s lot ord _ h
/-- beads are kept -/
theorem rollO_cnt (dp : Int → Int) (s : Int) (lot : List Int) : ∀ (ord : List Int) (r : Int), 0 ≤ r → ((rollO dp s lot ord r).1.length : Int) + (rollO dp s lot ord r).2 = r + ((ord.filter (· ∈ lot)).length : Int)
  | [], r, _ => by simp [rollO]
  | q :: ord, r, h => by
    have ih := fun r h => rollO_cnt dp s lot ord r h
    rw [rollO, List.filter_cons]
    by_cases hm : q ∈ lot
    · simp only [hm, decide_true, if_true]
      split
      · have := ih (r + 1) (by omega)
        rw [List.length_cons]; omega
      · have := ih r h
        rw [List.length_cons, List.length_cons]; omega
    · simp only [hm, decide_false, if_false, Bool.false_eq_true, Int.add_zero]
      split
      · exact ih r h
      · split
        · have := ih (r - 1) (by omega)
          rw [List.length_cons]; omega
        · exact ih r h
/-- what is still free behind a tilt -/
def freeO (dp : Int → Int) (s : Int) (L ord : List Int) : List Int := ord.filter fun i => decide (s ≤ dp i) && !decide (i ∈ L)
/-! ### bead by bead, the foremost first -/
/-- what lies beyond a pit -/
def overO (ord : List Int) (q : Int) : List Int := (ord.reverse.take (ord.reverse.idxOf q)).reverse
def ownStep (dp : Int → Int) (s : Int) (ord : List Int) (st : List Int × Int) (spot : Option Int) : List Int × Int :=
  let over := match spot with | none => ord | some q => overO ord q
  (st.1 ++ (freeO dp s st.1 over).take 1, st.2 + if freeO dp s st.1 over = [] then 1 else 0)
def beginsO (dp : Int → Int) (s : Int) (lot ord : List Int) (rear : Nat) : List (Option Int) := ((ord.reverse.filter fun q => decide (q ∈ lot) && decide (dp q < s)).map some) ++ List.replicate rear none
/-- a state that is as a sweep over c has it, beside what stood elsewhere -/
def Fits (dp : Int → Int) (s : Int) (lot : List Int) (full0 c : List Int) (r : Int) (st : List Int × Int) : Prop :=
  (∀ i ∈ c, (i ∈ st.1 ↔ i ∈ (rollO dp s lot c r).1)) ∧ (∀ i, i ∉ c → (i ∈ st.1 ↔ i ∈ full0)) ∧ st.2 = (rollO dp s lot c r).2 ∧ st.1.Nodup
/-! ### standings that are right -/
def okS (n : Nat) (x : Tr) : Prop := 0 ≤ x.1 ∧ 0 ≤ x.2.2 ∧ x.2.1.Pairwise (· < ·) ∧ ∀ p ∈ x.2.1, 0 ≤ p ∧ p < n
theorem rise_len : ∀ (xs : List Int) (a b : Int), xs.Pairwise (· < ·) → (∀ p ∈ xs, a ≤ p ∧ p < b) → xs.length ≤ (b - a).toNat
  | [], _, _, _, _ => Nat.zero_le _
  | x :: xs, a, b, h, h2 => by
    obtain ⟨h3, h4⟩ := List.pairwise_cons.mp h
    have hx := h2 x List.mem_cons_self
    have := rise_len xs (x + 1) b h4 fun p hp => ⟨by have := h3 p hp; omega, (h2 p (List.mem_cons_of_mem _ hp)).2⟩
    rw [List.length_cons]
    omega
theorem okS.len {n : Nat} {x : Tr} (h : okS n x) : x.2.1.length ≤ n := by
  have := rise_len x.2.1 0 n h.2.2.1 h.2.2.2
  omega
theorem ordB_nodup (n : Nat) (b : Bool) : (ordB n b).Nodup := by
  unfold ordB
  cases b with
  | true => exact nodup_lt (irange_lt 0 n)
  | false => exact List.pairwise_reverse.mpr ((nodup_lt (irange_lt 0 n)).imp fun {a b} h => Ne.symm h)
theorem mem_ordB {n : Nat} {b : Bool} {q : Int} : q ∈ ordB n b ↔ 0 ≤ q ∧ q < n := by
  unfold ordB
  cases b with
  | true => exact mem_irange
  | false => rw [if_neg (by simp), List.mem_reverse]; exact mem_irange
theorem tiltS_lot (ws : List Int) (b : Bool) (s : Int) (x : Tr) : (tiltS ws b s x).2.1.Pairwise (· < ·) ∧ (∀ q, q ∈ (tiltS ws b s x).2.1 ↔ q ∈ (OO ws b s x).1) := by
  rw [tiltS_O]
  have hsub := rollO_sub (gI ws) s x.2.1 (ordB ws.length b) (src b x)
  cases b with
  | true => exact ⟨(irange_lt 0 ws.length).sublist hsub, fun q => Iff.rfl⟩
  | false =>
    have h2 : ((OO ws false s x).1.reverse).Sublist (irange 0 ws.length) := by
      have := List.Sublist.reverse hsub
      unfold ordB at this
      rw [if_neg (by simp), List.reverse_reverse] at this
      exact this
    exact ⟨(irange_lt 0 ws.length).sublist h2, fun q => by show q ∈ (OO ws false s x).1.reverse ↔ _; rw [List.mem_reverse]⟩
theorem src_nn {n : Nat} {x : Tr} (h : okS n x) (b : Bool) : 0 ≤ src b x := by
  unfold src; cases b; exact h.2.1; exact h.1
theorem tiltS_ok {ws : List Int} {x : Tr} (h : okS ws.length x) (b : Bool) (s : Int) : okS ws.length (tiltS ws b s x) := by
  have hl := tiltS_lot ws b s x
  have hr : 0 ≤ (OO ws b s x).2 := rollO_nn _ _ _ _ _ (src_nn h b)
  have hm : ∀ p ∈ (tiltS ws b s x).2.1, 0 ≤ p ∧ p < (ws.length : Int) := fun p hp => mem_ordB.mp ((rollO_sub _ _ _ _ _).subset ((hl.2 p).mp hp))
  refine ⟨?_, ?_, hl.1, hm⟩
  · rw [tiltS_O]
    cases b with
    | true => exact Int.le_refl 0
    | false => exact Int.add_nonneg h.1 hr
  · rw [tiltS_O]
    cases b with
    | true => exact Int.add_nonneg h.2.1 hr
    | false => exact Int.le_refl 0
theorem ledS_ok {ws : List Int} : ∀ (row : List (Bool × Int)) {x : Tr}, okS ws.length x → okS ws.length (ledS ws row x)
  | [], _, h => h
  | (b, s) :: row, _, h => ledS_ok row (tiltS_ok h b s)
/-- two rising lists of the same are one -/
theorem rise_uniq {xs ys : List Int} (h : xs.Pairwise (· < ·)) (h' : ys.Pairwise (· < ·)) (he : ∀ i, i ∈ xs ↔ i ∈ ys) : xs = ys :=
  sorted_uniq ((List.perm_ext_iff_of_nodup (nodup_lt h) (nodup_lt h')).mpr he) (h.imp fun {a b} h => by omega) (h'.imp fun {a b} h => by omega)
theorem srt_rise {xs ys : List Int} (hn : xs.Nodup) (h' : ys.Pairwise (· < ·)) (he : ∀ i, i ∈ xs ↔ i ∈ ys) : srt xs = ys :=
  sorted_uniq ((srt_perm xs).trans ((List.perm_ext_iff_of_nodup hn (nodup_lt h')).mpr he)) (srt_le xs) (h'.imp fun {a b} h => by omega)
/-- the beads of a standing -/
def beadsS (x : Tr) : Int := x.1 + x.2.1.length + x.2.2
theorem filter_all_len {n : Nat} {x : Tr} (h : okS n x) (b : Bool) : ((ordB n b).filter (· ∈ x.2.1)).length = x.2.1.length := by
  refine List.Perm.length_eq ((List.perm_ext_iff_of_nodup ((ordB_nodup n b).filter _) (nodup_lt h.2.2.1)).mpr fun i => ?_)
  rw [List.mem_filter, mem_ordB, decide_eq_true_eq]
  exact ⟨fun z => z.2, fun z => ⟨h.2.2.2 i z, z⟩⟩
theorem tiltS_beads {ws : List Int} {x : Tr} (h : okS ws.length x) (b : Bool) (s : Int) : beadsS (tiltS ws b s x) = beadsS x := by
  have hc := rollO_cnt (gI ws) s x.2.1 (ordB ws.length b) (src b x) (src_nn h b)
  rw [filter_all_len h b] at hc
  rw [tiltS_O]
  unfold beadsS
  cases b with
  | true =>
    show 0 + ((OO ws true s x).1.length : Int) + (x.2.2 + (OO ws true s x).2) = _
    have hc' : ((OO ws true s x).1.length : Int) + (OO ws true s x).2 = x.1 + x.2.1.length := hc
    omega
  | false =>
    show (x.1 + (OO ws false s x).2) + ((OO ws false s x).1.reverse.length : Int) + 0 = _
    have hc' : ((OO ws false s x).1.length : Int) + (OO ws false s x).2 = x.2.2 + x.2.1.length := hc
    rw [List.length_reverse]
    omega
/-- all in one tray: the left one for false -/
def inT0 (b : Bool) (m : Int) : Tr := if b then (0, [], m) else (m, [], 0)
theorem inT0_ok {n : Nat} {m : Int} (h : 0 ≤ m) (b : Bool) : okS n (inT0 b m) := by
  cases b
  · exact ⟨h, Int.le_refl 0, .nil, fun p hp => by cases hp⟩
  · exact ⟨Int.le_refl 0, h, .nil, fun p hp => by cases hp⟩
/-! ### one bead more -/
def extraO (lot lot' ord : List Int) : Int := ((ord.filter fun q => decide (q ∈ lot') && !decide (q ∈ lot)).length : Int)
theorem extra_cons (lot lot' : List Int) (q : Int) (ord : List Int) : extraO lot lot' (q :: ord) = (if q ∈ lot' ∧ q ∉ lot then 1 else 0) + extraO lot lot' ord := by
  unfold extraO
  rw [List.filter_cons]
  by_cases h : q ∈ lot' ∧ q ∉ lot
  · rw [if_pos (by simp [h]), if_pos h, List.length_cons]; omega
  · rw [if_neg (by simp only [Bool.and_eq_true, decide_eq_true_eq, Bool.not_eq_true', decide_eq_false_iff_not]; exact h), if_neg h]; omega
theorem extra_nn (lot lot' ord : List Int) : 0 ≤ extraO lot lot' ord := Int.natCast_nonneg _
theorem roll_mono {dp : Int → Int} {s : Int} {lot lot' : List Int} : ∀ (ord : List Int) (r r' : Int), (∀ q ∈ ord, q ∈ lot → q ∈ lot') → 0 ≤ r → r ≤ r' → r' - r + extraO lot lot' ord ≤ 1 →
    (∀ i ∈ (rollO dp s lot ord r).1, i ∈ (rollO dp s lot' ord r').1) ∧ (rollO dp s lot ord r).2 ≤ (rollO dp s lot' ord r').2 ∧ (rollO dp s lot' ord r').2 ≤ (rollO dp s lot ord r).2 + 1
  | [], r, r', _, _, h, h2 => by
    refine ⟨fun i hi => (by cases hi), h, ?_⟩
    have := extra_nn lot lot' []
    show r' ≤ r + 1
    omega
  | q :: ord, r, r', hs, h0, h, h2 => by
    have hs' : ∀ q ∈ ord, q ∈ lot → q ∈ lot' := fun x hx => hs x (List.mem_cons_of_mem _ hx)
    have hq := hs q List.mem_cons_self
    have ih := fun r r' => roll_mono (dp := dp) (s := s) ord r r' hs'
    have hn := extra_nn lot lot' ord
    rw [extra_cons] at h2
    rw [rollO, rollO]
    by_cases hd : dp q < s
    · rw [if_pos hd, if_pos hd]
      by_cases h3 : q ∈ lot
      · rw [if_pos h3, if_pos (hq h3)]
        rw [if_neg (fun z => z.2 h3)] at h2
        exact ih _ _ (by omega) (by omega) (by omega)
      · rw [if_neg h3]
        by_cases h4 : q ∈ lot'
        · rw [if_pos h4]
          rw [if_pos ⟨h4, h3⟩] at h2
          exact ih _ _ (by omega) (by omega) (by omega)
        · rw [if_neg h4]
          rw [if_neg (fun z => h4 z.1)] at h2
          exact ih _ _ (by omega) (by omega) (by omega)
    · rw [if_neg hd, if_neg hd]
      by_cases h3 : q ∈ lot
      · rw [if_pos h3, if_pos (hq h3)]
        rw [if_neg (fun z => z.2 h3)] at h2
        obtain ⟨a, b, c⟩ := ih r r' h0 h (by omega)
        refine ⟨fun i hi => ?_, b, c⟩
        rcases List.mem_cons.mp hi with e | hi
        · rw [e]; exact List.mem_cons_self
        · exact List.mem_cons_of_mem _ (a i hi)
      · rw [if_neg h3]
        by_cases h4 : q ∈ lot'
        · rw [if_pos h4]
          rw [if_pos ⟨h4, h3⟩] at h2
          split
          · obtain ⟨a, b, c⟩ := ih (r - 1) r' (by omega) (by omega) (by omega)
            refine ⟨fun i hi => ?_, b, c⟩
            rcases List.mem_cons.mp hi with e | hi
            · rw [e]; exact List.mem_cons_self
            · exact List.mem_cons_of_mem _ (a i hi)
          · obtain ⟨a, b, c⟩ := ih r r' h0 h (by omega)
            exact ⟨fun i hi => List.mem_cons_of_mem _ (a i hi), b, c⟩
        · rw [if_neg h4]
          rw [if_neg (fun z => h4 z.1)] at h2
          by_cases hr : 0 < r
          · rw [if_pos hr, if_pos (show 0 < r' by omega)]
            obtain ⟨a, b, c⟩ := ih (r - 1) (r' - 1) (by omega) (by omega) (by omega)
            refine ⟨fun i hi => ?_, b, c⟩
            rcases List.mem_cons.mp hi with e | hi
            · rw [e]; exact List.mem_cons_self
            · exact List.mem_cons_of_mem _ (a i hi)
          · rw [if_neg hr]
            by_cases hr' : 0 < r'
            · rw [if_pos hr']
              obtain ⟨a, b, c⟩ := ih r (r' - 1) h0 (by omega) (by omega)
              exact ⟨fun i hi => List.mem_cons_of_mem _ (a i hi), b, c⟩
            · rw [if_neg hr']
              exact ih r r' h0 h (by omega)
/-- the one has all that the other has, and a bead more -/
def OneMore (n : Nat) (x y : Tr) : Prop := okS n x ∧ okS n y ∧ (∀ i ∈ x.2.1, i ∈ y.2.1) ∧ beadsS y = beadsS x + 1 ∧ x.1 ≤ y.1 ∧ x.2.2 ≤ y.2.2
theorem extra_len {n : Nat} {x y : Tr} (hx : okS n x) (hy : okS n y) (h : ∀ i ∈ x.2.1, i ∈ y.2.1) (b : Bool) : extraO x.2.1 y.2.1 (ordB n b) = (y.2.1.length : Int) - x.2.1.length := by
  have h1 := filter_all_len hx b
  have h2 := filter_all_len hy b
  have h3 : ∀ l : List Int, ((l.filter (· ∈ y.2.1)).length : Int) = extraO x.2.1 y.2.1 l + ((l.filter (· ∈ x.2.1)).length : Int) := fun l => by
    induction l with
    | nil => rfl
    | cons q l ih =>
      rw [extra_cons, List.filter_cons, List.filter_cons]
      by_cases a : q ∈ x.2.1
      · have := h q a
        simp only [a, this, decide_true, if_true, List.length_cons, not_true_eq_false, and_false, if_false]
        omega
      · by_cases c : q ∈ y.2.1
        · simp only [a, c, decide_true, decide_false, if_true, List.length_cons, not_false_eq_true, and_self, Bool.false_eq_true, if_false]
          omega
        · simp only [a, c, decide_false, Bool.false_eq_true, if_false, false_and]
          omega
  have := h3 (ordB n b)
  rw [h1, h2] at this
  omega
theorem OneMore.tilt {ws : List Int} {x y : Tr} (h : OneMore ws.length x y) (b : Bool) (s : Int) : OneMore ws.length (tiltS ws b s x) (tiltS ws b s y) ∧ rolS ws b s x ≤ rolS ws b s y ∧ rolS ws b s y ≤ rolS ws b s x + 1 := by
  obtain ⟨hx, hy, hs, hb, h1, h2⟩ := h
  have hsr : src b x ≤ src b y := by cases b; exact h2; exact h1
  have hext := extra_len hx hy hs b
  have hbd : y.1 + y.2.1.length + y.2.2 = x.1 + x.2.1.length + x.2.2 + 1 := hb
  obtain ⟨m1, m2, m3⟩ := roll_mono (dp := gI ws) (s := s) (ordB ws.length b) (src b x) (src b y) (fun q _ => hs q) (src_nn hx b) hsr (by rw [hext]; cases b <;> (simp only [src]; simp; omega))
  refine ⟨⟨tiltS_ok hx b s, tiltS_ok hy b s, fun i hi => ?_, by rw [tiltS_beads hx, tiltS_beads hy]; exact hb, ?_, ?_⟩, ?_, ?_⟩
  · exact ((tiltS_lot ws b s y).2 i).mpr (m1 i (((tiltS_lot ws b s x).2 i).mp hi))
  · rw [tiltS_O, tiltS_O]
    cases b
    · exact Int.add_le_add h1 m2
    · exact Int.le_refl 0
  · rw [tiltS_O, tiltS_O]
    cases b
    · exact Int.le_refl 0
    · exact Int.add_le_add h2 m2
  · rw [rolS_O, rolS_O]; exact m2
  · rw [rolS_O, rolS_O]; exact m3
/-! ### strengths between, tilts to one side -/
/-- nothing rolls -/
theorem rollO_still {dp : Int → Int} {s : Int} {lot : List Int} : ∀ (ord : List Int), (∀ q ∈ ord, q ∈ lot → s ≤ dp q) → rollO dp s lot ord 0 = (ord.filter (· ∈ lot), 0)
  | [], _ => rfl
  | q :: ord, h => by
    have ih := rollO_still (dp := dp) (s := s) (lot := lot) ord fun x hx => h x (List.mem_cons_of_mem _ hx)
    rw [rollO, List.filter_cons]
    by_cases hm : q ∈ lot
    · have := h q List.mem_cons_self hm
      rw [if_neg (show ¬ dp q < s by omega), if_pos hm, ih, if_pos (show decide (q ∈ lot) = true by simp [hm])]
    · rw [if_neg hm, if_neg hm, if_neg (show ¬ ((0 : Int) < 0) by omega), Int.add_zero, ih, if_neg (show ¬ (decide (q ∈ lot) = true) by simp [hm])]
      split <;> rfl
/-- the deep pits, as many as there are beads, the farthest, the rest in the tray -/
def nearL (ws : List Int) (c : Nat) (b : Bool) (s : Int) : List Int := ((ordB ws.length b).filter fun q => decide (s ≤ gI ws q)).take c
def nearS (ws : List Int) (c : Nat) (b : Bool) (s : Int) : Tr := if b then (0, nearL ws c b s, (c : Int) - (nearL ws c b s).length) else ((c : Int) - (nearL ws c b s).length, (nearL ws c b s).reverse, 0)
/-! ### pits that count nothing -/
theorem rollO_skip {dp : Int → Int} {s : Int} {lot : List Int} {p : Int → Bool} : ∀ (ord : List Int) (r : Int), (∀ q ∈ ord, p q = false → (q ∈ lot ∧ s ≤ dp q) ∨ (q ∉ lot ∧ dp q < s)) →
    (rollO dp s lot (ord.filter p) r).1 = (rollO dp s lot ord r).1.filter p ∧ (rollO dp s lot (ord.filter p) r).2 = (rollO dp s lot ord r).2
  | [], _, _ => ⟨rfl, rfl⟩
  | q :: ord, r, h => by
    have ih := fun r => rollO_skip (dp := dp) (s := s) (lot := lot) (p := p) ord r fun x hx => h x (List.mem_cons_of_mem _ hx)
    cases hp : p q with
    | false =>
      rw [List.filter_cons_of_neg (by rw [hp]; decide)]
      rcases h q List.mem_cons_self hp with ⟨h1, h2⟩ | ⟨h1, h2⟩
      · rw [rollO, if_neg (show ¬ dp q < s by omega), if_pos h1]
        show _ = List.filter p (q :: _) ∧ _
        rw [List.filter_cons_of_neg (by rw [hp]; decide)]
        exact ih r
      · rw [rollO, if_pos h2, if_neg h1, Int.add_zero]
        exact ih r
    | true =>
      rw [List.filter_cons_of_pos hp, rollO, rollO]
      split
      · exact ih _
      · split
        · show q :: _ = List.filter p (q :: _) ∧ _
          rw [List.filter_cons_of_pos hp, (ih r).1]
          exact ⟨rfl, (ih r).2⟩
        · split
          · show q :: _ = List.filter p (q :: _) ∧ _
            rw [List.filter_cons_of_pos hp, (ih (r - 1)).1]
            exact ⟨rfl, (ih (r - 1)).2⟩
          · exact ih r
/-- a channel within another one -/
structure Emb (us ws : List Int) (f : Int → Int) : Prop where
  mono : ∀ i j : Int, 0 ≤ i → i < j → j < us.length → f i < f j
  rng : ∀ j : Int, 0 ≤ j → j < us.length → 0 ≤ f j ∧ f j < ws.length
  dep : ∀ j : Int, 0 ≤ j → j < us.length → gI us j = gI ws (f j)
def inImg (us : List Int) (f : Int → Int) (q : Int) : Bool := ((irange 0 us.length).map f).contains q
theorem inImg_iff {us : List Int} {f : Int → Int} {q : Int} : inImg us f q = true ↔ ∃ j : Int, 0 ≤ j ∧ j < us.length ∧ f j = q := by
  unfold inImg
  rw [List.contains_iff_mem, List.mem_map]
  constructor
  · rintro ⟨j, hj, e⟩; have := mem_irange.mp hj; exact ⟨j, this.1, this.2, e⟩
  · rintro ⟨j, h1, h2, e⟩; exact ⟨j, mem_irange.mpr ⟨h1, h2⟩, e⟩
theorem Emb.ord {us ws : List Int} {f : Int → Int} (E : Emb us ws f) (b : Bool) : (ordB ws.length b).filter (inImg us f) = (ordB us.length b).map f := by
  have h : (irange 0 ws.length).filter (inImg us f) = (irange 0 us.length).map f := by
    refine rise_uniq ((irange_lt 0 _).filter _) ?_ fun q => ?_
    · rw [List.pairwise_map]
      exact ((irange_lt 0 us.length).and (List.pairwise_iff_forall_sublist.mpr fun {a b} h => (show a ∈ irange 0 (us.length : Int) ∧ b ∈ irange 0 (us.length : Int) from ⟨h.subset (by simp), h.subset (by simp)⟩))).imp fun {a b} h => E.mono a b (mem_irange.mp h.2.1).1 h.1 (mem_irange.mp h.2.2).2
    · rw [List.mem_filter, inImg_iff, List.mem_map, mem_irange]
      constructor
      · rintro ⟨_, j, h1, h2, e⟩; exact ⟨j, mem_irange.mpr ⟨h1, h2⟩, e⟩
      · rintro ⟨j, hj, e⟩
        have hj := mem_irange.mp hj
        subst e
        exact ⟨E.rng j hj.1 hj.2, j, hj.1, hj.2, rfl⟩
  cases b with
  | true => exact h
  | false =>
    show List.filter _ (irange 0 ws.length).reverse = List.map f (irange 0 us.length).reverse
    rw [List.filter_reverse, h, List.map_reverse]
/-- the one standing within the other: beside it the pits dl are full -/
def Lift (us ws : List Int) (f : Int → Int) (dl : List Int) (x y : Tr) : Prop := okS us.length x ∧ okS ws.length y ∧ x.1 = y.1 ∧ x.2.2 = y.2.2 ∧ (∀ j : Int, 0 ≤ j → j < us.length → (j ∈ x.2.1 ↔ f j ∈ y.2.1)) ∧
  ∀ q : Int, 0 ≤ q → q < ws.length → inImg us f q = false → (q ∈ y.2.1 ↔ q ∈ dl)
theorem Lift.tilt {us ws : List Int} {f : Int → Int} {dl : List Int} {x y : Tr} (h : Lift us ws f dl x y) (E : Emb us ws f) (b : Bool) {s : Int} (hz : ∀ q : Int, 0 ≤ q → q < ws.length → inImg us f q = false → (q ∈ dl ∧ s ≤ gI ws q) ∨ (q ∉ dl ∧ gI ws q < s)) :
    Lift us ws f dl (tiltS us b s x) (tiltS ws b s y) ∧ rolS us b s x = rolS ws b s y := by
  obtain ⟨hx, hy, e1, e2, hl, hd⟩ := h
  have hsrc : src b x = src b y := by cases b; exact e2; exact e1
  have hsk := rollO_skip (dp := gI ws) (s := s) (lot := y.2.1) (p := inImg us f) (ordB ws.length b) (src b y) fun q hq hp => by
    have hq := mem_ordB.mp hq
    rcases hz q hq.1 hq.2 hp with h | h
    · exact .inl ⟨(hd q hq.1 hq.2 hp).mpr h.1, h.2⟩
    · exact .inr ⟨fun z => h.1 ((hd q hq.1 hq.2 hp).mp z), h.2⟩
  have hmap := rollO_map (dp := gI ws) (dp' := gI us) (s := s) (lot := y.2.1) (lot' := x.2.1) (f := f) (ordB us.length b) (src b y) (fun q hq => E.dep q (mem_ordB.mp hq).1 (mem_ordB.mp hq).2) (fun q hq => hl q (mem_ordB.mp hq).1 (mem_ordB.mp hq).2)
  rw [E.ord, hmap] at hsk
  have hOx : OO us b s x = rollO (gI us) s x.2.1 (ordB us.length b) (src b y) := by unfold OO; rw [hsrc]
  obtain ⟨k1, k2⟩ := hsk
  have k1 : (OO us b s x).1.map f = (OO ws b s y).1.filter (inImg us f) := by rw [hOx]; exact k1
  have k2 : (OO us b s x).2 = (OO ws b s y).2 := by rw [hOx]; exact k2
  have hinj : ∀ i j : Int, 0 ≤ i → i < us.length → 0 ≤ j → j < us.length → f i = f j → i = j := fun i j a1 a2 b1 b2 e => by
    rcases Int.lt_trichotomy i j with h | h | h
    · have := E.mono i j a1 h b2; omega
    · exact h
    · have := E.mono j i b1 h a2; omega
  refine ⟨⟨tiltS_ok hx b s, tiltS_ok hy b s, ?_, ?_, fun j h1 h2 => ?_, fun q h1 h2 h3 => ?_⟩, by rw [rolS_O, rolS_O]; exact k2⟩
  · rw [tiltS_O, tiltS_O]
    cases b
    · show x.1 + _ = y.1 + _; rw [e1, k2]
    · rfl
  · rw [tiltS_O, tiltS_O]
    cases b
    · rfl
    · show x.2.2 + _ = y.2.2 + _; rw [e2, k2]
  · rw [(tiltS_lot us b s x).2, (tiltS_lot ws b s y).2]
    have hi : inImg us f (f j) = true := inImg_iff.mpr ⟨j, h1, h2, rfl⟩
    constructor
    · intro h
      have : f j ∈ (OO us b s x).1.map f := List.mem_map.mpr ⟨j, h, rfl⟩
      rw [k1] at this
      exact (List.mem_filter.mp this).1
    · intro h
      have : f j ∈ (OO us b s x).1.map f := by rw [k1]; exact List.mem_filter.mpr ⟨h, hi⟩
      obtain ⟨i, hi2, e⟩ := List.mem_map.mp this
      have hr := mem_ordB.mp ((rollO_sub _ _ _ _ _).subset hi2)
      rw [← hinj i j hr.1 hr.2 h1 h2 e]; exact hi2
  · rw [(tiltS_lot ws b s y).2]
    constructor
    · intro h
      rcases hz q h1 h2 h3 with z | z
      · exact z.1
      · have := rollO_deep _ _ _ _ _ _ h; omega
    · intro h
      rcases hz q h1 h2 h3 with z | z
      · exact rollO_keep _ _ _ _ _ _ (mem_ordB.mpr ⟨h1, h2⟩) ((hd q h1 h2 h3).mpr h) z.2
      · exact absurd h z.1
/-! ### beyond the foremost beginning -/
end Lw

/-! Vn: tilts to one side as one; rounds settle. -/
namespace Lw
open PySem PySem.Spec PyProof.Rows L2 Pv
theorem okS.le {n m : Nat} {x : Tr} (h : okS n x) (hn : n ≤ m) : x.2.1.length ≤ m := Nat.le_trans h.len hn
theorem tiltS_src (ws : List Int) (b : Bool) (s : Int) (x : Tr) : src b (tiltS ws b s x) = 0 := by
  rw [tiltS_O]; cases b <;> rfl
theorem ev_div {i j : Int} {P : Prop} (h1 : Hold (0 < j)) (h2 : Hold (j < 2 ^ 62)) (q : P) : CDivW i j ∧ P := ⟨cdv h1.out h2.out, q⟩
theorem ev_cat {f1 f2 : Prop} {n : Nat} {P : Prop} (h1 : f1) (h2 : f2) (h3 : Hold (n ≤ 2 ^ 20)) (q : P) : (f1 ∧ f2 ∧ n ≤ sizeLine) ∧ P := ⟨⟨h1, h2, Nat.le_trans h3.out (by decide)⟩, q⟩
theorem v_ixD1 {x : Tr} {k k' : Nat} {R : KC} (q : R 0 (.tuple (x.2.1.map .int))) : ap2 oIx (.v k (dS x)) (.v k' (.int 1)) R := ap2_op (by
  show dIx _ R (dS x) (.int 1)
  exact q)
theorem gs_n {i : Nat} {gs : FGs} {d : D} {ds : List D} {e : Pv.Env} : gsCons (gN i) gs (d :: ds) e = gs ds (e.set i (some (sh d))) := rfl
theorem gs_t {n : Nat} {g gs : FGs} {d : D} {ds : List D} {e : Pv.Env} : gsCons (gT n g) gs (d :: ds) e = match unpk n g d e with | some e' => gs ds e' | none => none := rfl
theorem gs_0 {e : Pv.Env} : gsNil [] e = some e := rfl
theorem keepC_none : keepC none = none := rfl
theorem StdS.ml (l : Int) (lot : List Int) (r : Int) : StdS (.list [.int l, .list (lot.map .int), .int r]) (l, lot, r) := ⟨_, .inl rfl, .inr rfl⟩
/-- what is heard by a row -/
def heardS (ws : List Int) : List (Bool × Int) → Tr → List Int
  | [], _ => []
  | (b, s) :: row, x => rolS ws b s x :: heardS ws row (tiltS ws b s x)
theorem heardS_len (ws : List Int) : ∀ (row : List (Bool × Int)) (x : Tr), (heardS ws row x).length = row.length
  | [], _ => rfl
  | (b, s) :: row, x => congrArg (· + 1) (heardS_len ws row _)
theorem tiltS_srt {ws : List Int} {b : Bool} {s : Int} {x : Tr} : srt (OO ws b s x).1 = (tiltS ws b s x).2.1 :=
  srt_rise ((ordB_nodup ws.length b).sublist (rollO_sub _ _ _ _ _)) (tiltS_lot ws b s x).1 fun i => ((tiltS_lot ws b s x).2 i).symm
theorem v_fwdL {r : Res} {ds : List D} {R : KC} (h : r.d = .list ds) (hf : flat r) (q : R 1 (.list ds)) : ap1 (oStpA (some 1)) r R := ap1_op (by
  show dStp (flat r) 1 R r.d
  rw [h]
  exact ⟨⟨hf, .inl rfl⟩, q⟩)
theorem v_fwdT {r : Res} {ds : List D} {R : KC} (h : r.d = .tuple ds) (hf : flat r) (q : R 0 (.tuple ds)) : ap1 (oStpA (some 1)) r R := ap1_op (by
  show dStp (flat r) 1 R r.d
  rw [h]
  exact ⟨.inl rfl, q⟩)
def noPhi : Phi := fun _ _ => False
/-- neighbours to one side as the strongest alone -/
def joinG : List (Bool × Int) → List (Bool × Int) → List (Bool × Int)
  | acc, [] => acc
  | acc, p :: row => match acc.getLast? with
    | some q => if q.1 = p.1 then joinG (acc.dropLast ++ [(p.1, max q.2 p.2)]) row else joinG (acc ++ [p]) row
    | none => joinG (acc ++ [p]) row
theorem iterS_ok {ws : List Int} {row : List (Bool × Int)} : ∀ (n : Nat) {x : Tr}, okS ws.length x → okS ws.length (iterS (ledS ws row) n x)
  | 0, _, h => h
  | n + 1, _, h => iterS_ok n (ledS_ok row h)
theorem iterS_add (f : Tr → Tr) (m n : Nat) (x : Tr) : iterS f (m + n) x = iterS f n (iterS f m x) := by
  induction m generalizing x with
  | zero => rw [Nat.zero_add]; rfl
  | succ m ih =>
    rw [show m + 1 + n = (m + n) + 1 by omega]
    show iterS f (m + n) (f x) = iterS f n (iterS f m (f x))
    exact ih (f x)
/-- so many rounds until nothing changes -/
def Settles (f : Tr → Tr) (x : Tr) (t : Nat) : Prop := iterS f (t + 1) x = iterS f t x ∧ ∀ j, j < t → iterS f (j + 1) x ≠ iterS f j x
theorem Settles.on {f : Tr → Tr} {x : Tr} {t : Nat} (h : Settles f x t) {n : Nat} (hn : t ≤ n) : iterS f n x = iterS f t x := by
  obtain ⟨k, rfl⟩ := Nat.exists_eq_add_of_le hn
  rw [iterS_add]
  have : f (iterS f t x) = iterS f t x := (iterS_succ f t x).symm.trans h.1
  exact iterS_fix this k
theorem Settles.one {f : Tr → Tr} {x : Tr} {t : Nat} (h : Settles f x t) {j : Nat} (hj : iterS f (j + 1) x = iterS f j x) : t ≤ j := by
  rcases Nat.lt_or_ge j t with h' | h'
  · exact absurd hj (h.2 j h')
  · exact h'
theorem Settles.of {f : Tr → Tr} {x : Tr} : ∀ (j : Nat), iterS f (j + 1) x = iterS f j x → ∃ t, Settles f x t ∧ t ≤ j := by
  intro j
  induction j using Nat.strongRecOn with
  | _ j ih =>
    intro hj
    by_cases h : ∃ i, i < j ∧ iterS f (i + 1) x = iterS f i x
    · obtain ⟨i, hi, e⟩ := h
      obtain ⟨t, ht, hti⟩ := ih i hi e
      exact ⟨t, ht, by omega⟩
    · exact ⟨j, ⟨hj, fun i hi e => h ⟨i, hi, e⟩⟩, Nat.le_refl j⟩
theorem Settles.uniq {f : Tr → Tr} {x : Tr} {t u : Nat} (h : Settles f x t) (h' : Settles f x u) : t = u := Nat.le_antisymm (h.one h'.1) (h'.one h.1)
theorem sub_len : ∀ {xs ys : List Int}, xs.Nodup → (∀ i ∈ xs, i ∈ ys) → xs.length ≤ ys.length
  | [], _, _, _ => Nat.zero_le _
  | x :: xs, ys, hn, h => by
    obtain ⟨hx, hn⟩ := List.nodup_cons.mp hn
    have hy := h x List.mem_cons_self
    have := sub_len (xs := xs) (ys := ys.erase x) hn fun i hi => (List.mem_erase_of_ne (fun e => hx (by rw [← e]; exact hi))).mpr (h i (List.mem_cons_of_mem _ hi))
    rw [List.length_erase_of_mem hy] at this
    have : 0 < ys.length := List.length_pos_of_mem hy
    rw [List.length_cons]; omega
/-- what stands behind the strongest tilt of a round -/
def topA (ws : List Int) (pre : List (Bool × Int)) (b : Bool) (S : Int) (x : Tr) : Tr := tiltS ws b S (ledS ws pre x)
section
variable {ws : List Int} {row pre post : List (Bool × Int)} {b : Bool} {S : Int} {x : Tr}
end
theorem inT0_len {b : Bool} {m : Int} : (inT0 b m).2.1.length = 0 := by cases b <;> rfl
theorem iterS_congr {n : Nat} {f g : Tr → Tr} (hfg : ∀ y, okS n y → f y = g y) (hok : ∀ y, okS n y → okS n (f y)) : ∀ (k : Nat) {x : Tr}, okS n x → iterS f k x = iterS g k x
  | 0, _, _ => rfl
  | k + 1, x, h => by
    show iterS f k (f x) = iterS g k (g x)
    rw [iterS_congr hfg hok k (hok x h), hfg x h]
theorem Settles.congr {n : Nat} {f g : Tr → Tr} {x : Tr} {t : Nat} (h : Settles f x t) (hx : okS n x) (hfg : ∀ y, okS n y → f y = g y) (hok : ∀ y, okS n y → okS n (f y)) : Settles g x t := by
  have e := fun k => iterS_congr hfg hok k hx
  exact ⟨by rw [← e, ← e]; exact h.1, fun j hj => by rw [← e, ← e]; exact h.2 j hj⟩
/-- the standings of so many rounds -/
def iterL (f : Tr → Tr) (n : Nat) (y : Tr) : List Tr := (List.range n).map fun t => iterS f t y
/-- the deep ones that are full -/
def fullL (ws : List Int) (S : Int) (y : Tr) : List Int := y.2.1.filter fun q => decide (S ≤ gI ws q)
end Lw

/-! Vk: lots that lean, steps, who is kept to a side. -/
namespace Lw
open PySem PySem.Spec PyProof.Rows L2 Pv
/-- the pits at least so deep -/
def deepI (s : Int) (ws : List Int) : List Int := (enumI 0 ws).filterMap fun p => if s ≤ p.2 then some (p.1 : Int) else none
/-- a lot's pits are pits -/
def okL (n : Nat) (lot : List Int) : Prop := lot.Pairwise (· < ·) ∧ ∀ p ∈ lot, 0 ≤ p ∧ p < n
theorem okL.len {n : Nat} {lot : List Int} (h : okL n lot) : lot.length ≤ n := by have := rise_len lot 0 n h.1 h.2; omega
def beyL (n : Nat) (p : Int) (b : Bool) : List Int := if b then (irange (p + 1) n).reverse else irange 0 p
theorem mem_beyL {n : Nat} {p q : Int} {b : Bool} : q ∈ beyL n p b ↔ if b then p < q ∧ q < n else 0 ≤ q ∧ q < p := by
  unfold beyL
  cases b
  · exact mem_irange
  · rw [if_pos rfl, List.mem_reverse, mem_irange]
    show p + 1 ≤ q ∧ q < n ↔ p < q ∧ q < n
    omega
def deepB (ws : List Int) (p : Int) (b : Bool) : List Int := (beyL ws.length p b).filter fun i => decide (gI ws p < gI ws i)
def bareB (ws lot : List Int) (p : Int) (b : Bool) : List Int := (deepB ws p b).filter fun i => !decide (i ∈ lot)
/-- the pits of a lot beyond which a deeper bare one lies -/
def hindL (ws lot : List Int) (b : Bool) : List Int := lot.filter fun p => decide (0 < ((bareB ws lot p b).length : Int))
def hindO (ws lot : List Int) (b : Bool) : List Int := if b then (hindL ws lot b).reverse else hindL ws lot b
def leanB (ws lot : List Int) (b : Bool) : Bool := (hindL ws lot b).isEmpty
def leastD (ws lot : List Int) : Int := mn (lot.map (gI ws))
/-- bare pits deeper than the least deep one of a lot, from afar -/
def edgeP (ws lot : List Int) (p : Int) : Bool := decide (leastD ws lot < gI ws p) && !decide (p ∈ lot)
def edgeL (ws lot : List Int) (b : Bool) : List Int := (beyL ws.length (if b then -1 else ws.length) b).filter (edgeP ws lot)
def edgeO (ws lot : List Int) (b : Bool) : PyData := if 0 < ((edgeL ws lot b).length : Int) then .int (gI (edgeL ws lot b) 0) else .none
def deepP (ws lot : List Int) (s : Int) : List Int := (deepI s ws).filter fun p => decide (p ∈ lot)
def restL (ws lot : List Int) (b : Bool) : List Int := lot.filter fun p => !decide (p ∈ beyL ws.length (gI (edgeL ws lot b) 0) b)
/-- the lot ahead of a lot -/
def aheadL (ws lot : List Int) (b : Bool) : List Int :=
  if 0 < ((edgeL ws lot b).length : Int) then (if 0 < ((restL ws lot b).length : Int) then deepP ws lot (leastD ws (restL ws lot b)) else []) else []
/-- a lot leans: beyond each of its pits no deeper one is bare -/
def leanP (ws lot : List Int) (b : Bool) : Prop := ∀ p ∈ lot, ∀ q ∈ beyL ws.length p b, gI ws p < gI ws q → q ∈ lot
theorem okL.nil {n : Nat} : okL n [] := ⟨.nil, fun _ h => nomatch h⟩
theorem okL.filter {n : Nat} {lot : List Int} (h : okL n lot) (f : Int → Bool) : okL n (lot.filter f) := ⟨h.1.filter _, fun p hp => h.2 p (List.mem_filter.mp hp).1⟩
/-- the lots on the way to a lot -/
def stepsG (ws : List Int) (b : Bool) : Nat → List Int → List (List Int)
  | 0, _ => []
  | n + 1, lot => if lot.length = 0 then [] else lot :: stepsG ws b n (aheadL ws lot b)
def lotsD (ls : List (List Int)) : List D := ls.map fun l => .tuple (l.map .int)

/-! ### kept to a side -/
theorem okS.lot {n : Nat} {x : Tr} (h : okS n x) : okL n x.2.1 := h.2.2
/-- what lies in the tray of a side -/
def thr (b : Bool) (x : Tr) : Int := src (!b) x
def roomL (ws lot : List Int) (e : Int) (b : Bool) : List Int := (beyL ws.length e b).filter fun q => decide (gI ws q < leastD ws lot)
def edge1 (ws lot : List Int) (b : Bool) : Int := gI (edgeL ws lot b) 0
def keptP (ws : List Int) (b : Bool) (x : Tr) : Prop := src b x = 0 ∧ leanP ws x.2.1 b ∧ (0 < x.2.1.length → 0 < (edgeL ws x.2.1 b).length → thr b x ≤ ((roomL ws x.2.1 (edge1 ws x.2.1 b) b).length : Int))
/-- the order in which beads roll -/
theorem ord_bey (n : Nat) (b : Bool) : (ordB n b).Pairwise fun p q => q ∈ beyL n p b ∧ p ∈ beyL n q (!b) := by
  unfold ordB
  have key : (irange 0 n).Pairwise fun (p q : Int) => 0 ≤ p ∧ p < q ∧ q < (n : Int) := by
    refine List.Pairwise.imp_of_mem (fun {a b} ha hb h => ?_) (irange_lt 0 n)
    have := mem_irange.mp ha
    have := mem_irange.mp hb
    exact ⟨by omega, h, by omega⟩
  cases b with
  | true =>
    rw [if_pos rfl]
    refine key.imp fun {p q} h => ⟨mem_beyL.mpr (by simp only [if_true]; omega), mem_beyL.mpr (by simp only [Bool.not_true, Bool.false_eq_true, if_false]; omega)⟩
  | false =>
    rw [if_neg (by simp)]
    refine List.pairwise_reverse.mpr (key.imp fun {p q} h => ⟨mem_beyL.mpr (by simp only [Bool.false_eq_true, if_false]; omega), mem_beyL.mpr (by simp only [Bool.not_false, if_true]; omega)⟩)
theorem bey_in {n : Nat} {b : Bool} {p q : Int} (hp : 0 ≤ p ∧ p < n) (h : q ∈ beyL n p b) : 0 ≤ q ∧ q < n := by
  rw [mem_beyL] at h
  cases b <;> simp only [Bool.false_eq_true, if_false, if_true] at h <;> omega
theorem rollO_lean {dp : Int → Int} {s : Int} {lot : List Int} : ∀ (ord : List Int) (r : Int), 0 ≤ r → (0 < r → ∀ q ∈ ord, s ≤ dp q → q ∈ lot) → ord.Pairwise (fun p q => p ∈ lot → dp p < s → s ≤ dp q → q ∈ lot) →
    (rollO dp s lot ord r).1 = ord.filter fun q => decide (s ≤ dp q) && decide (q ∈ lot)
  | [], _, _, _, _ => rfl
  | q :: ord, r, h0, h1, hp => by
    obtain ⟨hq, hp⟩ := List.pairwise_cons.mp hp
    rw [rollO, List.filter_cons]
    have h1' : ∀ x ∈ ord, 0 < r → s ≤ dp x → x ∈ lot := fun x hx h hd => h1 h x (List.mem_cons_of_mem _ hx) hd
    by_cases h2 : dp q < s
    · rw [if_pos h2, if_neg (show ¬ ((decide (s ≤ dp q) && decide (q ∈ lot)) = true) by rw [decide_eq_false (show ¬ s ≤ dp q by omega)]; simp)]
      refine rollO_lean ord (r + if q ∈ lot then 1 else 0) (by split <;> omega) (fun h x hx hd => ?_) hp
      by_cases hm : q ∈ lot
      · exact hq x hx hm h2 hd
      · rw [if_neg hm] at h; exact h1' x hx (by omega) hd
    · rw [if_neg h2]
      by_cases hm : q ∈ lot
      · rw [if_pos hm, if_pos (show (decide (s ≤ dp q) && decide (q ∈ lot)) = true by rw [decide_eq_true (show s ≤ dp q by omega), decide_eq_true hm]; rfl)]
        show q :: _ = q :: _
        rw [rollO_lean ord r h0 (fun h x hx hd => h1' x hx h hd) hp]
      · have hr : ¬ 0 < r := fun h => hm (h1 h q List.mem_cons_self (by omega))
        rw [if_neg hm, if_neg hr, if_neg (show ¬ ((decide (s ≤ dp q) && decide (q ∈ lot)) = true) by rw [decide_eq_false hm]; simp), rollO_lean ord r h0 (fun h x hx hd => h1' x hx h hd) hp]
theorem rollO_back {dp : Int → Int} {s : Int} {lot : List Int} : ∀ (ord : List Int) (r : Int), 0 ≤ r → ord.Nodup → ord.Pairwise (fun p q => q ∈ lot → dp q < dp p → p ∈ lot) →
    (0 < (rollO dp s lot ord r).2 → ∀ q ∈ ord, s ≤ dp q → q ∈ (rollO dp s lot ord r).1) ∧ ord.Pairwise (fun p q => q ∈ (rollO dp s lot ord r).1 → dp q < dp p → p ∈ (rollO dp s lot ord r).1)
  | [], _, _, _, _ => ⟨fun _ _ h => (by cases h), .nil⟩
  | p :: ord, r, h0, hn, hp => by
    obtain ⟨hpn, hn⟩ := List.nodup_cons.mp hn
    obtain ⟨hq, hp⟩ := List.pairwise_cons.mp hp
    have sub : ∀ r' x, x ∈ (rollO dp s lot ord r').1 → x ∈ ord := fun r' x z => (rollO_sub dp s lot ord r').subset z
    have full : ∀ r' : Int, 0 ≤ r' → (0 < (p :: (rollO dp s lot ord r').1, (rollO dp s lot ord r').2).2 → ∀ q ∈ p :: ord, s ≤ dp q → q ∈ (p :: (rollO dp s lot ord r').1, (rollO dp s lot ord r').2).1) ∧
        (p :: ord).Pairwise (fun a q => q ∈ (p :: (rollO dp s lot ord r').1, (rollO dp s lot ord r').2).1 → dp q < dp a → a ∈ (p :: (rollO dp s lot ord r').1, (rollO dp s lot ord r').2).1) := fun r' hr' => by
      obtain ⟨i1, i2⟩ := rollO_back (dp := dp) (s := s) (lot := lot) ord r' hr' hn hp
      refine ⟨fun hc q hq hd => ?_, List.pairwise_cons.mpr ⟨fun _ _ _ _ => List.mem_cons_self, ?_⟩⟩
      · rcases List.mem_cons.mp hq with rfl | hq
        · exact List.mem_cons_self
        · exact List.mem_cons_of_mem _ (i1 hc q hq hd)
      · refine List.Pairwise.imp_of_mem (fun {a z} ha hz h hm hd => ?_) i2
        rcases List.mem_cons.mp hm with e | hm
        · exact absurd (e ▸ hz) hpn
        · exact List.mem_cons_of_mem _ (h hm hd)
    rw [rollO]
    by_cases h1 : dp p < s
    · rw [if_pos h1]
      obtain ⟨i1, i2⟩ := rollO_back (dp := dp) (s := s) (lot := lot) ord (r + if p ∈ lot then 1 else 0) (by split <;> omega) hn hp
      refine ⟨fun hc q hq hd => ?_, List.pairwise_cons.mpr ⟨fun q hq hm hd => ?_, i2⟩⟩
      · rcases List.mem_cons.mp hq with rfl | hq
        · omega
        · exact i1 hc q hq hd
      · have := rollO_deep _ _ _ _ _ q hm
        omega
    · rw [if_neg h1]
      by_cases hm : p ∈ lot
      · rw [if_pos hm]; exact full r h0
      · rw [if_neg hm]
        by_cases hr : 0 < r
        · rw [if_pos hr]; exact full (r - 1) (by omega)
        · rw [if_neg hr]
          have e : r = 0 := by omega
          subst e
          have hs : ∀ q ∈ ord, q ∈ lot → s ≤ dp q := fun q hx hl => by
            by_cases h : s ≤ dp q
            · exact h
            · exact absurd (hq q hx hl (by omega)) hm
          obtain ⟨i1, i2⟩ := rollO_back (dp := dp) (s := s) (lot := lot) ord 0 (Int.le_refl 0) hn hp
          refine ⟨fun hc => ?_, List.pairwise_cons.mpr ⟨fun q hx hm2 hd => ?_, i2⟩⟩
          · rw [rollO_still ord hs] at hc
            exact absurd hc (by show ¬ (0 : Int) < 0; omega)
          · rw [rollO_still ord hs] at hm2
            have := (List.mem_filter.mp hm2).2
            exact absurd (hq q hx (of_decide_eq_true this) hd) hm
theorem filter_two {α : Type} (f : α → Bool) : ∀ (l : List α), (l.filter fun q => !f q).length + (l.filter f).length = l.length
  | [] => rfl
  | a :: l => by
    have := filter_two f l
    rw [List.filter_cons, List.filter_cons, List.length_cons]
    cases f a <;> simp <;> omega
theorem src_thr {ws : List Int} {b : Bool} {s : Int} {x : Tr} : src (!b) (tiltS ws b s x) = src (!b) x + (OO ws b s x).2 := by
  rw [tiltS_O]; cases b <;> rfl
theorem beadsS_two (b : Bool) (x : Tr) : beadsS x = src b x + (x.2.1.length : Int) + src (!b) x := by
  unfold beadsS src; cases b <;> simp <;> omega
theorem lean_ord {ws lot : List Int} {b : Bool} (h : leanP ws lot b) : (ordB ws.length b).Pairwise (fun p q => p ∈ lot → gI ws p < gI ws q → q ∈ lot) := (ord_bey ws.length b).imp fun {p q} hb hp hd => h p hp q hb.1 hd
theorem kept_lot {ws : List Int} {b : Bool} {s : Int} {x : Tr} (hx : okS ws.length x) (h : leanP ws x.2.1 b) (h0 : src b x = 0) (q : Int) : q ∈ (tiltS ws b s x).2.1 ↔ q ∈ x.2.1 ∧ s ≤ gI ws q := by
  rw [(tiltS_lot ws b s x).2 q]
  unfold OO
  rw [rollO_lean _ _ (by omega) (fun h => by omega) ((lean_ord h).imp fun {p q} hl hp h1 h2 => hl hp (by omega)), List.mem_filter, mem_ordB]
  simp only [Bool.and_eq_true, decide_eq_true_eq]
  exact ⟨fun z => ⟨z.2.2, z.2.1⟩, fun z => ⟨hx.2.2.2 q z.1, z.2, z.1⟩⟩
/-- .. as the program tells it -/
def keptB (ws : List Int) (x : Tr) (b : Bool) : Bool := !decide (0 < src b x) && (leanB ws x.2.1 b && (decide (x.2.1.length = 0) || (decide ((edgeL ws x.2.1 b).length = 0) || decide (thr b x ≤ ((roomL ws x.2.1 (edge1 ws x.2.1 b) b).length : Int)))))
def keptL (ws : List Int) (x : Tr) : List Bool := [false, true].filter (keptB ws x)
def ledB (ws : List Int) (x : Tr) : Bool := keptB ws x false || keptB ws x true
/-! ### reasons -/
def hind1 (ws lot : List Int) (b : Bool) : Int := gI (hindO ws lot b) 0
def bare1 (ws lot : List Int) (b : Bool) : Int := gI (bareB ws lot (hind1 ws lot b) b) 0
def barO (ws lot : List Int) (b : Bool) : PyData := if 0 < ((hindO ws lot b).length : Int) then .tuple [.int (hind1 ws lot b), .int (bare1 ws lot b)] else .none
def reasonD (ws : List Int) (x : Tr) (b : Bool) : PyData :=
  if 0 < src b x then .tuple [.str "tray"]
  else if 0 < ((hindO ws x.2.1 b).length : Int) then .tuple [.str "pits", .int (hind1 ws x.2.1 b), .int (bare1 ws x.2.1 b)]
  else if 0 < (x.2.1.length : Int) ∧ 0 < ((edgeL ws x.2.1 b).length : Int) ∧ ((roomL ws x.2.1 (edge1 ws x.2.1 b) b).length : Int) < thr b x then .tuple [.str "room", .int (edge1 ws x.2.1 b)]
  else .none
def barsD (ws : List Int) (x : Tr) : PyData := if ledB ws x then .none else .tuple [reasonD ws x false, reasonD ws x true]
/-- pits drawn one by one, so far -/
theorem okL.snoc {n j : Nat} {vs : List Int} (h : okL j vs) (hj : j < n) : okL (j + 1) (vs ++ [(j : Int)]) ∧ okL (j + 1) vs := by
  refine ⟨⟨?_, fun p hp => ?_⟩, h.1, fun p hp => by have := h.2 p hp; omega⟩
  · rw [List.pairwise_append]
    exact ⟨h.1, List.pairwise_singleton _ _, fun a ha b hb => by have := h.2 a ha; rw [List.mem_singleton.mp hb]; omega⟩
  · rcases List.mem_append.mp hp with hp | hp
    · have := h.2 p hp; omega
    · rw [List.mem_singleton.mp hp]; omega
theorem okL.irange (n : Nat) : okL n (irange 0 n) := ⟨irange_lt _ _, fun p hp => mem_irange.mp hp⟩
def optI : Option Int → D
  | some k => .int k
  | none => .none
theorem v_eqO {k k' : Nat} {o : Option Int} {j : Int} {R : KC} (q : R 0 (.bool (decide (o = some j)))) : ap2 oEq (.v k (optI o)) (.v k' (.int j)) R := ap2_op (by
  cases o with
  | none =>
    show shp .none ∧ shp (.int j) ∧ R 0 (.bool (PyData.eqv .none (.int j)))
    refine ⟨dep_shp (n := 0) rfl (by decide), dep_shp (n := 0) rfl (by decide), ?_⟩
    have : PyData.eqv .none (.int j) = false := by simp [PyData.eqv]
    rw [this]; simpa using q
  | some i =>
    show R 0 (.bool (decide (i = j)))
    have : decide (some i = some j) = decide (i = j) := by simp
    rw [this] at q; exact q)
theorem okD_opt {n : Nat} {o : Option Int} : okD n (optI o) := by cases o; exact okD_non; exact okD_int
end Lw

/-! Vj: channels that deepen to one side. -/
namespace Lw
open PySem PySem.Spec PyProof.Rows L2 Pv
/-- a spot, seen as if the channel deepened to the right -/
def fl (r : Bool) (n : Nat) (i : Int) : Int := if r then i else n - 1 - i
def flL (r : Bool) (n : Nat) (lot : List Int) : List Int := if r then lot else (lot.map fun (p : Int) => (n : Int) - 1 - p).reverse
/-- depths fall towards the shallow side -/
def Mono (r : Bool) (ws : List Int) : Prop := ∀ p q : Int, 0 ≤ p → p < ws.length → 0 ≤ q → q < ws.length → (gI ws p < gI ws q ↔ fl r ws.length p < fl r ws.length q)
/-- who is led, as the law looks -/
def flS (r : Bool) (n : Nat) (x : Tr) : Tr := if r then x else (x.2.2, flL false n x.2.1, x.1)
def wholeB (n : Nat) (l : List Int) : Bool := decide (l.length = 0) || decide (l = irange (gI l 0) n)
def lastB (n : Nat) (l : List Int) : Bool := decide (l = irange (n - l.length) n)
def dueB (r : Bool) (n : Nat) (x : Tr) : Bool :=
  (decide ((flS r n x).2.2 = 0) && (wholeB n (flS r n x).2.1 || decide ((flS r n x).1 ≤ gI (flS r n x).2.1 0))) || (decide ((flS r n x).1 = 0) && lastB n (flS r n x).2.1)
/-! ### the steps -/
def runsN (lot : List Int) : Nat := (lot.filter fun p => !decide (p + 1 ∈ lot)).length
/-- the last pits lean to the deep side -/
def lastL (r : Bool) (n : Nat) (m : Int) : List Int := if r then irange (n - m) n else irange 0 m
end Lw

/-! Vt: what channels look like from their ends, and what is heard of two. -/
namespace Lw
open PySem PySem.Spec PyProof.Rows L2 Pv
/-- depths from a side -/
def dl (b : Bool) (ws : List Int) : List Int := if b then ws.reverse else ws
def endsL (ws : List Int) (b : Bool) (s : Int) (m : Nat) : List Int := ((dl b ws).filter fun w => decide (s ≤ w)).take m
theorem irange_gI : ∀ (ws : List Int), (irange 0 ws.length).map (gI ws) = ws := by
  intro ws
  apply List.ext_getElem
  · rw [List.length_map, irange_len]; omega
  · intro i h1 h2
    rw [List.getElem_map]
    have : (irange 0 ws.length)[i]'(by rw [List.length_map] at h1; exact h1) = (i : Int) := by
      have := irange_get (lo := 0) (hi := ws.length) (i := i) (by omega)
      rw [List.getElem?_eq_getElem (by rw [irange_len]; omega)] at this
      have := Option.some.inj this
      omega
    rw [this, gI_nat h2]
theorem ordB_gI (ws : List Int) (b : Bool) : (ordB ws.length b).map (gI ws) = dl (!b) ws := by
  unfold ordB dl
  cases b
  · rw [if_neg (by simp), List.map_reverse, irange_gI]; rfl
  · rw [if_pos rfl, irange_gI]; rfl
theorem gI_inj {ws : List Int} (hn : ws.Nodup) {p q : Int} (hp : 0 ≤ p ∧ p < ws.length) (hq : 0 ≤ q ∧ q < ws.length) (h : gI ws p = gI ws q) : p = q := by
  obtain ⟨i, rfl⟩ := Int.eq_ofNat_of_zero_le hp.1
  obtain ⟨j, rfl⟩ := Int.eq_ofNat_of_zero_le hq.1
  have hi : i < ws.length := by omega
  have hj : j < ws.length := by omega
  rw [gI_nat hi, gI_nat hj] at h
  have := (List.getElem_inj (h₀ := hi) (h₁ := hj) hn).mp h
  omega
theorem dl_nodup {ws : List Int} (hn : ws.Nodup) (b : Bool) : (dl b ws).Nodup := by
  unfold dl; cases b
  · exact hn
  · exact List.pairwise_reverse.mpr (hn.imp fun {a b} h => Ne.symm h)
/-- the depths of a lot -/
def FD (ws lot : List Int) : List Int := lot.map (gI ws)
theorem FD_nodup {ws lot : List Int} (hn : ws.Nodup) (h : okL ws.length lot) : (FD ws lot).Nodup := by
  unfold FD
  rw [List.nodup_iff_pairwise_ne, List.pairwise_map]
  exact List.Pairwise.imp_of_mem (fun {a b} ha hb hab e => by
    have := gI_inj hn (h.2 a ha) (h.2 b hb) e
    omega) h.1
theorem mem_FD {ws lot : List Int} (hn : ws.Nodup) (h : okL ws.length lot) {q : Int} (hq : 0 ≤ q ∧ q < ws.length) : q ∈ lot ↔ gI ws q ∈ FD ws lot := by
  unfold FD
  rw [List.mem_map]
  exact ⟨fun z => ⟨q, z, rfl⟩, fun ⟨p, hp, e⟩ => gI_inj hn (h.2 p hp) hq e ▸ hp⟩
/-- beads that roll over a lot that leans back: the first bare ones are filled -/
theorem rollO_fill {dp : Int → Int} {s : Int} {lot : List Int} : ∀ (ord : List Int) (r : Nat), ord.Nodup → ord.Pairwise (fun p q => q ∈ lot → dp q < dp p → p ∈ lot) → ∀ q, q ∈ (rollO dp s lot ord r).1 ↔
    (q ∈ ord ∧ s ≤ dp q ∧ q ∈ lot) ∨ q ∈ (ord.filter fun q => decide (s ≤ dp q) && !decide (q ∈ lot)).take (r + (ord.filter fun q => decide (q ∈ lot) && decide (dp q < s)).length)
  | [], _, _, _, q => by simp [rollO]
  | p :: ord, r, hn, hp, q => by
    obtain ⟨hpn, hn⟩ := List.nodup_cons.mp hn
    obtain ⟨hq, hp⟩ := List.pairwise_cons.mp hp
    have ih := fun r' => rollO_fill (dp := dp) (s := s) (lot := lot) ord r' hn hp q
    rw [rollO, List.filter_cons, List.filter_cons]
    by_cases h1 : dp p < s
    · rw [if_pos h1]
      have e1 : (decide (s ≤ dp p) && !decide (p ∈ lot)) = false := by rw [decide_eq_false (show ¬ s ≤ dp p by omega)]; rfl
      rw [e1, if_neg (show ¬ (false = true) by simp)]
      have c1 : (q ∈ p :: ord ∧ s ≤ dp q ∧ q ∈ lot) ↔ (q ∈ ord ∧ s ≤ dp q ∧ q ∈ lot) := ⟨fun ⟨a, b, c⟩ => by
        rcases List.mem_cons.mp a with rfl | a
        · omega
        · exact ⟨a, b, c⟩, fun ⟨a, b, c⟩ => ⟨List.mem_cons_of_mem _ a, b, c⟩⟩
      rw [c1]
      by_cases h2 : p ∈ lot
      · rw [if_pos h2, if_pos (show (decide (p ∈ lot) && decide (dp p < s)) = true by rw [decide_eq_true h2, decide_eq_true h1]; rfl), List.length_cons, show r + ((ord.filter fun q => decide (q ∈ lot) && decide (dp q < s)).length + 1) = (r + 1) + (ord.filter fun q => decide (q ∈ lot) && decide (dp q < s)).length by omega]
        exact ih (r + 1)
      · rw [if_neg h2, if_neg (show ¬ ((decide (p ∈ lot) && decide (dp p < s)) = true) by rw [decide_eq_false h2]; simp), Int.add_zero]
        exact ih r
    · rw [if_neg h1, if_neg (show ¬ ((decide (p ∈ lot) && decide (dp p < s)) = true) by rw [decide_eq_false h1]; simp)]
      have e1 : decide (s ≤ dp p) = true := decide_eq_true (by omega)
      by_cases h2 : p ∈ lot
      · rw [if_pos h2, e1, decide_eq_true h2, if_neg (show ¬ ((true && !true) = true) by simp), List.mem_cons, ih r, List.mem_cons]
        constructor
        · rintro (rfl | ⟨a, b⟩ | a)
          · exact .inl ⟨.inl rfl, by omega, h2⟩
          · exact .inl ⟨.inr a, b⟩
          · exact .inr a
        · rintro (⟨a | a, b⟩ | a)
          · exact .inl a
          · exact .inr (.inl ⟨a, b⟩)
          · exact .inr (.inr a)
      · rw [if_neg h2, e1, decide_eq_false h2, if_pos (show (true && !false) = true by simp)]
        have c1 : (q ∈ p :: ord ∧ s ≤ dp q ∧ q ∈ lot) ↔ (q ∈ ord ∧ s ≤ dp q ∧ q ∈ lot) := ⟨fun ⟨a, b, c⟩ => by
          rcases List.mem_cons.mp a with rfl | a
          · exact absurd c h2
          · exact ⟨a, b, c⟩, fun ⟨a, b, c⟩ => ⟨List.mem_cons_of_mem _ a, b, c⟩⟩
        rw [c1]
        cases r with
        | succ r =>
          rw [if_pos (show (0 : Int) < ((r + 1 : Nat) : Int) by omega), show r + 1 + (ord.filter fun q => decide (q ∈ lot) && decide (dp q < s)).length = (r + (ord.filter fun q => decide (q ∈ lot) && decide (dp q < s)).length) + 1 by omega, List.take_succ_cons, List.mem_cons, List.mem_cons, show ((r + 1 : Nat) : Int) - 1 = (r : Int) by omega, ih r]
          exact ⟨fun h => by rcases h with h | h | h; exact .inr (.inl h); exact .inl h; exact .inr (.inr h), fun h => by rcases h with h | h | h; exact .inr (.inl h); exact .inl h; exact .inr (.inr h)⟩
        | zero =>
          rw [if_neg (show ¬ (0 : Int) < ((0 : Nat) : Int) by omega)]
          have e0 : (ord.filter fun q => decide (q ∈ lot) && decide (dp q < s)) = [] := by
            rw [List.filter_eq_nil_iff]
            intro z hz hc
            simp only [Bool.and_eq_true, decide_eq_true_eq] at hc
            exact h2 (hq z hz hc.1 (by omega))
          have := ih 0
          rw [e0] at this ⊢
          simpa using this
/-- leans to a side, the other tray bare -/
def LK (ws : List Int) (b : Bool) (x : Tr) : Prop := src b x = 0 ∧ leanP ws x.2.1 b
theorem lk_ord {ws : List Int} {b : Bool} {x : Tr} (h : LK ws b x) : (ordB ws.length (!b)).Pairwise (fun p q => q ∈ x.2.1 → gI ws q < gI ws p → p ∈ x.2.1) := (ord_bey ws.length (!b)).imp fun {p q} hb hq hd => by
  have := hb.2
  rw [Bool.not_not] at this
  exact h.2 q hq p this hd
/-- tilted to the other side: the lot still leans back -/
theorem lk_back {ws : List Int} {b : Bool} {s : Int} {x : Tr} (hx : okS ws.length x) (h : LK ws b x) : leanP ws (tiltS ws (!b) s x).2.1 b := by
  obtain ⟨i1, i2⟩ := rollO_back (dp := gI ws) (s := s) (lot := x.2.1) (ordB ws.length (!b)) (src (!b) x) (src_nn hx _) (ordB_nodup _ _) (lk_ord h)
  have hm := (tiltS_lot ws (!b) s x).2
  have hy := tiltS_ok hx (!b) s
  intro p hp q hq hd
  have hp' := (hm p).mp hp
  have hpb := hy.2.2.2 p hp
  have hqb := bey_in hpb hq
  refine (hm q).mpr ?_
  have : ∀ {ord : List Int} {L : List Int}, ord.Pairwise (fun p q => q ∈ L → gI ws q < gI ws p → p ∈ L) → ord.Pairwise (fun p q => p ∈ beyL ws.length q b) → q ∈ ord → p ∈ ord → p ∈ L → q ∈ L := fun {ord L} j1 j2 hqo hpo hpL => by
    induction ord with
    | nil => cases hqo
    | cons a ord ih =>
      obtain ⟨a1, a2⟩ := List.pairwise_cons.mp j1
      obtain ⟨b1, b2⟩ := List.pairwise_cons.mp j2
      rcases List.mem_cons.mp hqo with e | hqo2
      · rcases List.mem_cons.mp hpo with e2 | hpo2
        · rw [e, ← e2]; exact hpL
        · rw [e]; rw [e] at hd; exact a1 p hpo2 hpL hd
      · rcases List.mem_cons.mp hpo with e2 | hpo2
        · have := b1 q hqo2
          rw [← e2, mem_beyL] at this
          rw [mem_beyL] at hq
          cases b <;> simp only [Bool.false_eq_true, if_false, if_true] at this hq <;> omega
        · exact ih a2 b2 hqo2 hpo2
  refine this i2 ((ord_bey ws.length (!b)).imp fun {p q} hb => ?_) (mem_ordB.mpr hqb) (mem_ordB.mpr hpb) hp'
  have := hb.2
  rw [Bool.not_not] at this
  exact this
theorem rol_cons {ws : List Int} {x : Tr} (hx : okS ws.length x) (b : Bool) (s : Int) : rolS ws b s x = src b x + x.2.1.length - (tiltS ws b s x).2.1.length := by
  have hb := tiltS_beads hx b s
  have ht := src_thr (ws := ws) (b := b) (s := s) (x := x)
  rw [beadsS_two b, beadsS_two b, tiltS_src, ht] at hb
  rw [rolS_O]; omega
/-- what is full behind a tilt to the other side, by depths -/
theorem fill_FD {ws : List Int} (hn : ws.Nodup) {b : Bool} {s : Int} {x : Tr} (hx : okS ws.length x) (h : LK ws b x) (w : Int) :
    w ∈ FD ws (tiltS ws (!b) s x).2.1 ↔ (s ≤ w ∧ w ∈ FD ws x.2.1) ∨ w ∈ ((((dl b ws).filter fun w => decide (s ≤ w)).filter fun w => !decide (w ∈ FD ws x.2.1))).take ((src (!b) x).toNat + ((FD ws x.2.1).filter fun w => decide (w < s)).length) := by
  have hok := okS.lot hx
  have hm := (tiltS_lot ws (!b) s x).2
  have hs := src_nn hx (!b)
  obtain ⟨r, hr⟩ := Int.eq_ofNat_of_zero_le hs
  have hf := rollO_fill (dp := gI ws) (s := s) (lot := x.2.1) (ordB ws.length (!b)) r (ordB_nodup _ _) (lk_ord h)
  have hO : ∀ q, q ∈ (tiltS ws (!b) s x).2.1 ↔ q ∈ (rollO (gI ws) s x.2.1 (ordB ws.length (!b)) r).1 := fun q => by
    rw [hm q]; unfold OO; rw [hr]
  have hin : ∀ q ∈ ordB ws.length (!b), (q ∈ x.2.1 ↔ gI ws q ∈ FD ws x.2.1) := fun q hq => mem_FD hn hok (mem_ordB.mp hq)
  have e1 : ((ordB ws.length (!b)).filter fun q => decide (s ≤ gI ws q) && !decide (q ∈ x.2.1)).map (gI ws) = ((dl b ws).filter fun w => decide (s ≤ w)).filter fun w => !decide (w ∈ FD ws x.2.1) := by
    have := ordB_gI ws (!b)
    rw [Bool.not_not] at this
    rw [← this, List.filter_filter, List.filter_map]
    congr 1
    refine List.filter_congr fun q hq => ?_
    show _ = ((!decide (gI ws q ∈ FD ws x.2.1)) && decide (s ≤ gI ws q))
    rw [Bool.and_comm]
    congr 2
    exact decide_eq_decide.mpr (hin q hq)
  have e2 : ((ordB ws.length (!b)).filter fun q => decide (q ∈ x.2.1) && decide (gI ws q < s)).length = ((FD ws x.2.1).filter fun w => decide (w < s)).length := by
    have e : (ordB ws.length (!b)).filter (fun q => decide (q ∈ x.2.1) && decide (gI ws q < s)) = ((ordB ws.length (!b)).filter (· ∈ x.2.1)).filter fun q => decide (gI ws q < s) := by
      rw [List.filter_filter]
      refine List.filter_congr fun q _ => ?_
      exact Bool.and_comm _ _
    rw [e]
    unfold FD
    rw [List.filter_map, List.length_map]
    refine List.Perm.length_eq (List.Perm.filter _ ?_)
    refine (List.perm_ext_iff_of_nodup ((ordB_nodup _ _).filter _) (nodup_lt hok.1)).mpr fun i => ?_
    rw [List.mem_filter, mem_ordB, decide_eq_true_eq]
    exact ⟨fun z => z.2, fun z => ⟨hok.2 i z, z⟩⟩
  rw [hr, Int.toNat_natCast, ← e2, ← e1, ← List.map_take]
  unfold FD
  rw [List.mem_map, List.mem_map, List.mem_map]
  constructor
  · rintro ⟨q, hq, rfl⟩
    rcases (hf q).mp ((hO q).mp hq) with ⟨_, h2, h3⟩ | h2
    · exact .inl ⟨h2, q, h3, rfl⟩
    · exact .inr ⟨q, h2, rfl⟩
  · rintro (⟨h1, q, hq, rfl⟩ | ⟨q, hq, rfl⟩)
    · exact ⟨q, (hO q).mpr ((hf q).mpr (.inl ⟨mem_ordB.mpr (hok.2 q hq), h1, hq⟩)), rfl⟩
    · exact ⟨q, (hO q).mpr ((hf q).mpr (.inr hq)), rfl⟩
theorem same_FD {ws : List Int} {b : Bool} {s : Int} {x : Tr} (hx : okS ws.length x) (h : LK ws b x) (w : Int) : w ∈ FD ws (tiltS ws b s x).2.1 ↔ s ≤ w ∧ w ∈ FD ws x.2.1 := by
  have hm := kept_lot (s := s) hx h.2 h.1
  unfold FD
  rw [List.mem_map, List.mem_map]
  constructor
  · rintro ⟨q, hq, rfl⟩; have := (hm q).mp hq; exact ⟨this.2, q, this.1, rfl⟩
  · rintro ⟨h1, q, hq, rfl⟩; exact ⟨q, (hm q).mpr ⟨hq, h1⟩, rfl⟩
/-- alike from both ends, as far as so many beads hear -/
def Alike (ws vs : List Int) (m : Nat) : Prop := ∀ b s, endsL ws b s m = endsL vs b s m
theorem Alike.le {ws vs : List Int} {m k : Nat} (h : Alike ws vs m) (hk : k ≤ m) : Alike ws vs k := fun b s => by
  have := congrArg (List.take k) (h b s)
  unfold endsL at this ⊢
  rwa [List.take_take, List.take_take, Nat.min_eq_left hk] at this
structure Corr (ws vs : List Int) (m : Nat) (b : Bool) (x y : Tr) : Prop where
  hx : okS ws.length x
  hy : okS vs.length y
  lx : LK ws b x
  ly : LK vs b y
  tr : src (!b) x = src (!b) y
  fd : ∀ w, w ∈ FD ws x.2.1 ↔ w ∈ FD vs y.2.1
  le : beadsS x ≤ m
theorem lk_tray {ws : List Int} {b : Bool} {m : Int} : LK ws b (inT0 b m) := ⟨by cases b <;> rfl, fun p hp => by
  have : (inT0 b m).2.1 = [] := by cases b <;> rfl
  rw [this] at hp; cases hp⟩
theorem inT0_lot {b : Bool} {m : Int} : (inT0 b m).2.1 = [] := by cases b <;> rfl
theorem src_tray {b : Bool} {m : Int} : src (!b) (inT0 b m) = m := by cases b <;> rfl
/-! ### told apart -/
/-- the first place at which two lists are unlike -/
def unl : List Int → List Int → Option Nat
  | [], [] => none
  | a :: l, c :: k => if a = c then (unl l k).map (· + 1) else some 0
  | [], _ :: _ => some 0
  | _ :: _, [] => some 0
theorem unl_none : ∀ {a c : List Int}, unl a c = none ↔ a = c
  | [], [] => by simp [unl]
  | a :: l, c :: k => by
    rw [unl]
    by_cases h : a = c
    · rw [if_pos h, Option.map_eq_none_iff, unl_none, h]; simp
    · rw [if_neg h]; simp [h]
  | [], _ :: _ => by simp [unl]
  | _ :: _, [] => by simp [unl]
theorem unl_of : ∀ {a c : List Int} {i : Nat}, a.take i = c.take i → a[i]? ≠ c[i]? → unl a c = some i
  | [], [], i, _, h => by simp at h
  | a :: l, c :: k, 0, _, h => by
    rw [unl, if_neg (by simpa using h)]
  | a :: l, c :: k, i + 1, h, h2 => by
    rw [List.take_succ_cons, List.take_succ_cons] at h
    injection h with h3 h4
    rw [unl, if_pos h3, unl_of h4 (by simpa using h2)]; rfl
  | [], _ :: _, 0, _, _ => rfl
  | _ :: _, [], 0, _, _ => rfl
  | [], _ :: _, i + 1, h, _ => by simp at h
  | _ :: _, [], i + 1, h, _ => by simp at h
theorem unl_some : ∀ {a c : List Int} {i : Nat}, unl a c = some i → a.take i = c.take i ∧ a[i]? ≠ c[i]?
  | [], [], i, h => by simp [unl] at h
  | a :: l, c :: k, i, h => by
    rw [unl] at h
    by_cases e : a = c
    · rw [if_pos e] at h
      obtain ⟨j, hj, rfl⟩ := Option.map_eq_some_iff.mp h
      obtain ⟨h1, h2⟩ := unl_some hj
      exact ⟨by rw [List.take_succ_cons, List.take_succ_cons, h1, e], by simpa using h2⟩
    · rw [if_neg e] at h
      injection h with h; subst h
      exact ⟨rfl, by simpa using e⟩
  | [], c :: k, i, h => by
    rw [unl] at h; injection h with h; subst h
    exact ⟨rfl, by simp⟩
  | a :: l, [], i, h => by
    rw [unl] at h; injection h with h; subst h
    exact ⟨rfl, by simp⟩
def rowT (b : Bool) (s : Int) (mine its : List Int) : List (Bool × Int) := (!b, s) :: if mine.length = its.length then [(b, max (gL mine) (gL its))] else []
/-- what is told of two channels -/
def toldT (ws vs : List Int) (m : Nat) : List (Bool × Int) → Option (Nat × Bool × List (Bool × Int))
  | [] => none
  | (b, s) :: l => match unl (endsL ws b s m) (endsL vs b s m) with
    | none => toldT ws vs m l
    | some i => some (i + 1, b, rowT b s ((endsL ws b s m).take (i + 1)) ((endsL vs b s m).take (i + 1)))
theorem toldT_none {ws vs : List Int} {m : Nat} : ∀ {l : List (Bool × Int)}, toldT ws vs m l = none ↔ ∀ p ∈ l, endsL ws p.1 p.2 m = endsL vs p.1 p.2 m
  | [] => by simp [toldT]
  | (b, s) :: l => by
    rw [toldT]
    cases h : unl (endsL ws b s m) (endsL vs b s m) with
    | none =>
      rw [toldT_none]
      constructor
      · intro hl p hp
        rcases List.mem_cons.mp hp with rfl | hp
        · exact unl_none.mp h
        · exact hl p hp
      · exact fun hl p hp => hl p (List.mem_cons_of_mem _ hp)
    | some i =>
      refine ⟨fun h => by simp at h, fun hl => ?_⟩
      have := unl_none.mpr (hl (b, s) List.mem_cons_self)
      rw [h] at this; cases this
theorem toldT_some {ws vs : List Int} {m : Nat} {r : Nat × Bool × List (Bool × Int)} : ∀ {l : List (Bool × Int)}, toldT ws vs m l = some r → ∃ s, (r.2.1, s) ∈ l ∧ ∃ i, unl (endsL ws r.2.1 s m) (endsL vs r.2.1 s m) = some i ∧ r.1 = i + 1 ∧ r.2.2 = rowT r.2.1 s ((endsL ws r.2.1 s m).take (i + 1)) ((endsL vs r.2.1 s m).take (i + 1))
  | [], h => by simp [toldT] at h
  | (b, s) :: l, h => by
    rw [toldT] at h
    cases e : unl (endsL ws b s m) (endsL vs b s m) with
    | none =>
      rw [e] at h
      obtain ⟨s', h1, h2⟩ := toldT_some h
      exact ⟨s', List.mem_cons_of_mem _ h1, h2⟩
    | some i =>
      rw [e] at h
      injection h with h; subst h
      exact ⟨s, List.mem_cons_self, i, e, rfl, rfl⟩
/-- heard of so many from a tray, sent away, brought back by a strength -/
theorem heard_one {ws : List Int} (hn : ws.Nodup) {b : Bool} {s : Int} {k : Nat} : rolS ws (!b) s (inT0 b k) = k - ((endsL ws b s k).length : Int) ∧ (∀ w, w ∈ FD ws (tiltS ws (!b) s (inT0 b k)).2.1 ↔ w ∈ endsL ws b s k) := by
  have h0 : okS ws.length (inT0 b (k : Int)) := inT0_ok (by omega) b
  have hf : ∀ w, w ∈ FD ws (tiltS ws (!b) s (inT0 b k)).2.1 ↔ w ∈ endsL ws b s k := fun w => by
    rw [fill_FD hn h0 lk_tray, inT0_lot, src_tray]
    have e : (FD ws []) = [] := rfl
    rw [e]
    have e2 : ∀ l : List Int, (l.filter fun w => !decide (w ∈ ([] : List Int))) = l := fun l => List.filter_eq_self.mpr fun a _ => by simp
    rw [e2, Int.toNat_natCast]
    unfold endsL
    simp
  refine ⟨?_, hf⟩
  have hl : (tiltS ws (!b) s (inT0 b k)).2.1.length = (endsL ws b s k).length := by
    have o1 := okS.lot (tiltS_ok h0 (!b) s)
    have h1 := sub_len (FD_nodup hn o1) fun i hi => (hf i).mp hi
    have h2 := sub_len (xs := endsL ws b s k) (((dl_nodup hn b).filter _).sublist (List.take_sublist _ _)) fun i hi => (hf i).mpr hi
    unfold FD at h1 h2
    rw [List.length_map] at h1 h2
    omega
  rw [rol_cons h0, src_tray, inT0_lot, hl]
  simp
theorem heard_two {ws : List Int} (hn : ws.Nodup) {b : Bool} {s M : Int} {k : Nat} (h : (endsL ws b s k).length = k) : rolS ws b M (tiltS ws (!b) s (inT0 b k)) = (((endsL ws b s k).filter fun w => decide (w < M)).length : Int) := by
  have h0 : okS ws.length (inT0 b (k : Int)) := inT0_ok (by omega) b
  obtain ⟨r1, f1⟩ := heard_one hn (b := b) (s := s) (k := k)
  have hy := tiltS_ok h0 (!b) s
  have z1 := src_thr (ws := ws) (b := !b) (s := s) (x := inT0 b k)
  rw [Bool.not_not, ← rolS_O, r1, h, (lk_tray (ws := ws) (b := b) (m := (k : Int))).1] at z1
  have l1 : LK ws b (tiltS ws (!b) s (inT0 b k)) := ⟨by omega, lk_back h0 lk_tray⟩
  have f2 := fun w => same_FD (s := M) hy l1 w
  have o1 := okS.lot hy
  have o2 := okS.lot (tiltS_ok hy b M)
  have ne : (endsL ws b s k).Nodup := ((dl_nodup hn b).filter _).sublist (List.take_sublist _ _)
  have a1 := sub_len (FD_nodup hn o1) fun i hi => (f1 i).mp hi
  have a2 := sub_len ne fun i hi => (f1 i).mpr hi
  have a3 := sub_len (FD_nodup hn o2) (ys := (endsL ws b s k).filter fun w => !decide (w < M)) fun i hi => by
    have := (f2 i).mp hi
    rw [List.mem_filter, ← f1]
    exact ⟨this.2, by rw [decide_eq_false (by omega)]; rfl⟩
  have a4 := sub_len (xs := (endsL ws b s k).filter fun w => !decide (w < M)) (ne.filter _) (ys := FD ws (tiltS ws b M (tiltS ws (!b) s (inT0 b k))).2.1) fun i hi => by
    rw [List.mem_filter, ← f1] at hi
    rw [f2]
    have := hi.2
    simp at this
    exact ⟨this, hi.1⟩
  have a5 := filter_two (fun w => decide (w < M)) (endsL ws b s k)
  unfold FD at a1 a2 a3 a4
  rw [List.length_map] at a1 a2 a3 a4
  rw [rol_cons hy, l1.1]
  omega
theorem take_one {l : List Int} {i : Nat} (h : (l.take (i + 1)).length = i + 1) : ∃ a, l[i]? = some a ∧ l.take (i + 1) = l.take i ++ [a] ∧ gL (l.take (i + 1)) = a := by
  rw [List.length_take] at h
  have hi : i < l.length := by omega
  refine ⟨l[i], List.getElem?_eq_getElem hi, ?_, ?_⟩
  · rw [List.take_succ_eq_append_getElem hi]
  · unfold gL
    rw [List.take_succ_eq_append_getElem hi]
    first | (simp; done) | (rw [List.getLastD_concat]) | (simp [List.getLast?_append])
theorem endsL_take {ws : List Int} {b : Bool} {s : Int} {m k : Nat} (h : k ≤ m) : (endsL ws b s m).take k = endsL ws b s k := by
  unfold endsL; rw [List.take_take, Nat.min_eq_left h]
/-- the row told tells them apart -/
theorem row_apart {ws vs : List Int} (hn : ws.Nodup) (hv : vs.Nodup) {b : Bool} {s : Int} {m i : Nat} (h : unl (endsL ws b s m) (endsL vs b s m) = some i) :
    i < m ∧ (endsL ws b s m).length ≤ m ∧ (¬ ((endsL ws b s (i + 1)).length = (endsL vs b s (i + 1)).length) → rolS ws (!b) s (inT0 b ((i + 1 : Nat) : Int)) ≠ rolS vs (!b) s (inT0 b ((i + 1 : Nat) : Int))) ∧
      ((endsL ws b s (i + 1)).length = (endsL vs b s (i + 1)).length → rolS ws b (max (gL (endsL ws b s (i + 1))) (gL (endsL vs b s (i + 1)))) (tiltS ws (!b) s (inT0 b ((i + 1 : Nat) : Int))) ≠ rolS vs b (max (gL (endsL ws b s (i + 1))) (gL (endsL vs b s (i + 1)))) (tiltS vs (!b) s (inT0 b ((i + 1 : Nat) : Int)))) := by
  obtain ⟨h1, h2⟩ := unl_some h
  have lw : (endsL ws b s m).length ≤ m := by unfold endsL; rw [List.length_take]; omega
  have lv : (endsL vs b s m).length ≤ m := by unfold endsL; rw [List.length_take]; omega
  have him : i < m := by
    refine Classical.byContradiction fun hc => h2 ?_
    rw [List.getElem?_eq_none (by omega), List.getElem?_eq_none (by omega)]
  refine ⟨him, lw, fun hne hc => ?_, fun he hc => ?_⟩
  · rw [(heard_one hn).1, (heard_one hv).1] at hc
    omega
  · have e1 := endsL_take (ws := ws) (b := b) (s := s) (show i + 1 ≤ m by omega)
    have e2 := endsL_take (ws := vs) (b := b) (s := s) (show i + 1 ≤ m by omega)
    have hw : (endsL ws b s (i + 1)).length = i + 1 := by
      refine Classical.byContradiction fun hz => h2 ?_
      have z : (endsL ws b s (i + 1)).length ≤ i + 1 := by unfold endsL; rw [List.length_take]; omega
      rw [← e1, List.length_take] at hz he
      rw [← e2, List.length_take] at he
      rw [List.getElem?_eq_none (by omega), List.getElem?_eq_none (by omega)]
    obtain ⟨a, a1, a2, a3⟩ := take_one (l := endsL ws b s m) (i := i) (by rw [e1]; exact hw)
    obtain ⟨c, c1, c2, c3⟩ := take_one (l := endsL vs b s m) (i := i) (by rw [e2]; omega)
    rw [e1] at a2 a3
    rw [e2] at c2 c3
    rw [heard_two hn (by omega), heard_two hv (by omega), a3, c3, a2, c2, h1, List.filter_append, List.filter_append, List.length_append, List.length_append] at hc
    have hac : a ≠ c := fun e => h2 (by rw [a1, c1, e])
    have : (([a].filter fun w => decide (w < max a c)).length) = (([c].filter fun w => decide (w < max a c)).length) := by omega
    by_cases hlt : a < c
    · have m1 : max a c = c := by omega
      rw [m1, List.filter_cons, List.filter_cons, if_pos (decide_eq_true hlt), if_neg (by simp)] at this
      simp at this
    · have m1 : max a c = a := by omega
      rw [m1, List.filter_cons, List.filter_cons, if_neg (by simp), if_pos (decide_eq_true (by omega))] at this
      simp at this
/-- what is told is heard -/
theorem told_heard {ws vs : List Int} (hn : ws.Nodup) (hv : vs.Nodup) {m : Nat} {l : List (Bool × Int)} {r : Nat × Bool × List (Bool × Int)} (h : toldT ws vs m l = some r) : 1 ≤ r.1 ∧ r.1 ≤ m ∧ heardS ws r.2.2 (inT0 r.2.1 r.1) ≠ heardS vs r.2.2 (inT0 r.2.1 r.1) := by
  obtain ⟨s, _, i, h1, h2, h3⟩ := toldT_some h
  obtain ⟨k1, k2, k3, k4⟩ := row_apart hn hv h1
  rw [h2, h3, endsL_take (by omega), endsL_take (by omega)]
  refine ⟨by omega, by omega, fun hc => ?_⟩
  unfold rowT at hc
  rw [heardS, heardS] at hc
  injection hc with c1 c2
  by_cases he : (endsL ws r.2.1 s (i + 1)).length = (endsL vs r.2.1 s (i + 1)).length
  · rw [if_pos he, heardS, heardS] at c2
    injection c2 with c2 _
    exact k4 he c2
  · exact k3 he c1
def keysT (ws vs : List Int) : List (Bool × Int) := (srt (ws ++ vs)).map (false, ·) ++ (srt (ws ++ vs)).map (true, ·)
theorem mem_keysT {ws vs : List Int} {b : Bool} {s : Int} : (b, s) ∈ keysT ws vs ↔ s ∈ ws ∨ s ∈ vs := by
  unfold keysT
  have : ∀ s, s ∈ srt (ws ++ vs) ↔ s ∈ ws ∨ s ∈ vs := fun s => by rw [(srt_perm _).mem_iff, List.mem_append]
  cases b <;> simp [this]
/-- a strength does what the next depth does -/
theorem alike_of {ws vs : List Int} {m : Nat} (h : ∀ b s, s ∈ ws ∨ s ∈ vs → endsL ws b s m = endsL vs b s m) : Alike ws vs m := by
  intro b s
  have hd : ∀ us : List Int, ∀ w, w ∈ dl b us ↔ w ∈ us := fun us w => by unfold dl; cases b <;> simp
  by_cases hz : ((ws ++ vs).filter fun w => decide (s ≤ w)).length = 0
  · have hn := List.eq_nil_of_length_eq_zero hz
    rw [List.filter_eq_nil_iff] at hn
    have e : ∀ us : List Int, (∀ w ∈ us, w ∈ ws ++ vs) → endsL us b s m = [] := fun us hu => by
      unfold endsL
      rw [List.filter_eq_nil_iff.mpr fun w hw => hn w (hu w ((hd us w).mp hw))]; simp
    rw [e ws fun w hw => List.mem_append_left _ hw, e vs fun w hw => List.mem_append_right _ hw]
  · have hm := mn_mem (ws := (ws ++ vs).filter fun w => decide (s ≤ w)) (by omega)
    have hle : ∀ w ∈ ws ++ vs, s ≤ w → mn ((ws ++ vs).filter fun w => decide (s ≤ w)) ≤ w := fun w hw hs => mn_le (List.mem_filter.mpr ⟨hw, decide_eq_true hs⟩)
    generalize mn ((ws ++ vs).filter fun w => decide (s ≤ w)) = t at hm hle
    rw [List.mem_filter, decide_eq_true_eq, List.mem_append] at hm
    have e : ∀ us : List Int, (∀ w ∈ us, w ∈ ws ++ vs) → endsL us b s m = endsL us b t m := fun us hu => by
      unfold endsL
      congr 1
      refine List.filter_congr fun w hw => ?_
      have hw := hu w ((hd us w).mp hw)
      rw [decide_eq_decide]
      exact ⟨fun hs => hle w hw hs, fun ht => by omega⟩
    rw [e ws fun w hw => List.mem_append_left _ hw, e vs fun w hw => List.mem_append_right _ hw]
    exact h b t hm.1
theorem told_none {ws vs : List Int} {m : Nat} : toldT ws vs m (keysT ws vs) = none ↔ Alike ws vs m := by
  rw [toldT_none]
  exact ⟨fun h => alike_of fun b s hs => h (b, s) (mem_keysT.mpr hs), fun h p _ => h p.1 p.2⟩
/-- .. as data -/
def toldD (o : Option (Nat × Bool × List (Bool × Int))) : D := match o with
  | none => .none
  | some r => .tuple [.int r.1, .str (sideS r.2.1), .list (r.2.2.map (prW false))]
theorem rowT_ok {ws vs : List Int} {m : Nat} {r : Nat × Bool × List (Bool × Int)} (h : toldT ws vs m (keysT ws vs) = some r) : r.2.2.length ≤ 2 ∧ ∀ p ∈ r.2.2, p.2 ∈ ws ∨ p.2 ∈ vs := by
  obtain ⟨s, h0, i, h1, h2, h3⟩ := toldT_some h
  rw [h3]
  obtain ⟨u1, u2⟩ := unl_some h1
  unfold rowT
  refine ⟨by split <;> simp, fun p hp => ?_⟩
  rcases List.mem_cons.mp hp with rfl | hp
  · exact mem_keysT.mp h0
  · split at hp
    · rename_i he
      rw [List.mem_singleton.mp hp]
      have hd : ∀ us : List Int, ∀ w, w ∈ endsL us r.2.1 s m → w ∈ us := fun us w hw => by
        unfold endsL at hw
        have := List.mem_of_mem_take hw
        have := (List.mem_filter.mp this).1
        unfold dl at this
        cases hb : r.2.1 <;> rw [hb] at this <;> simpa using this
      have hgl : ∀ {l : List Int}, 0 < l.length → gL l ∈ l := fun {l} hl => by
        obtain ⟨n, hn⟩ : ∃ n, l.length = n + 1 := ⟨l.length - 1, by omega⟩
        obtain ⟨a, a1, a2, a3⟩ := take_one (l := l) (i := n) (by rw [List.length_take]; omega)
        rw [List.take_of_length_le (by omega)] at a3
        rw [a3]; exact List.mem_of_getElem? a1
      have hne : 0 < ((endsL ws r.2.1 s m).take (i + 1)).length ∧ 0 < ((endsL vs r.2.1 s m).take (i + 1)).length := by
        rw [← he]
        refine ⟨?_, ?_⟩ <;>
        · refine Classical.byContradiction fun hz => u2 ?_
          have z1 : ((endsL ws r.2.1 s m).take (i + 1)).length = 0 := by omega
          have z2 : ((endsL vs r.2.1 s m).take (i + 1)).length = 0 := by omega
          rw [List.length_take] at z1 z2
          rw [List.getElem?_eq_none (by omega), List.getElem?_eq_none (by omega)]
      show max _ _ ∈ ws ∨ max _ _ ∈ vs
      have g1 := hd ws _ (List.mem_of_mem_take (hgl hne.1))
      have g2 := hd vs _ (List.mem_of_mem_take (hgl hne.2))
      rcases Int.le_total (gL ((endsL ws r.2.1 s m).take (i + 1))) (gL ((endsL vs r.2.1 s m).take (i + 1))) with z | z
      · rw [Int.max_eq_right z]; exact .inr g2
      · rw [Int.max_eq_left z]; exact .inl g1
    · cases hp
end Lw

/-! Vu: all turned about. -/
namespace Lw
open PySem PySem.Spec PyProof.Rows L2 Pv
theorem v_lkS {b : Bool} {k : Nat} {R : KC} (q : R 0 (.str (sideS (!b)))) : ap1 (oLk [("left", "right"), ("right", "left")]) (.v k (.str (sideS b))) R := ap1_op (by
  cases b
  · show pickT R (lkS [("left", "right"), ("right", "left")] "left")
    rw [show lkS [("left", "right"), ("right", "left")] "left" = some "right" by decide +kernel]; exact q
  · show pickT R (lkS [("left", "right"), ("right", "left")] "right")
    rw [show lkS [("left", "right"), ("right", "left")] "right" = some "left" by decide +kernel]; exact q)
theorem nb_optI (o : Option Int) : Nb (optI o) := by cases o with | none => exact nb_non | some i => exact nb_int i
theorem v_neOO {k k' : Nat} {o o' : Option Int} {R : KC} (q : R 0 (.bool (!decide (o = o')))) : ap2 oNe (.v k (optI o)) (.v k' (optI o')) R := v_ne (.mk (nb_optI o)) (.mk (nb_optI o')) fun c hc => by
  have : c = decide (o = o') := by
    have h : optI o = optI o' ↔ o = o' := ⟨fun h => by cases o <;> cases o' <;> first | rfl | (cases h; done) | (cases h; rfl), fun h => by rw [h]⟩
    rw [Bool.eq_iff_iff, hc, decide_eq_true_iff]; exact h
  rw [this]; exact q
def flipS (n : Nat) (x : Tr) : Tr := (x.2.2, turnI n x.2.1, x.1)
def flipR (row : List (Bool × Int)) : List (Bool × Int) := row.map fun p => (!p.1, p.2)
end Lw

/-! Vd: dicts of ints; lots grown till they lean. -/
namespace Lw
open PySem PySem.Spec PyProof.Rows L2 Pv
def lbeyL (n : Nat) (p : Int) (b : Bool) : List Int := if b then irange (p + 1) n else (irange 0 p).reverse
section
variable {r r' : Res} {R : KC} {k : Nat} {es : List (Int × D)}
theorem v_listD (h : r.d = dctD es) (q : R 1 (.list ((es.map (·.1)).map .int))) : apN (at1 oListD) [r] R := apN_op ⟨es, h, q⟩
theorem v_eqD0 (h : r.d = dctD es) (h' : r'.d = dctD []) (q : R 0 (.bool es.isEmpty)) : ap2 (oEqD0 fun b => b) r r' R := ap2_op ⟨es, [], h, h', .inr rfl, by
  have : (es.length == ([] : List (Int × D)).length) = es.isEmpty := by cases es <;> rfl
  rw [this]; exact q⟩
theorem v_neD0 (h : r.d = dctD es) (h' : r'.d = dctD []) (q : R 0 (.bool (!es.isEmpty))) : ap2 (oEqD0 fun b => !b) r r' R := ap2_op ⟨es, [], h, h', .inr rfl, by
  have : (es.length == ([] : List (Int × D)).length) = es.isEmpty := by cases es <;> rfl
  show R 0 (.bool (!(es.length == ([] : List (Int × D)).length)))
  rw [this]; exact q⟩
theorem v_ixK {i : Int} {d : D} (h : r.d = dctD es) (he : valE es i = some d) (q : R 0 d) : ap2 oIxD r (.v k (.int i)) R := ap2_op ⟨es, i, d, h, rfl, he, q⟩
end
theorem dep_side {n : Nat} {b : Bool} : dep n (.str (sideS b)) = true := okD_side.1
theorem inD_sides {b : Bool} {bs : List Bool} : inD (.str (sideS b)) (bs.map fun b => .str (sideS b)) = decide (b ∈ bs) := by
  unfold inD
  rw [List.any_map, Bool.eq_iff_iff, List.any_eq_true, decide_eq_true_iff]
  have key : ∀ c : Bool, PyData.eqv (.str (sideS c)) (.str (sideS b)) = decide (c = b) := fun c => by cases b <;> cases c <;> simp [PyData.eqv] <;> decide +kernel
  constructor
  · rintro ⟨c, h1, h2⟩
    have h2 : PyData.eqv (.str (sideS c)) (.str (sideS b)) = true := h2
    rw [key, decide_eq_true_iff] at h2
    rw [← h2]; exact h1
  · intro h
    exact ⟨b, h, by show PyData.eqv (.str (sideS b)) (.str (sideS b)) = true; rw [key]; exact decide_eq_true rfl⟩
theorem v_inB {r : Res} {R : KC} {k : Nat} {b : Bool} {bs : List Bool} (h : r.d = .list (bs.map fun b => .str (sideS b))) (q : R 0 (.bool (decide (b ∈ bs)))) : ap2 oIn (.v k (.str (sideS b))) r R := ap2_op (by
  show dIn (fun b => b) (.str (sideS b)) R r.d
  rw [h]
  refine ⟨dep_shp (n := 0) dep_side (by decide), dep_shp (n := 1) (List.all_eq_true.mpr fun d hd => ?_) (by decide), ?_⟩
  · obtain ⟨c, _, rfl⟩ := List.mem_map.mp hd
    exact dep_side
  · rw [inD_sides]; exact q)
theorem nb_sides (bs : List Bool) : Nb (.list (bs.map fun b => .str (sideS b))) := List.all_eq_true.mpr fun d hd => by
  obtain ⟨c, _, rfl⟩ := List.mem_map.mp hd
  cases c <;> decide +kernel
theorem sd_l : PyData.str (Str.ofString "left") = PyData.str (sideS false) := rfl
theorem sd_r : PyData.str (Str.ofString "right") = PyData.str (sideS true) := rfl
theorem keepC_0 {d : D} : keepC (some ⟨0, d⟩) = some ⟨0, d⟩ := rfl
theorem lend_no {P : Nat → Prop} : ∀ j, j ∈ ([] : List Nat) → P j := fun _ h => nomatch h
/-! ### keys -/
def keysE (es : List (Int × D)) : List Int := es.map (·.1)
/-! ### grown till it leans -/
def grewB (ws lot : List Int) (b : Bool) (p : Int) : Bool := lot.any fun q => decide (p ∈ deepB ws q b)
def growL (ws lot : List Int) (b : Bool) : List Int := (irange 0 ws.length).filter fun p => decide (p ∈ lot) || grewB ws lot b p
def lowL (ws lot : List Int) (b : Bool) : List Int := lot.filter fun p => !grewB ws lot b p
/-! ### what hinders, as a law tells it -/
def bareW (ws lot : List Int) (b : Bool) (q : Int) : List Int := (lbeyL ws.length q b).filter fun r => decide (gI ws q < gI ws r) && !decide (r ∈ lot)
def hindE (ws lot : List Int) (b : Bool) (xs : List Int) : List (Int × D) := (xs.filter fun q => !(bareW ws lot b q).isEmpty).map fun q => (q, .list ((bareW ws lot b q).map .int))
end Lw

/-! Vb: data of any kind, bounded. -/
namespace Lw
open PySem PySem.Spec PyProof.Rows L2 Pv
/-- what a law's part that is asked more than once is to show -/
def ph__law_rightB : Phi := fun args R => ∃ (m : Nat) (xd : D), args = [ow xd] ∧ Bk (m + 2 ^ 40) (ow xd) ∧ ∀ x', Bk m (ow x') → R (sh (.bool true)) [ow x']
/-- at most n levels, of at most L things each, ints to M, short texts -/
def anyP (L M : Nat) : Nat → D → Prop
  | _, .none => True
  | _, .bool _ => True
  | _, .int i => i.natAbs ≤ M
  | _, .str x => PyData.strOk x = true ∧ x.length ≤ 20
  | n + 1, .list ds => ds.length ≤ L ∧ ∀ d ∈ ds, anyP L M n d
  | n + 1, .tuple ds => ds.length ≤ L ∧ ∀ d ∈ ds, anyP L M n d
  | 0, .list _ => False
  | 0, .tuple _ => False
  | _, .dict _ => False
section
variable {L M : Nat}
/-- how long its text may be -/
def rbL (L : Nat) : Nat → Nat
  | 0 => 210
  | n + 1 => (rbL L n + 2) * L + 213
end
section
variable {L M k : Nat} {ds : List D}
end
def obD : Option Bool → D
  | some b => .bool b
  | none => .none
theorem v_isOb {k k' : Nat} {o : Option Bool} {c : Bool} {R : KC} (q : R 0 (.bool (decide (o = some c)))) : ap2 oIsB (.v k (obD o)) (.v k' (.bool c)) R := ap2_op (by
  cases o with
  | none => exact q
  | some b =>
    show R 0 (.bool (decide (b = c)))
    have : decide (some b = some c) = decide (b = c) := by cases b <;> cases c <;> rfl
    rw [this] at q; exact q)
theorem v_notOb {k k' : Nat} {o : Option Bool} {c : Bool} {R : KC} (q : R 0 (.bool (!decide (o = some c)))) : ap2 oNotB (.v k (obD o)) (.v k' (.bool c)) R := ap2_op (by
  cases o with
  | none => exact q
  | some b =>
    show R 0 (.bool (!decide (b = c)))
    have : decide (some b = some c) = decide (b = c) := by cases b <;> cases c <;> rfl
    rw [this] at q; exact q)
end Lw

/-! Vs: reasons that are shown. -/
namespace Lw
open PySem PySem.Spec PyProof.Rows L2 Pv
inductive Rsn where
  | tray | pits (p q : Int) | room (e : Int)
  deriving DecidableEq
def dR : Rsn → D
  | .tray => .tuple [.str "tray"]
  | .pits p q => .tuple [.str "pits", .int p, .int q]
  | .room e => .tuple [.str "room", .int e]
def reasonO (ws : List Int) (x : Tr) (b : Bool) : Option Rsn :=
  if 0 < src b x then some .tray
  else if 0 < ((hindO ws x.2.1 b).length : Int) then some (.pits (hind1 ws x.2.1 b) (bare1 ws x.2.1 b))
  else if 0 < (x.2.1.length : Int) ∧ 0 < ((edgeL ws x.2.1 b).length : Int) ∧ ((roomL ws x.2.1 (edge1 ws x.2.1 b) b).length : Int) < thr b x then some (.room (edge1 ws x.2.1 b))
  else none
def optR : Option Rsn → D
  | some r => dR r
  | none => .none
def inN (n : Nat) (p : Int) : Bool := decide (0 ≤ p) && decide (p < n)
def showsP (ws lot : List Int) (b : Bool) (p q : Int) : Bool := (inN ws.length p && inN ws.length q) && (decide (p ∈ lot) && decide (q ∈ bareB ws lot p b))
def showsM (ws : List Int) (x : Tr) (b : Bool) (e : Int) : Bool := (inN ws.length e && (decide (0 < x.2.1.length) && !decide (e ∈ x.2.1))) && (decide (leastD ws x.2.1 < gI ws e) && decide (((roomL ws x.2.1 e b).length : Int) < thr b x))
def showsR (ws : List Int) (x : Tr) (b : Bool) : Rsn → Bool
  | .tray => decide (0 < src b x)
  | .pits p q => showsP ws x.2.1 b p q
  | .room e => showsM ws x b e
def showsQ (ws : List Int) (x : Tr) (r r' : Rsn) : Bool := showsR ws x false r && showsR ws x true r'
end Lw

/-! Vf: lots, reasons, steps, turned about. -/
namespace Lw
open PySem PySem.Spec PyProof.Rows L2 Pv
def tp (n : Nat) (p : Int) : Int := (n : Int) - 1 - p
section
variable {ws lot : List Int} {b : Bool}
def barI (ws lot : List Int) (b : Bool) : Option (Int × Int) := if 0 < ((hindO ws lot b).length : Int) then some (hind1 ws lot b, bare1 ws lot b) else none
def optP : Option (Int × Int) → D
  | some p => .tuple [.int p.1, .int p.2]
  | none => .none
end
section
variable {ws : List Int} {x : Tr} {b : Bool}
def flRsn (n : Nat) : Rsn → Rsn
  | .tray => .tray
  | .pits p q => .pits (tp n p) (tp n q)
  | .room e => .room (tp n e)
end
section
variable {ws lot : List Int} {b : Bool}
end
end Lw

/-! Vo: channels whose depths stand in the same order. -/
namespace Lw
open PySem PySem.Spec PyProof.Rows L2 Pv
def SameO (ws vs : List Int) : Prop := vs.length = ws.length ∧ ∀ p q : Int, 0 ≤ p → p < ws.length → 0 ≤ q → q < ws.length → (gI vs p < gI vs q ↔ gI ws p < gI ws q)
def SameT (ws vs : List Int) (s s' : Int) : Prop := vs.length = ws.length ∧ ∀ q : Int, 0 ≤ q → q < ws.length → (gI vs q < s' ↔ gI ws q < s)
section
variable {ws vs lot : List Int} {b : Bool}
end
/-! tilts by strengths that stand alike -/
/-- two rows, tilt by tilt alike -/
inductive RowT (ws vs : List Int) : List (Bool × Int) → List (Bool × Int) → Prop
  | nil : RowT ws vs [] []
  | cons {b : Bool} {s s' : Int} {r r' : List (Bool × Int)} : SameT ws vs s s' → RowT ws vs r r' → RowT ws vs ((b, s) :: r) ((b, s') :: r')
/-- how many are less deep -/
def rkI (ws : List Int) (w : Int) : Nat := (ws.filter fun v => decide (v < w)).length
def StrR (ws : List Int) (low s : Int) : Prop := 1 ≤ s ∧ ∀ w ∈ ws, (w < s ↔ (rkI ws w : Int) < low)
/-- a row whose strengths stand where they are told to -/
def RowR (us : List Int) (lows r : List (Bool × Int)) : Prop := r.map (·.1) = lows.map (·.1) ∧ ∀ (i : Nat) (p q : Bool × Int), lows[i]? = some p → r[i]? = some q → StrR us p.2 q.2
theorem RowR.nil (us : List Int) : RowR us [] [] := ⟨rfl, fun i p q h => by simp at h⟩
theorem RowR.len {us : List Int} {lows r : List (Bool × Int)} (h : RowR us lows r) : r.length = lows.length := by
  have := congrArg List.length h.1
  rwa [List.length_map, List.length_map] at this
theorem RowR.snoc {us : List Int} {lows r : List (Bool × Int)} {b : Bool} {low s : Int} (h : RowR us lows r) (hs : StrR us low s) : RowR us (lows ++ [(b, low)]) (r ++ [(b, s)]) := by
  refine ⟨by rw [List.map_append, List.map_append, h.1]; rfl, fun i p q e1 e2 => ?_⟩
  have hl := h.len
  by_cases hi : i < lows.length
  · rw [List.getElem?_append_left hi] at e1
    rw [List.getElem?_append_left (by omega)] at e2
    exact h.2 i p q e1 e2
  · rw [List.getElem?_append_right (by omega)] at e1
    rw [List.getElem?_append_right (by omega), hl] at e2
    cases hk : i - lows.length with
    | zero => rw [hk] at e1 e2; cases e1; cases e2; exact hs
    | succ k => rw [hk] at e1; simp at e1
end Lw

/-! Va: reasons of any kind. -/
namespace Lw
open PySem PySem.Spec PyProof.Rows L2 Pv
def cntB : D → Bool
  | .int i => decide (0 ≤ i)
  | _ => false
def cntN (n : Nat) : D → Bool
  | .int i => inN n i
  | _ => false
def pitsB (ws lot : List Int) (b : Bool) : List D → Bool
  | [.int p, .int q] => showsP ws lot b p q
  | _ => false
def roomB (ws : List Int) (x : Tr) (b : Bool) : List D → Bool
  | [.int e] => showsM ws x b e
  | _ => false
def wordB (ws : List Int) (x : Tr) (b : Bool) (w : Str) (r : List D) : Bool :=
  if w = "tray" then r.isEmpty && decide (0 < src b x) else if w = "pits" then pitsB ws x.2.1 b r else if w = "room" then roomB ws x b r else false
def reasonB (ws : List Int) (x : Tr) (b : Bool) : D → Bool
  | .tuple (.str w :: r) => wordB ws x b w r
  | _ => false
def barB (ws : List Int) (x : Tr) : D → Bool
  | .tuple [r, r'] => reasonB ws x false r && reasonB ws x true r'
  | _ => false
def intsR (M : Nat) : Rsn → Prop
  | .tray => True
  | .pits p q => p.natAbs ≤ M ∧ q.natAbs ≤ M
  | .room e => e.natAbs ≤ M
end Lw

/-! Vp: how a lot that leans is laid: tilts across and back, step by step. -/
namespace Lw
open PySem PySem.Spec PyProof.Rows L2 Pv
/-- the lot is full, the other beads lie in the tray of the side -/
def laidS (b : Bool) (lot : List Int) (c : Nat) : Tr := if b then (0, lot, (c : Int) - lot.length) else ((c : Int) - lot.length, lot, 0)
/-- lots one behind the other, each ahead of the next -/
def chainP (ws : List Int) (b : Bool) (held : List Int) : List Int → List (List Int) → Prop
  | _, [] => True
  | prev, l :: ls => prev = aheadL ws l b ∧ 0 < l.length ∧ okL ws.length l ∧ leanP ws l b ∧ (l = held.filter fun q => decide (leastD ws l ≤ gI ws q)) ∧ chainP ws b held l ls
/-! ### room beyond the edge -/
def withS (b : Bool) (lot : List Int) (r : Int) : Tr := if b then (0, lot, r) else (r, lot, 0)
def lowW (ws : List Int) : Prop := ∀ w ∈ ws, w ≤ 10 ^ 13
/-- there is a bare deeper pit -/
def edgy (ws lot : List Int) (b : Bool) : Bool := decide (0 < lot.length) && decide (0 < (edgeL ws lot b).length)
def roomN (ws lot : List Int) (b : Bool) : Int := ((roomL ws lot (edge1 ws lot b) b).length : Int)
def roomD (ws lot : List Int) (b : Bool) : D := if edgy ws lot b = true then .int (roomN ws lot b) else .none
end Lw

set_option autoImplicit false
/-! Vw: channels that are unlike in the midst alone. -/
namespace Lw
open PySem PySem.Spec PyProof.Rows L2 Pv
end Lw

set_option autoImplicit false
/-! Vq: benches as data. -/
namespace Lw
open PySem PySem.Spec PyProof.Rows L2 Pv
theorem keepC_s {k : Nat} {d : D} : keepC (some ⟨k + 1, d⟩) = none := rfl
/-- a page: the channel, the standing, how many tilts -/
abbrev Pgb := List Int × Tr × Int
def pgD (p : Pgb) : D := .tuple [.tuple (p.1.map .int), dS p.2.1, .int p.2.2]
/-- a word of the log -/
abbrev Lgw := Str × Str
def lgD (e : Lgw) : D := .tuple [.str e.1, .str e.2]
abbrev lw (a b : Str) : Lgw := (a, b)
/-- a bench: the pages ahead, the last one, the log -/
def bnF (h : List Pgb) (p : Pgb) (lg : List Lgw) : List (Str × D) := [("own_pages", .list (h.map pgD ++ [pgD p])), ("own_log", .list (lg.map lgD))]
@[irreducible] def bn (h : List Pgb) (p : Pgb) (lg : List Lgw) : D := insD "Bench" (bnF h p lg)
theorem bn_eq {h : List Pgb} {p : Pgb} {lg : List Lgw} : bn h p lg = insD "Bench" (bnF h p lg) := by unfold bn; rfl
theorem bn_of {h : List Pgb} {p : Pgb} {lg : List Lgw} : insD "Bench" [("own_pages", .list (h.map pgD ++ [pgD p])), ("own_log", .list (lg.map lgD))] = bn h p lg := by unfold bn; rfl
theorem lk_pages {h : List Pgb} {p : Pgb} {lg : List Lgw} : (bnF h p lg).lookup ("own_pages" : Str) = some (.list (h.map pgD ++ [pgD p])) := by
  unfold bnF
  rw [List.lookup_cons]
  rw [show (("own_pages" : Str) == ("own_pages" : Str)) = true from by decide +kernel]
theorem lk_log {h : List Pgb} {p : Pgb} {lg : List Lgw} : (bnF h p lg).lookup ("own_log" : Str) = some (.list (lg.map lgD)) := by
  unfold bnF
  rw [List.lookup_cons]
  rw [show (("own_log" : Str) == ("own_pages" : Str)) = false from by decide +kernel]
  show List.lookup _ [_] = _
  rw [List.lookup_cons]
  rw [show (("own_log" : Str) == ("own_log" : Str)) = true from by decide +kernel]
theorem fl_pages {h : List Pgb} {p : Pgb} {lg : List Lgw} {R : D → Prop} (q : R (.list (h.map pgD ++ [pgD p]))) : apFl "Bench" "own_pages" (bn h p lg) R := by
  rw [bn_eq]; exact apFl_mk lk_pages q
theorem fl_log {h : List Pgb} {p : Pgb} {lg : List Lgw} {R : D → Prop} (q : R (.list (lg.map lgD))) : apFl "Bench" "own_log" (bn h p lg) R := by
  rw [bn_eq]; exact apFl_mk lk_log q
theorem ins_bn {h : List Pgb} {p : Pgb} {lg : List Lgw} {m : Str} (h1 : (m == ("own_pages" : Str)) = false) (h2 : (m == ("own_log" : Str)) = false) : isInsN "Bench" m (bn h p lg) := by
  rw [bn_eq]
  refine isInsN_mk ?_
  unfold bnF
  rw [List.lookup_cons, h1]
  show List.lookup _ [_] = _
  rw [List.lookup_cons, h2]
  rfl
theorem lk_no {h : List Pgb} {p : Pgb} {lg : List Lgw} {m : Str} (h1 : (m == ("own_pages" : Str)) = false) (h2 : (m == ("own_log" : Str)) = false) : (bnF h p lg).lookup m = none := by
  unfold bnF
  rw [List.lookup_cons, h1]
  show List.lookup _ [_] = _
  rw [List.lookup_cons, h2]
  rfl
theorem is_bn {h : List Pgb} {p : Pgb} {lg : List Lgw} : isIns "Bench" (bn h p lg) := ⟨_, bn_eq⟩
theorem shI_bn {h : List Pgb} {p : Pgb} {lg : List Lgw} {k : Nat} : shI "Bench" (.v k (bn h p lg)) := ⟨trivial, is_bn⟩
theorem onI_bn {h : List Pgb} {p : Pgb} {lg : List Lgw} {P : List (Str × D) → Prop} (q : P (bnF h p lg)) : onIns "Bench" (some ⟨2, bn h p lg⟩) P := by rw [bn_eq]; exact onIns_mk q
/-! ### what has no lists in it -/
theorem immAll_ints (ws : List Int) : immAll (ws.map PyData.int) = true := by
  induction ws with
  | nil => rfl
  | cons w ws ih => exact ih
theorem imm_ch (ws : List Int) : imm (.tuple (ws.map PyData.int)) = true := immAll_ints ws
theorem imm_dS (x : Tr) : imm (dS x) = true := by
  show (imm (.int x.1) && immAll [.tuple (x.2.1.map PyData.int), .int x.2.2]) = true
  show (immAll (x.2.1.map PyData.int) && immAll [.int x.2.2]) = true
  rw [immAll_ints]; rfl
theorem imm_pg (p : Pgb) : imm (pgD p) = true := by
  show (immAll (p.1.map PyData.int) && (imm (dS p.2.1) && true)) = true
  rw [immAll_ints, imm_dS]; rfl
theorem leaf_ints {ws : List Int} : leafI 1 (.list (ws.map PyData.int)) := leafI_list fun x hx => by
  obtain ⟨w, _, rfl⟩ := List.mem_map.mp hx
  rfl
theorem leaf_strs {ws : List Str} : leafI 1 (.list (ws.map PyData.str)) := leafI_list fun x hx => by
  obtain ⟨w, _, rfl⟩ := List.mem_map.mp hx
  rfl
theorem leaf_bk {m : Nat} {z : D} (h : Bk m (ow z)) : leafI 1 z := by
  obtain ⟨n, ⟨a, b, c, e1, _⟩, _⟩ := h.get
  have e : z = .list [.int a, .int b, .int c] := congrArg Cell.d e1
  rw [e]; exact leaf_ints (ws := [a, b, c])
theorem v_neOI {k k' : Nat} {o : Option Int} {j : Int} {R : KC} (q : R 0 (.bool (!decide (o = some j)))) : ap2 oNe (.v k (optI o)) (.v k' (.int j)) R := v_neOO (o' := some j) q
theorem leaf_strs1 {ws : List Str} {w : Str} : leafI 1 (.list (ws.map PyData.str ++ [.str w])) := leafI_list fun x hx => by
  rcases List.mem_append.mp hx with hx | hx
  · obtain ⟨w, _, rfl⟩ := List.mem_map.mp hx
    rfl
  · rw [List.mem_singleton.mp hx]; rfl
theorem leaf_log {lg : List Lgw} : leafI 1 (.list (lg.map lgD)) := leafI_list fun x hx => by
  obtain ⟨w, _, rfl⟩ := List.mem_map.mp hx
  rfl
theorem leaf_pages {h : List Pgb} {p : Pgb} : leafI 1 (.list (h.map pgD ++ [pgD p])) := leafI_list fun x hx => by
  rcases List.mem_append.mp hx with hx | hx
  · obtain ⟨w, _, rfl⟩ := List.mem_map.mp hx
    exact imm_pg w
  · rw [List.mem_singleton.mp hx]; exact imm_pg p
theorem leaf_bn {h : List Pgb} {p : Pgb} {lg : List Lgw} : leafI 2 (bn h p lg) := by
  rw [bn_eq]
  refine leafI_ins fun x hx => ?_
  rcases List.mem_cons.mp hx with rfl | hx
  · exact leaf_pages
  · rw [List.mem_singleton.mp hx]; exact leaf_log
theorem truO_ob {o : Option Bool} : truO (obD o) = some (decide (o = some true)) := by
  cases o with
  | none => rfl
  | some b => cases b <;> rfl
theorem dBO_ob {o : Option Bool} {R : Bool → Prop} (q : R (decide (o = some true))) : dBO R (obD o) := dBO_mk truO_ob q
theorem v_anyO {α : Type} {g : α → Option Bool} {xs : List α} {r : Res} {R : KC} (h : r.d = .list (xs.map fun x => obD (g x))) (hf : flat r) (q : R 0 (.bool (xs.any fun x => decide (g x = some true)))) : apN (at1 oAnyO) [r] R := apN_op (by
  show dAnyO (flat r) R r.d
  rw [h]
  refine dAnyO_mk ⟨hf, xs.map fun x => decide (g x = some true), ?_, ?_⟩
  · rw [List.map_map, List.map_map]
    exact List.map_congr_left fun x _ => truO_ob
  · rw [List.any_map]; exact q)
theorem nb_pair (a : List Int) (x : Tr) : Nb (.tuple [.tuple (a.map .int), dS x]) := nb_tup fun d hd => by
  rcases List.mem_cons.mp hd with rfl | hd
  · exact nob_ints 58 a
  · rw [List.mem_singleton.mp hd]; exact nob_mono 2 59 _ (by omega) (nob_dS x)
theorem v_cm {k k' : Nat} {a b : List Int} {x y : Tr} {R : KC} (q : R 0 (.bool (decide (a = b ∧ x = y)))) : ap2 oEq (.v k (.tuple [.tuple (a.map .int), dS x])) (.v k' (.tuple [.tuple (b.map .int), dS y])) R :=
  v_eqD (.inl ⟨nb_pair a x, nb_pair b y, by
    rw [decide_eq_true_eq]
    constructor
    · rintro ⟨rfl, rfl⟩; rfl
    · intro h
      have h := PyData.tuple.inj h
      obtain ⟨h1, h2⟩ := List.cons.inj h
      exact ⟨ints_inj (PyData.tuple.inj h1), dS_inj (List.cons.inj h2).1⟩⟩) q
/-! ### the log grows, the pages grow, the last one goes -/
theorem put_log {h : List Pgb} {p : Pgb} {lg : List Lgw} {d : D} : putA "own_log" d (bnF h p lg) = ([("own_pages", .list (h.map pgD ++ [pgD p])), ("own_log", d)] : List (Str × D)) := by
  unfold bnF
  show (if ("own_pages" : Str) = ("own_log" : Str) then _ else _) = _
  rw [if_neg (by decide +kernel)]
  show _ :: (if ("own_log" : Str) = ("own_log" : Str) then _ else _) = _
  rw [if_pos rfl]
theorem app_log {h : List Pgb} {p : Pgb} {lg : List Lgw} {a b : Str} {i : Nat} {env : Pv.Env} {R : Res → Pv.Env → Prop} (hc : getC env i = some ⟨2, bn h p lg⟩) (hz : Hold (lg.length < 2 ^ 20)) (q : R (.v 0 .none) ((lendG i [] 0 env).set i (some ⟨2, bn h p (lg ++ [(a, b)])⟩))) :
    fAppF "Bench" i "own_log" [] (fOpN oTup (fCons (fC (.str a)) (fCons (fC (.str b)) fNil))) env R := by
  unfold fAppF
  rw [hc]
  refine onI_bn ⟨_, lk_log, by rw [List.length_map]; exact Nat.lt_of_lt_of_le hz.out (by rw [sizeLine_eq]; decide), ?_⟩
  refine apN_op ?_
  refine ⟨⟨trivial, by show 2 ≤ sizeLine; rw [sizeLine_eq]; decide⟩, ⟨trivial, rfl⟩, trivial, ?_⟩
  show R _ (List.set _ _ (some ⟨2, insD "Bench" (putA "own_log" (.list (lg.map lgD ++ [lgD (a, b)])) (bnF h p lg))⟩))
  rw [put_log, show lg.map lgD ++ [lgD (a, b)] = (lg ++ [(a, b)]).map lgD by rw [List.map_append]; rfl, bn_of]
  exact q
end Lw

set_option exponentiation.threshold 3000
/-! V5: texts (Pv62): the steps of split, partition, join, of a text's signs, of int(text). -/
namespace Lw
open PySem PySem.Spec PyProof.Rows L2 Pv
section
variable {r1 r2 r : Res} {R : KC} {a b : Str} {ys : List Str} {n : Int} {P : Str → Prop}
theorem v_atStr (h : P a) : atStr P (.str a) := h
theorem v_split (e1 : r1.d = .str a) (e2 : r2.d = .str b) (hb : (b.length == 0) = false) (h : Hold (a.length + 2 ≤ sizeLine)) (q : R 1 (.list ((Txt.split a b).map .str))) : ap2 oSplit r1 r2 R := ap2_op ⟨a, b, e1, e2, hb, h.out, q⟩
theorem v_part (e1 : r1.d = .str a) (e2 : r2.d = .str b) (hb : (b.length == 0) = false) (h : Hold (a.length ≤ sizeLine)) (q : R 0 (.tuple [.str (Txt.partition a b).1, .str (Txt.partition a b).2.1, .str (Txt.partition a b).2.2])) : ap2 oPart r1 r2 R := ap2_op ⟨a, b, e1, e2, hb, h.out, q⟩
theorem v_joinT (e1 : r1.d = .str a) (e2 : r2.d = .list (ys.map .str)) (hf : flat r2) (h : Hold ((ys.map (·.length)).sum + ys.length * a.length ≤ 16777216)) (q : R 0 (.str (Txt.join a ys))) : ap2 oJoin r1 r2 R := ap2_op ⟨a, ys, e1, e2, hf, h.out, q⟩
theorem v_joinM {α : Type} {xs : List α} {f : α → Str} (e1 : r1.d = .str a) (e2 : r2.d = .list (xs.map fun x => PyData.str (f x))) (hf : flat r2) (h : Hold (((xs.map f).map (·.length)).sum + xs.length * a.length ≤ 16777216)) (q : R 0 (.str (Txt.join a (xs.map f)))) : ap2 oJoin r1 r2 R := ap2_op ⟨a, xs.map f, e1, by rw [e2, List.map_map]; rfl, hf, by rw [List.length_map]; exact h.out, q⟩
theorem v_inSg {p : Bool → Bool} (e1 : r1.d = .str a) (e2 : r2.d = .str b) (q : R 0 (.bool (p (!(Builtin.Str.occurrences b a 0 b.length 1).isEmpty)))) : ap2 (oInS p) r1 r2 R := ap2_op ⟨a, b, e1, e2, q⟩
theorem v_inSg1 {p : Bool → Bool} {c : Nat} (e1 : r1.d = .str ⟨#[c]⟩) (e2 : r2.d = .str b) (q : R 0 (.bool (p (decide (c ∈ b.cps.toList))))) : ap2 (oInS p) r1 r2 R := v_inSg e1 e2 (by rw [PySem.StrLaws.found_one]; exact q)
theorem v_lenSetL {ns : List Int} (h : r.d = .list (ns.map .int)) (hf : flat r) (hl : Hold (ns.length ≤ 1000)) (q : ∀ ks : List Int, ks.Nodup → (∀ k, k ∈ ks ↔ k ∈ ns) → R 0 (.int (ks.length : Nat))) : apN (at1 oLenSetL) [r] R := apN_op ⟨ns, h, hf, hl.out, q⟩
theorem v_intS (e : r.d = .str a) (h : PySem.intText? a = some n) (hl : Hold (a.length ≤ 640)) (q : R 0 (.int n)) : apN (at1 oIntS) [r] R := apN_op ⟨a, n, e, h, hl.out, q⟩
end
/-! ### numbers as texts -/
/-- a number's text -/
def intS (i : Int) : Str := Str.ofString (toString i)
/-- a channel's text -/
def chT (ws : List Int) : Str := Txt.join " " (ws.map intS)
/-! ### texts as numbers -/
def figs : List Nat := (Str.ofString "0123456789").cps.toList
theorem figs_eq : figs = [48, 49, 50, 51, 52, 53, 54, 55, 56, 57] := by decide +kernel
theorem mem_figs {c : Nat} : c ∈ figs ↔ 48 ≤ c ∧ c ≤ 57 := by
  rw [figs_eq]
  simp only [List.mem_cons, List.not_mem_nil, or_false]
  omega
def numOk (w : Str) : Prop := (1 ≤ w.length ∧ w.length ≤ 13) ∧ (w.cps.toList.all fun c => decide (c ∈ figs)) = true ∧ (w = "0" ∨ w.cps.toList.head? ≠ some 48)
instance (w : Str) : Decidable (numOk w) := by unfold numOk; infer_instance
/-- the number that a word is -/
def numI (w : Str) : Option Int := if numOk w then PySem.intText? w else none
theorem numOk.int {w : Str} (h : numOk w) : ∃ n : Nat, PySem.intText? w = some (n : Int) := by
  obtain ⟨⟨h1, h2⟩, h3, _⟩ := h
  have e : w.cps.toList.length = w.length := Array.length_toList
  refine ⟨_, PySem.intText_digits (fun c hc => ?_) (fun z => ?_) (by omega)⟩
  · exact mem_figs.mp (of_decide_eq_true (List.all_eq_true.mp h3 c hc))
  · rw [z] at e
    have e : (0 : Nat) = w.length := e
    omega
/-! ### None among numbers -/
theorem inD_non {α : Type} {f : α → Option Int} : ∀ {xs : List α}, inD .none (xs.map fun x => optI (f x)) = decide (none ∈ xs.map f)
  | [] => by simp [inD]
  | x :: xs => by
    have ih := inD_non (f := f) (xs := xs)
    unfold inD at ih ⊢
    rw [List.map_cons, List.any_cons, ih, List.map_cons, Bool.eq_iff_iff, Bool.or_eq_true, decide_eq_true_eq, decide_eq_true_eq, List.mem_cons]
    cases e : f x with
    | none => simp [optI, PyData.eqv]
    | some n => simp [optI, PyData.eqv]
theorem dep_opts {α : Type} {f : α → Option Int} {xs : List α} : dep 1 (.list (xs.map fun x => optI (f x))) = true := List.all_eq_true.mpr fun d hd => by
  obtain ⟨x, _, rfl⟩ := List.mem_map.mp hd
  cases f x <;> rfl
section
variable {α : Type} {f : α → Option Int} {xs : List α} {r : Res} {R : KC} {k : Nat}
theorem v_inNon (h : r.d = .list (xs.map fun x => optI (f x))) (q : R 0 (.bool (decide (none ∈ xs.map f)))) : ap2 oIn (.v k .none) r R := ap2_op (by
  show dIn (fun b => b) .none R r.d
  rw [h]
  refine ⟨dep_shp (n := 0) rfl (by decide), dep_shp (n := 1) dep_opts (by decide), ?_⟩
  rw [inD_non]; exact q)
theorem v_notNon (h : r.d = .list (xs.map fun x => optI (f x))) (q : R 0 (.bool (!decide (none ∈ xs.map f)))) : ap2 oNotIn (.v k .none) r R := ap2_op (by
  show dIn (fun b => !b) .none R r.d
  rw [h]
  refine ⟨dep_shp (n := 0) rfl (by decide), dep_shp (n := 1) dep_opts (by decide), ?_⟩
  rw [inD_non]; exact q)
end
/-- the numbers that words are -/
def numsI (ws : List Str) : List Int := ws.map fun w => (numI w).getD 0
/-- .. if all are such -/
def numsD (ws : List Str) : D := if none ∈ ws.map numI then .none else .tuple ((numsI ws).map .int)
/-! ### how long texts are -/
theorem inD_lr {a : Str} : inD (.str a) [.str (Str.ofString "left"), .str (Str.ofString "right")] = decide (a = "left" ∨ a = "right") := by
  unfold inD
  rw [List.any_cons, List.any_cons, List.any_nil, Bool.or_false, Bool.eq_iff_iff, Bool.or_eq_true, decide_eq_true_eq]
  show (decide (Str.ofString "left" = a) = true ∨ decide (Str.ofString "right" = a) = true) ↔ _
  rw [decide_eq_true_eq, decide_eq_true_eq]
  exact ⟨fun h => h.imp Eq.symm Eq.symm, fun h => h.imp Eq.symm Eq.symm⟩
theorem shp_lr : shp (.tuple [.str (Str.ofString "left"), .str (Str.ofString "right")]) := dep_shp (n := 1) (by decide +kernel) (by decide)
/-! ### what parts are made of -/
/-- a separator that the laws split at -/
def sepOk (s : Str) : Prop := TL.tl s ≠ [] ∧ s.cps.all (· < 256) = true
end Lw

set_option autoImplicit false
/-! V0: a told triple whose list is one's own. -/
namespace Lw
open PySem PySem.Spec PyProof.Rows L2 Pv
def toldC (o : Option (Nat × Bool × List (Bool × Int))) : Cell := match o with
  | none => sh .none
  | some r => ⟨2, otpD [.int r.1, .str (sideS r.2.1), .list (r.2.2.map (prW false))]⟩
theorem told_un (o : Option (Nat × Bool × List (Bool × Int))) : unO (toldC o).d = toldD o := by
  cases o with
  | none => rfl
  | some r => exact unO_otp
end Lw

namespace Lw
open PySem PySem.Spec PyProof.Rows L2 Pv
local macro_rules | `(tactic| row_room_at pv_il) => `(tactic| (repeat' (first | exact IL.nil | exact IL.map _ | apply IL.cons | apply IL.app)))
local macro_rules | `(tactic| row_room_at pv_rl) => `(tactic| (repeat' (first | exact RL.nil | exact RL.map _ | apply RL.consR | apply RL.consL | apply RL.consS | apply RL.app)))
local macro_rules | `(tactic| row_room_at pv_ev) => `(tactic| (repeat ((try (conv => whnf)); first | (with_reducible refine apP_op ?_) | (with_reducible refine apF_op ?_) | (with_reducible refine apL_op ?_) | (with_reducible refine ap2_op ?_) | (with_reducible refine apN_op ?_) | (with_reducible refine ap1_op ?_) | (with_reducible refine ovr_op ?_) | (with_reducible refine ovr2_op ?_) | (with_reducible refine ev_okb_v ?_) | (with_reducible refine ev_scr ?_) | ((with_reducible refine ev_okb ?_ ?_); exact rfl) | ((with_reducible refine ev_dis ?_ ?_); exact rfl) | ((with_reducible refine ev_noB ?_ ?_); exact trivial) | ((with_reducible refine ev_own ?_ ?_); exact trivial) | ((with_reducible refine ev_flat ?_ ?_); exact trivial) | ((with_reducible refine ev_flat ?_ ?_); exact Nat.le_refl 1) | ((with_reducible refine ev_away ?_ ?_); exact rfl) | ((with_reducible refine ev_lst ?_ ?_ ?_); exact trivial; exact rfl) | ((with_reducible refine ev_len ?_ ?_); exact rfl) | ((with_reducible refine ev_ix ?_ ?_); exact rfl) | ((with_reducible refine ev_aug ?_ ?_); exact rfl) | (refine unpk_tE ?_) | (refine unpk_lE ?_))); try (conv => whnf))
local macro_rules | `(tactic| row_room_at pv_cl) => `(tactic| (try simp only [List.getD_cons_zero, List.getD_cons_succ, putIos, startE, getC, List.map_cons, List.map_nil, List.cons_append, List.nil_append, List.replicate, List.length_cons, List.length_nil, List.set_cons_zero, List.set_cons_succ, Nat.reduceAdd, Nat.reduceSub, wipeE, back, List.getElem?_cons_zero, List.getElem?_cons_succ, Res.d_v, Res.d_b, dsOf, Nat.zero_add, Bool.false_eq_true, if_false, keepC_none]))
local macro_rules | `(tactic| row_room_at pv_sd) => `(tactic| (first | assumption | (apply wireOk.p; assumption) | exact Ints.t _ | exact Ints.l _ | exact StdS.o _ | exact StdS.mk _ _ _ | exact StdS.ml _ _ _ | exact Row.l _ | exact Row.t _ | exact Row.wl _ _ | exact Row.wt _ _ | exact Sq.t _ | exact Sq.l _ | exact Ints.t0 | exact Ints.l0 | exact Row.l0 | exact Row.t0 | exact StdS.mk0 _ _ | exact Row.l1 _ _ | exact Row.l1r _ | exact Row.l1l _ | (apply Ints.ofIL; row_room_at pv_il; done) | (apply Ints.ofILt; row_room_at pv_il; done) | (apply Row.ofRL; row_room_at pv_rl; done) | (apply Row.ofRLt; row_room_at pv_rl; done)))
local macro_rules | `(tactic| row_room_at pv_fl) => `(tactic| (first | exact trivial | exact Nat.le_refl 1))
local macro_rules | `(tactic| row_room_at pv_nb) => `(tactic| (first | exact nb_dS _ | exact nb_tupI _ | exact nb_listI _ | exact nb_int _ | exact nb_non | exact nb_side _ | exact nb_nil | exact nb_nilT | exact nb_row _ | exact nb_sides _ | (refine nb_ints ?_; assumption)))
local macro_rules | `(tactic| row_room_at pv_oks) => `(tactic| (repeat' (first | (with_reducible assumption) | omega | refine ledS_ok _ ?_ | refine tiltS_ok ?_ _ _ | refine iterS_ok _ ?_ | refine inT0_ok ?_ _)))
local macro_rules | `(tactic| row_room_at pv_sdn) => `(tactic| (first | (apply wireOk.p; assumption) | exact Ints.t _ | exact Ints.l _ | exact StdS.o _ | exact StdS.mk _ _ _ | exact StdS.ml _ _ _ | exact Row.l _ | exact Row.t _ | exact Row.wl _ _ | exact Row.wt _ _ | exact Sq.t _ | exact Sq.l _ | exact Ints.t0 | exact Ints.l0 | exact Row.l0 | exact Row.t0 | exact StdS.mk0 _ _ | exact Row.l1 _ _ | exact Row.l1r _ | exact Row.l1l _ | (apply Ints.ofIL; row_room_at pv_il; done) | (apply Ints.ofILt; row_room_at pv_il; done) | (apply Row.ofRL; row_room_at pv_rl; done) | (apply Row.ofRLt; row_room_at pv_rl; done)))
local macro_rules | `(tactic| row_room_at pv_hs) => `(tactic| (refine Hold.mk ?_; first | (with_reducible assumption) | omega | row_room_at pv_nb | (simp only [Int.reduceToNat, List.length_map, List.length_reverse, List.length_append, List.length_cons, List.length_nil, srt_len, irange_len, List.length_take, List.length_drop, inT0_len] <;> omega) | (dsimp only; first | (with_reducible assumption) | omega | (simp only [Int.reduceToNat, List.length_map, List.length_reverse, List.length_append, List.length_cons, List.length_nil, srt_len, irange_len, List.length_take, List.length_drop, inT0_len] <;> omega)) | exact rfl | exact trivial | (exact pos_of_ne (by assumption)) | (refine flt_le ?_; simp only [Int.reduceToNat, List.length_map, List.length_reverse, List.length_append, List.length_cons, List.length_nil, srt_len, irange_len, List.length_take, List.length_drop, inT0_len] <;> omega) | (refine flt_lt ?_; simp only [Int.reduceToNat, List.length_map, List.length_reverse, List.length_append, List.length_cons, List.length_nil, srt_len, irange_len, List.length_take, List.length_drop, inT0_len] <;> omega) | (row_room_at pv_oks; done) | (apply okS.le; (focus (row_room_at pv_oks; done)); omega) | row_room_at pv_sdn | decide))
local macro_rules | `(tactic| row_room_at pv_ok) => `(tactic| (repeat' (first | exact okD_int | exact okD_opt | exact okD_bl | exact okD_non | exact okD_side | (refine okD_dS ?_; try row_room_at pv_hs) | refine okDs_nil | refine okDs_cons ?_ ?_ | (refine okD_L ?_ ?_; try row_room_at pv_hs) | (refine okD_T ?_ ?_; try row_room_at pv_hs) | (refine okDs_map ?_; intro y hy))))
local macro_rules | `(tactic| row_room_at pv_and) => `(tactic| (first | (with_reducible refine ev_okb_v ?_) | (with_reducible refine ev_scr ?_) | ((with_reducible refine ev_okb ?_ ?_); exact rfl) | ((with_reducible refine ev_dis ?_ ?_); exact rfl) | ((with_reducible refine ev_noB ?_ ?_); exact trivial) | ((with_reducible refine ev_own ?_ ?_); exact trivial) | ((with_reducible refine ev_flat ?_ ?_); exact trivial) | ((with_reducible refine ev_flat ?_ ?_); exact Nat.le_refl 1) | ((with_reducible refine ev_away ?_ ?_); exact rfl) | ((with_reducible refine ev_lst ?_ ?_ ?_); exact trivial; exact rfl) | ((with_reducible refine ev_len ?_ ?_); exact rfl) | ((with_reducible refine ev_ix ?_ ?_); exact rfl) | ((with_reducible refine ev_aug ?_ ?_); exact rfl) | ((with_reducible refine And.intro ?_ ?_); (focus (first | exact True.intro | exact rfl | exact ⟨trivial, trivial⟩ | exact ⟨trivial, Nat.le_refl 1⟩))) | ((with_reducible refine And.intro ?_ ?_); (focus with_reducible assumption)) | ((with_reducible refine And.intro lend_no ?_); simp only [lendG, keepC_0, keepC_none, Nat.reduceBEq, Nat.reduceAdd, Nat.zero_add, List.contains_nil, Bool.or_false, cond_true, cond_false, BEq.rfl]) | (refine And.intro (lend_bx (by with_reducible assumption)) ?_) | (((with_reducible refine ev_pow ?_ ?_); (focus decide))) | (((with_reducible refine ev_cat ?_ ?_ ?_ ?_); (focus row_room_at pv_fl); (focus row_room_at pv_fl); (first | (focus row_room_at pv_hs) | rotate_left))) | (((with_reducible refine ev_div ?_ ?_ ?_); (focus row_room_at pv_hs); (focus row_room_at pv_hs))) | (((with_reducible refine ev_rg ?_ ?_ ?_ ?_); all_goals (try row_room_at pv_hs); all_goals (try simp only [rngD_eq]))) | (((with_reducible refine ev_rgdn ?_ ?_ ?_); all_goals (try row_room_at pv_hs); all_goals (try simp only [rngDn_eq]))) | (((with_reducible refine ev_r1 ?_ ?_ ?_); all_goals (try row_room_at pv_hs); all_goals (try simp only [rngD_eq]))) | (((with_reducible refine ev_r2 ?_ ?_ ?_ ?_ ?_); all_goals (try row_room_at pv_hs); all_goals (try simp only [rngD_eq]))) | (((with_reducible refine ev_sz ?_ ?_); (first | (focus row_room_at pv_hs) | rotate_left))) | (((with_reducible refine ev_szl ?_ ?_); (first | (focus row_room_at pv_hs) | rotate_left)))))
local macro_rules | `(tactic| row_room_at pv_op2) => `(tactic| (first | ((refine v_in (by row_room_at pv_sd) ?_)) | ((refine v_notIn (by row_room_at pv_sd) ?_)) | ((with_reducible refine v_ixD1 ?_)) | (((with_reducible refine v_reprV ?_ ?_); (first | (focus row_room_at pv_hs) | rotate_left))) | (((with_reducible refine v_reprB ?_ ?_); (first | (focus row_room_at pv_hs) | rotate_left))) | ((with_reducible refine v_eqW ?_)) | ((with_reducible refine v_neW ?_)) | ((refine v_ixS0 (by assumption) ?_)) | ((refine v_ixS1 (by assumption) ?_; intro dl hdl)) | ((refine v_ixS2 (by assumption) ?_)) | ((refine v_eqNL rfl rfl ?_ ?_; (first | (focus row_room_at pv_hs) | rotate_left))) | ((refine v_neNL rfl rfl ?_ ?_; (first | (focus row_room_at pv_hs) | rotate_left))) | ((refine v_eqNT rfl rfl ?_ ?_; (first | (focus row_room_at pv_hs) | rotate_left))) | ((refine v_neNT rfl rfl ?_ ?_; (first | (focus row_room_at pv_hs) | rotate_left))) | ((with_reducible refine v_eqD (by with_reducible assumption) ?_)) | (((have hEqD : EqD _ _ _ := by with_reducible assumption); clear hEqD; (try simp only [sh_d, sh_k, dsOf, Res.d_v]); refine v_eqD (by with_reducible assumption) ?_)) | ((with_reducible refine v_neD (by with_reducible assumption) ?_)) | (((have hEqD : EqD _ _ _ := by with_reducible assumption); clear hEqD; (try simp only [sh_d, sh_k, dsOf, Res.d_v]); refine v_neD (by with_reducible assumption) ?_)) | ((with_reducible refine v_eqO ?_)) | ((with_reducible refine v_neOO ?_)) | ((with_reducible refine v_eqR ?_)) | ((with_reducible refine v_eqL ?_)) | ((with_reducible refine v_eqSS ?_)) | ((with_reducible refine v_eqS ?_)) | ((with_reducible refine v_neS ?_)) | ((with_reducible refine v_eqI ?_)) | ((with_reducible refine v_neI ?_)) | ((with_reducible refine v_eqTT ?_)) | ((with_reducible refine v_neTT ?_)) | ((with_reducible refine v_eqLL ?_)) | ((with_reducible refine v_neLL ?_)) | ((refine v_ixA rfl (by row_room_at pv_fl) ?_)) | ((refine v_ixF rfl (by row_room_at pv_fl) (by with_reducible assumption) ?_)) | ((refine v_ixLI (by row_room_at pv_sd) (by row_room_at pv_fl) ?_ ?_; (first | (focus row_room_at pv_hs) | rotate_left))) | ((refine v_ixL (by row_room_at pv_sd) (by row_room_at pv_fl) ?_ ?_; (first | (focus row_room_at pv_hs) | rotate_left); intro y hy)) | ((refine v_ixI (by row_room_at pv_sd) (by row_room_at pv_fl) ?_ ?_ ?_; (first | (focus row_room_at pv_hs) | rotate_left); (first | (focus row_room_at pv_hs) | rotate_left))) | ((refine v_ixM (.inl rfl) (by row_room_at pv_fl) ?_ ?_ ?_; (first | (focus row_room_at pv_hs) | rotate_left); (first | (focus row_room_at pv_hs) | rotate_left))) | ((refine v_ixM (.inr rfl) (by row_room_at pv_fl) ?_ ?_ ?_; (first | (focus row_room_at pv_hs) | rotate_left); (first | (focus row_room_at pv_hs) | rotate_left))) | ((refine v_index rfl (by row_room_at pv_fl) ?_ ?_; (first | (focus row_room_at pv_hs) | rotate_left))) | ((refine v_catL rfl rfl (by row_room_at pv_fl) (by row_room_at pv_fl) ?_ ?_; (first | (focus row_room_at pv_hs) | rotate_left))) | ((refine v_catT rfl rfl (by row_room_at pv_fl) (by row_room_at pv_fl) ?_ ?_; (first | (focus row_room_at pv_hs) | rotate_left))) | ((refine v_catIL rfl rfl (by row_room_at pv_il) (by row_room_at pv_il) (by row_room_at pv_fl) (by row_room_at pv_fl) ?_ ?_; (first | (focus row_room_at pv_hs) | rotate_left))) | ((refine v_catIT rfl rfl (by row_room_at pv_il) (by row_room_at pv_il) (by row_room_at pv_fl) (by row_room_at pv_fl) ?_ ?_; (first | (focus row_room_at pv_hs) | rotate_left))) | ((refine v_rep rfl (by row_room_at pv_fl) ?_ ?_ ?_ ?_; (first | (focus row_room_at pv_hs) | rotate_left); (first | (focus row_room_at pv_hs) | rotate_left); (first | (focus row_room_at pv_hs) | rotate_left))) | (((with_reducible refine v_mulR ?_ ?_ ?_); (focus row_room_at pv_hs); (focus row_room_at pv_hs))) | (((with_reducible refine v_mulL ?_ ?_ ?_); (focus row_room_at pv_hs); (focus row_room_at pv_hs))) | (((refine v_repT rfl ?_ ?_ ?_); (focus row_room_at pv_hs); (focus row_room_at pv_hs))) | ((with_reducible refine v_isOb ?_)) | ((with_reducible refine v_notOb ?_)) | ((refine v_inB rfl ?_)) | ((refine v_eqD0 rfl rfl ?_)) | ((refine v_neD0 rfl rfl ?_)) | ((refine v_ixK rfl (by with_reducible assumption) ?_)) | (with_reducible refine ap2_op ?_)))
local macro_rules | `(tactic| row_room_at pv_opN) => `(tactic| (first | ((refine v_lenI (by row_room_at pv_sd) ?_)) | ((refine v_lenM (by row_room_at pv_sd) ?_)) | ((refine v_len (by row_room_at pv_sd) ?_)) | ((refine v_list (by row_room_at pv_sd) (by row_room_at pv_fl) ?_)) | ((refine v_tuple (by row_room_at pv_sd) (by row_room_at pv_fl) ?_)) | ((refine v_sorted rfl (by row_room_at pv_fl) ?_)) | ((refine v_sortedS rfl (by row_room_at pv_fl) ?_ (fun us hus hum hul => ?_); (focus row_room_at pv_hs))) | ((refine v_sortedS1 rfl (by row_room_at pv_fl) ?_ (fun us hus hum hul => ?_); (focus row_room_at pv_hs))) | ((refine v_sortedT rfl ?_)) | ((refine v_sortedI (by row_room_at pv_sd) (by row_room_at pv_fl) ?_)) | ((refine v_sortedP rfl (by row_room_at pv_fl) (fun ps2 hps2 => ?_))) | ((refine v_maxDf rfl (by row_room_at pv_fl) ?_)) | ((refine v_max (by row_room_at pv_sd) (by row_room_at pv_fl) ?_ ?_; (first | (focus row_room_at pv_hs) | rotate_left))) | ((refine v_min (by row_room_at pv_sd) (by row_room_at pv_fl) ?_ ?_; (first | (focus row_room_at pv_hs) | rotate_left))) | ((refine v_all rfl trivial ?_)) | ((refine v_any rfl trivial ?_)) | (((with_reducible refine v_reprV ?_ ?_); (first | (focus row_room_at pv_hs) | rotate_left))) | (((with_reducible refine v_reprB ?_ ?_); (first | (focus row_room_at pv_hs) | rotate_left))) | ((refine v_listD rfl ?_)) | (with_reducible refine apN_op ?_)))
local macro_rules | `(tactic| row_room_at pv_op1) => `(tactic| (first | ((refine v_revL rfl (by row_room_at pv_fl) ?_)) | ((refine v_revT rfl (by row_room_at pv_fl) ?_)) | ((refine v_fwdL rfl (by row_room_at pv_fl) ?_)) | ((refine v_fwdT rfl (by row_room_at pv_fl) ?_)) | ((refine v_slButL rfl (by row_room_at pv_fl) ?_)) | ((refine v_slButT rfl ?_)) | ((refine v_slMidL rfl (by row_room_at pv_fl) ?_)) | ((refine v_slLastL rfl (by row_room_at pv_fl) ?_)) | ((refine v_slInL rfl (by row_room_at pv_fl) ?_ ?_ ?_; (first | (focus row_room_at pv_hs) | rotate_left); (first | (focus row_room_at pv_hs) | rotate_left))) | ((refine v_slInT rfl ?_ ?_ ?_; (first | (focus row_room_at pv_hs) | rotate_left); (first | (focus row_room_at pv_hs) | rotate_left))) | ((refine v_slToL rfl (by row_room_at pv_fl) ?_ ?_; (first | (focus row_room_at pv_hs) | rotate_left))) | ((refine v_slToT rfl (by row_room_at pv_fl) ?_ ?_; (first | (focus row_room_at pv_hs) | rotate_left))) | ((refine v_slFromL rfl (by row_room_at pv_fl) ?_ ?_; (first | (focus row_room_at pv_hs) | rotate_left))) | ((refine v_slFromT rfl (by row_room_at pv_fl) ?_ ?_; (first | (focus row_room_at pv_hs) | rotate_left))) | ((with_reducible refine v_isT ?_)) | ((with_reducible refine v_isL ?_)) | ((with_reducible refine v_isS ?_)) | ((with_reducible refine v_isB ?_)) | ((with_reducible refine v_isI ?_)) | ((with_reducible refine v_isLT ?_)) | ((with_reducible refine v_lkS ?_)) | ((with_reducible refine v_isOb ?_)) | (with_reducible refine ap1_op ?_)))
local macro_rules | `(tactic| row_room_at pv_ov) => `(tactic| (first | ((refine v_seqP (by assumption) ?_; intro wr k1 d1)) | ((refine v_seq (by row_room_at pv_sd) ?_; intro k1 d1)) | ((refine v_enum (by row_room_at pv_sd) ?_)) | ((refine v_enumM (.inl rfl) ?_)) | ((refine v_enumM (.inr rfl) ?_)) | (with_reducible refine ovr_op ?_)))
local macro_rules | `(tactic| row_room_at pv_ov2) => `(tactic| (first | (with_reducible refine ovr2_op ?_)))
local macro_rules | `(tactic| row_room_at pv_late) => `(tactic| (first | (refine ev_onD ?_) | (refine ev_onInts ?_) | (refine ev_at1D ?_) | (refine v_unpP ?_) | (refine v_unpS (by assumption) ?_; intro dl hdl) | (refine unpk_tE ?_) | (refine unpk_lE ?_) | (simp only [gs_n, gs_t, gs_0, unpk_t, unpk_l, dsOf, List.map_cons, List.map_nil, Res.d_v, Res.d_b, List.length_cons, List.length_nil, Nat.zero_add, Nat.reduceAdd, if_true]) | (exact hN) | (exact hR _) | (refine hT ?_; (focus (first | exact decide_eq_true hc | (simp [*]; done) | (simp [*]; (try intro hz); omega)))) | (refine hF ?_; (focus (first | exact decide_eq_false hc | (simp [*]; done) | (simp [*]; (try intro hz); omega)))) | (refine R_of hR ?_ ?_; all_goals (try row_room_at pv_hs)) | (simp only [List.getD_cons_zero, List.getD_cons_succ, putIos, startE, getC, List.map_cons, List.map_nil, List.cons_append, List.nil_append, List.replicate, List.length_cons, List.length_nil, List.set_cons_zero, List.set_cons_succ, Nat.reduceAdd, Nat.reduceSub, wipeE, back, List.getElem?_cons_zero, List.getElem?_cons_succ, Res.d_v, Res.d_b, dsOf, Nat.zero_add, Bool.false_eq_true, if_false, keepC_none]) | (split <;> rename_i hc <;> (try simp only [decide_eq_true_eq, decide_eq_false_iff_not, Bool.not_eq_true', Bool.not_eq_false', Bool.not_eq_true, Bool.not_eq_false, Int.not_lt, Int.not_le, Bool.not_not, beq_iff_eq] at hc) <;> (try (cases hc; done)) <;> (try (exact absurd True.intro hc)) <;> (try contradiction) <;> (try (exfalso; omega)) <;> (try subst hc))))
local macro_rules | `(tactic| row_room_at pv_latex) => `(tactic| (first | (refine ev_onD ?_) | (refine ev_onInts ?_) | (refine ev_at1D ?_) | (refine v_unpP ?_) | (refine v_unpS (by assumption) ?_; intro dl hdl) | (refine unpk_tE ?_) | (refine unpk_lE ?_) | (simp only [gs_n, gs_t, gs_0, unpk_t, unpk_l, dsOf, List.map_cons, List.map_nil, Res.d_v, Res.d_b, List.length_cons, List.length_nil, Nat.zero_add, Nat.reduceAdd, if_true]) | (exact hN) | (exact hR _) | (refine hT ?_; (focus (first | exact decide_eq_true hc | (simp [*]; done) | (simp [*]; (try intro hz); omega)))) | (refine hF ?_; (focus (first | exact decide_eq_false hc | (simp [*]; done) | (simp [*]; (try intro hz); omega)))) | (refine R_of hR ?_ ?_; all_goals (try row_room_at pv_hs))))
local macro_rules | `(tactic| row_room_at pv_end) => `(tactic| (all_goals (try (conv => whnf)); all_goals row_room_at pv_cl; all_goals (try row_room_at pv_hs)))
local macro_rules | `(tactic| row_room_at pv_leaft) => `(tactic| (first | assumption | exact leaf_bk (by assumption) | exact leaf_strs1 | exact leaf_ints | exact leaf_strs | exact leaf_bn | exact leaf_log | exact leaf_pages | exact leafI_imm rfl | exact leafI_imm (imm_ch _) | exact leafI_imm (imm_dS _) | exact leafI_list fun x hx => (List.not_mem_nil hx).elim))
local macro_rules | `(tactic| row_room_at pv_kept) => `(tactic| (first | exact True.intro | (refine And.intro ?_ ?_; (focus (first | exact True.intro | exact And.intro rfl (by row_room_at pv_leaft)))) ))
local macro_rules | `(tactic| row_room_at pv_immt) => `(tactic| (first | exact rfl | exact imm_ch _ | exact imm_dS _ | exact imm_pg _ | row_room_at pv_leaft))
local macro_rules | `(tactic| row_room_at pv_lends) => `(tactic| (try simp only [lendG, keepC_0, keepC_s, keepC_none, Nat.reduceBEq, Nat.reduceAdd, Nat.zero_add, List.contains_cons, List.contains_nil, Bool.or_false, Bool.false_or, Bool.or_true, Bool.true_or, cond_true, cond_false, BEq.rfl, List.set_cons_zero, List.set_cons_succ]))

def topS (i : Nat) : Stmt := PySem.Challenge.pw_tiltpits_k44_channels_told_apart.main.body.getD i (.Pass ⟨0, 0, 0, 0⟩)
local macro_rules | `(tactic| row_room_at pv_st_is_number) => `(tactic| ((try ((with_reducible show toEnv _ _); (first | refine toEnv_go rfl ?_ | refine toEnv_gT rfl rfl ?_); row_room_at pv_cl)); (try (conv => whnf)); first | ((with_reducible show _ ∧ _); row_room_at pv_and) | ((with_reducible show ap2 _ _ _ _); row_room_at pv_op2) | ((with_reducible show apN _ _ _); row_room_at pv_opN) | ((with_reducible show ap1 _ _ _); row_room_at pv_op1) | ((with_reducible show ovr _ _); row_room_at pv_ov) | ((with_reducible show ovr2 _ _ _); row_room_at pv_ov2) | row_room_at pv_late))
local macro_rules | `(tactic| row_room_at pv_go_is_number) => `(tactic| (repeat' row_room_at pv_st_is_number))
local macro_rules | `(tactic| row_room_at pv_gox_is_number) => `(tactic| (repeat' ((try ((with_reducible show toEnv _ _); (first | refine toEnv_go rfl ?_ | refine toEnv_gT rfl rfl ?_); row_room_at pv_cl)); (try (conv => whnf)); first | ((with_reducible show _ ∧ _); row_room_at pv_and) | ((with_reducible show ap2 _ _ _ _); row_room_at pv_op2) | ((with_reducible show apN _ _ _); row_room_at pv_opN) | ((with_reducible show ap1 _ _ _); row_room_at pv_op1) | ((with_reducible show ovr _ _); row_room_at pv_ov) | ((with_reducible show ovr2 _ _ _); row_room_at pv_ov2) | row_room_at pv_latex)))
local macro_rules | `(tactic| row_room_at pv_gou_is_number) => `(tactic| (repeat' (first | (with_reducible refine apF_op ?_) | (with_reducible refine apL_op ?_) | row_room_at pv_st_is_number)))

def b_is_number : FS := (fRet (fAndV (fOp1 (oIsi ["int"]) (fVar 0)) (fNotV (fOp1 (oIsi ["bool"]) (fVar 0)))))

@[irreducible] def ph_is_number : Phi := fun args R => ∃ (i : Int), args = [sh (.int i)] ∧ R (sh (.bool true)) []
theorem call_is_number {i : Int} {R : Cell → List Cell → Prop}  (q : R (sh (.bool true)) []) : ph_is_number [sh (.int i)] R := by
  unfold ph_is_number
  exact ⟨i, rfl, q⟩
theorem vc_is_number (args R) (h : ph_is_number args R) : b_is_number (startE 1 args) (defK [false] R) := by
  unfold ph_is_number at h
  obtain ⟨i, rfl, hR⟩ := h
  (row_room_at pv_go_is_number; row_room_at pv_end)

local macro_rules | `(tactic| row_room_at pv_st_is_side) => `(tactic| ((try ((with_reducible show toEnv _ _); (first | refine toEnv_go rfl ?_ | refine toEnv_gT rfl rfl ?_); row_room_at pv_cl)); (try (conv => whnf)); first | ((with_reducible show _ ∧ _); row_room_at pv_and) | ((with_reducible show ap2 _ _ _ _); row_room_at pv_op2) | ((with_reducible show apN _ _ _); row_room_at pv_opN) | ((with_reducible show ap1 _ _ _); row_room_at pv_op1) | ((with_reducible show ovr _ _); row_room_at pv_ov) | ((with_reducible show ovr2 _ _ _); row_room_at pv_ov2) | row_room_at pv_late))
local macro_rules | `(tactic| row_room_at pv_go_is_side) => `(tactic| (repeat' row_room_at pv_st_is_side))
local macro_rules | `(tactic| row_room_at pv_gox_is_side) => `(tactic| (repeat' ((try ((with_reducible show toEnv _ _); (first | refine toEnv_go rfl ?_ | refine toEnv_gT rfl rfl ?_); row_room_at pv_cl)); (try (conv => whnf)); first | ((with_reducible show _ ∧ _); row_room_at pv_and) | ((with_reducible show ap2 _ _ _ _); row_room_at pv_op2) | ((with_reducible show apN _ _ _); row_room_at pv_opN) | ((with_reducible show ap1 _ _ _); row_room_at pv_op1) | ((with_reducible show ovr _ _); row_room_at pv_ov) | ((with_reducible show ovr2 _ _ _); row_room_at pv_ov2) | row_room_at pv_latex)))
local macro_rules | `(tactic| row_room_at pv_gou_is_side) => `(tactic| (repeat' (first | (with_reducible refine apF_op ?_) | (with_reducible refine apL_op ?_) | row_room_at pv_st_is_side)))

def b_is_side : FS := (fRet (fAndV (fOp1 (oIsi ["str"]) (fVar 0)) (fOp2 oIn (fVar 0) (fC (.tuple [.str "left", .str "right"])))))

@[irreducible] def ph_is_side : Phi := fun args R => ∃ (b : Bool), args = [sh (.str (sideS b))] ∧ R (sh (.bool true)) []
theorem call_is_side {b : Bool} {R : Cell → List Cell → Prop}  (q : R (sh (.bool true)) []) : ph_is_side [sh (.str (sideS b))] R := by
  unfold ph_is_side
  exact ⟨b, rfl, q⟩
theorem vc_is_side (args R) (h : ph_is_side args R) : b_is_side (startE 1 args) (defK [false] R) := by
  unfold ph_is_side at h
  obtain ⟨b, rfl, hR⟩ := h
  cases b
  all_goals
    (row_room_at pv_go_is_side; row_room_at pv_end)
    refine ⟨dep_shp (n := 1) (by decide +kernel) (by decide), dep_shp (n := 2) (by decide +kernel) (by decide), ?_⟩
  · rw [show inD (PyData.str (sideS false)) [PyData.str (Str.ofString "left"), PyData.str (Str.ofString "right")] = true by decide +kernel]
    (row_room_at pv_go_is_side; row_room_at pv_end)
  · rw [show inD (PyData.str (sideS true)) [PyData.str (Str.ofString "left"), PyData.str (Str.ofString "right")] = true by decide +kernel]
    (row_room_at pv_go_is_side; row_room_at pv_end)

def b_turned_channel : FS := (fRet (fOpN (at1 oTuple) (fCons (fStp (fVar 0) (fPart (fOp1 oNeg (fC (.int 1))))) fNil)))

def ph_turned_channel : Phi := fun args R => ∃ (d : D) (ws : List Int), args = [sh d] ∧ Ints d ws ∧ R (sh (.tuple (ws.reverse.map .int))) []
theorem vc_turned_channel (args R) (h : ph_turned_channel args R) : b_turned_channel (startE 1 args) (defK [false] R) := by
  obtain ⟨d, ws, rfl, hd, hR⟩ := h
  rw [List.map_reverse] at hR
  rcases hd with rfl | rfl
  all_goals
    simp only [b_turned_channel]
    simp only [fSeq, fIfS, fTst, fOp1, fOp2, fOpN, fVar, fFz, fMv, fC, fAsg, fAsgO, fSetIx, fRet, fRetN, fNext, fDrop, fMth, fAug, fUnp, fPar, fNil, fCons, fBreak, fAnd, fOr, fNot, fAndV, fOrV, fNotV, fIf, fNoPart, fPart, fSl, fStp, fYes, startE, getC, sh, ow, okb_v, okb_b, Res.d_v, Res.d_b, flat, noB, dsOf, at1, at2, onOwn, isOwn, mAppend, ioC, defK, oGt, oLt, oGe, oLe, oSub, oAdd, oMulA, oMul, oDiv, oMod, oPow, oIx, oEq, oNe, oIsN, oNotN, oIsB, oNotB, oIn, oNotIn, oLst, oTup, oLen, oList, oTuple, oAbs, oToInt, oMax2, oMin2, oMax, oMin, oAll, oAny, oSorted, oIsi, oNeg, oSl, oStp, dInt0, dInt, dAdd, dMulA, dIx, dEq, dIsB, dNotB, dLen, dList, dTuple, dAbs, dToInt, dNeg, dSl, dStp, dB, atInt, dI, pick, pickI, pickC, ix, toEnv, gN, gT, gsNil, gsCons, setRes, fCall, fCallK, mkArgs, distinct, ioIx, putIos, permD, fLc, fSeqI, fRange1, fRange2, fEnum, fZip, overSeq, overEnum, overZip, away, wipeE, back, forGo, fFor, List.length_cons, List.length_nil, List.getElem?_cons_zero, List.getElem?_cons_succ, List.getElem?_nil, List.set_cons_zero, List.set_cons_succ, List.set_nil, List.map_cons, List.map_nil, List.cons_append, List.nil_append, List.replicate, List.getD_cons_zero, List.getD_cons_succ, List.getD_nil, List.any_cons, List.any_nil, true_and, and_true, Bool.false_eq_true, if_true, if_false, ite_true, ite_false, Nat.le_refl, Bool.or_false, Bool.false_or, Bool.or_true, Bool.true_or, Bool.not_true, Bool.not_false, Bool.and_true, Bool.true_and, Bool.and_self, ixN, Option.some.injEq, exists_eq_left, exists_eq_left', Int.reduceToNat, Int.reduceLE, Int.reduceLT, Int.reduceNeg, Int.reduceAdd, Int.reduceSub, Nat.reduceAdd, Nat.reduceLeDiff, reduceIte, reduceCtorEq, decide_true, decide_false, Nat.reduceSub, Int.reducePow, Int.reduceMul, Int.natCast_add, Int.cast_ofNat_Int, Int.natCast_zero, List.contains_nil, List.contains_cons, Nat.reduceBEq, Nat.reduceEqDiff, refr, ap1_eq, ap2_eq, apN_eq, ovr_eq, ovr2_eq, unpk_t, unpk_l, oSlA, oStpA, apP_eq, apF_eq, apL_eq, isScr_map]
  · exact ⟨by decide, hR⟩
  · exact ⟨by decide, hR⟩
-- CALLS
-- CALL call_turned_channel d |
theorem call_turned_channel {d : D} {ws : List Int} {R : Cell → List Cell → Prop} (hd : Ints d ws) (q : R (sh (.tuple (ws.reverse.map .int))) []) : ph_turned_channel [sh d] R := ⟨d, ws, rfl, hd, q⟩

def b_turned_lot : FS := (fRet (fOpN (at1 oTuple) (fCons (fStp (fLc [2] (fSeqI (fVar 1)) (gN 2) fYes (fOp2 oSub (fOp2 oSub (fOpN (at1 oLen) (fCons (fVar 0) fNil)) (fC (.int 1))) (fVar 2))) (fPart (fOp1 oNeg (fC (.int 1))))) fNil)))

def ph_turned_lot : Phi := fun args R => ∃ (d e : D) (ws lot : List Int), args = [sh d, sh e] ∧ Ints d ws ∧ Ints e lot ∧ lot.length ≤ 2 ^ 20 ∧ R (sh (.tuple ((turnI ws.length lot).map .int))) []
theorem vc_turned_lot (args R) (h : ph_turned_lot args R) : b_turned_lot (startE 3 args) (defK [false, false] R) := by
  obtain ⟨d, e, ws, lot, rfl, hd, he, hlen, hR⟩ := h
  have hz : (2 : Nat) ^ 20 < sizeLine := by decide
  have key : (lot.filterMap fun p => some (PyData.int ((ws.length : Int) - 1 - p))).reverse = (turnI ws.length lot).map .int := by
    unfold turnI
    rw [List.map_reverse, List.map_map, List.filterMap_eq_map']
    rfl
  rcases hd with rfl | rfl <;> rcases he with rfl | rfl
  all_goals
    simp only [b_turned_lot]
    simp only [fSeq, fIfS, fTst, fOp1, fOp2, fOpN, fVar, fFz, fMv, fC, fAsg, fAsgO, fSetIx, fRet, fRetN, fNext, fDrop, fMth, fAug, fUnp, fPar, fNil, fCons, fBreak, fAnd, fOr, fNot, fAndV, fOrV, fNotV, fIf, fNoPart, fPart, fSl, fStp, fYes, startE, getC, sh, ow, okb_v, okb_b, Res.d_v, Res.d_b, flat, noB, dsOf, at1, at2, onOwn, isOwn, mAppend, ioC, defK, oGt, oLt, oGe, oLe, oSub, oAdd, oMulA, oMul, oDiv, oMod, oPow, oIx, oEq, oNe, oIsN, oNotN, oIsB, oNotB, oIn, oNotIn, oLst, oTup, oLen, oList, oTuple, oAbs, oToInt, oMax2, oMin2, oMax, oMin, oAll, oAny, oSorted, oIsi, oNeg, oSl, oStp, dInt0, dInt, dAdd, dMulA, dIx, dEq, dIsB, dNotB, dLen, dList, dTuple, dAbs, dToInt, dNeg, dSl, dStp, dB, atInt, dI, pick, pickI, pickC, ix, toEnv, gN, gT, gsNil, gsCons, setRes, fCall, fCallK, mkArgs, distinct, ioIx, putIos, permD, fLc, fSeqI, fRange1, fRange2, fEnum, fZip, overSeq, overEnum, overZip, away, wipeE, back, forGo, fFor, List.length_cons, List.length_nil, List.getElem?_cons_zero, List.getElem?_cons_succ, List.getElem?_nil, List.set_cons_zero, List.set_cons_succ, List.set_nil, List.map_cons, List.map_nil, List.cons_append, List.nil_append, List.replicate, List.getD_cons_zero, List.getD_cons_succ, List.getD_nil, List.any_cons, List.any_nil, true_and, and_true, Bool.false_eq_true, if_true, if_false, ite_true, ite_false, Nat.le_refl, Bool.or_false, Bool.false_or, Bool.or_true, Bool.true_or, Bool.not_true, Bool.not_false, Bool.and_true, Bool.true_and, Bool.and_self, ixN, Option.some.injEq, exists_eq_left, exists_eq_left', Int.reduceToNat, Int.reduceLE, Int.reduceLT, Int.reduceNeg, Int.reduceAdd, Int.reduceSub, Nat.reduceAdd, Nat.reduceLeDiff, reduceIte, reduceCtorEq, decide_true, decide_false, Nat.reduceSub, Int.reducePow, Int.reduceMul, Int.natCast_add, Int.cast_ofNat_Int, Int.natCast_zero, List.contains_nil, List.contains_cons, Nat.reduceBEq, Nat.reduceEqDiff, refr, ap1_eq, ap2_eq, apN_eq, ovr_eq, ovr2_eq, unpk_t, unpk_l, oSlA, oStpA, apP_eq, apF_eq, apL_eq, isScr_map]
    refine lc_map PyData.int (fun p => some (PyData.int ((ws.length : Int) - 1 - p))) (fun p acc N hp hl hN => ?_) trivial ?_ (by omega)
    · simp only [fSeq, fIfS, fTst, fOp1, fOp2, fOpN, fVar, fFz, fMv, fC, fAsg, fAsgO, fSetIx, fRet, fRetN, fNext, fDrop, fMth, fAug, fUnp, fPar, fNil, fCons, fBreak, fAnd, fOr, fNot, fAndV, fOrV, fNotV, fIf, fNoPart, fPart, fSl, fStp, fYes, startE, getC, sh, ow, okb_v, okb_b, Res.d_v, Res.d_b, flat, noB, dsOf, at1, at2, onOwn, isOwn, mAppend, ioC, defK, oGt, oLt, oGe, oLe, oSub, oAdd, oMulA, oMul, oDiv, oMod, oPow, oIx, oEq, oNe, oIsN, oNotN, oIsB, oNotB, oIn, oNotIn, oLst, oTup, oLen, oList, oTuple, oAbs, oToInt, oMax2, oMin2, oMax, oMin, oAll, oAny, oSorted, oIsi, oNeg, oSl, oStp, dInt0, dInt, dAdd, dMulA, dIx, dEq, dIsB, dNotB, dLen, dList, dTuple, dAbs, dToInt, dNeg, dSl, dStp, dB, atInt, dI, pick, pickI, pickC, ix, toEnv, gN, gT, gsNil, gsCons, setRes, fCall, fCallK, mkArgs, distinct, ioIx, putIos, permD, fLc, fSeqI, fRange1, fRange2, fEnum, fZip, overSeq, overEnum, overZip, away, wipeE, back, forGo, fFor, List.length_cons, List.length_nil, List.getElem?_cons_zero, List.getElem?_cons_succ, List.getElem?_nil, List.set_cons_zero, List.set_cons_succ, List.set_nil, List.map_cons, List.map_nil, List.cons_append, List.nil_append, List.replicate, List.getD_cons_zero, List.getD_cons_succ, List.getD_nil, List.any_cons, List.any_nil, true_and, and_true, Bool.false_eq_true, if_true, if_false, ite_true, ite_false, Nat.le_refl, Bool.or_false, Bool.false_or, Bool.or_true, Bool.true_or, Bool.not_true, Bool.not_false, Bool.and_true, Bool.true_and, Bool.and_self, ixN, Option.some.injEq, exists_eq_left, exists_eq_left', Int.reduceToNat, Int.reduceLE, Int.reduceLT, Int.reduceNeg, Int.reduceAdd, Int.reduceSub, Nat.reduceAdd, Nat.reduceLeDiff, reduceIte, reduceCtorEq, decide_true, decide_false, Nat.reduceSub, Int.reducePow, Int.reduceMul, Int.natCast_add, Int.cast_ofNat_Int, Int.natCast_zero, List.contains_nil, List.contains_cons, Nat.reduceBEq, Nat.reduceEqDiff, refr, ap1_eq, ap2_eq, apN_eq, ovr_eq, ovr2_eq, unpk_t, unpk_l, oSlA, oStpA, apP_eq, apF_eq, apL_eq, isScr_map, List.length_map]
      exact ⟨hl, hN⟩
    · simp only [fSeq, fIfS, fTst, fOp1, fOp2, fOpN, fVar, fFz, fMv, fC, fAsg, fAsgO, fSetIx, fRet, fRetN, fNext, fDrop, fMth, fAug, fUnp, fPar, fNil, fCons, fBreak, fAnd, fOr, fNot, fAndV, fOrV, fNotV, fIf, fNoPart, fPart, fSl, fStp, fYes, startE, getC, sh, ow, okb_v, okb_b, Res.d_v, Res.d_b, flat, noB, dsOf, at1, at2, onOwn, isOwn, mAppend, ioC, defK, oGt, oLt, oGe, oLe, oSub, oAdd, oMulA, oMul, oDiv, oMod, oPow, oIx, oEq, oNe, oIsN, oNotN, oIsB, oNotB, oIn, oNotIn, oLst, oTup, oLen, oList, oTuple, oAbs, oToInt, oMax2, oMin2, oMax, oMin, oAll, oAny, oSorted, oIsi, oNeg, oSl, oStp, dInt0, dInt, dAdd, dMulA, dIx, dEq, dIsB, dNotB, dLen, dList, dTuple, dAbs, dToInt, dNeg, dSl, dStp, dB, atInt, dI, pick, pickI, pickC, ix, toEnv, gN, gT, gsNil, gsCons, setRes, fCall, fCallK, mkArgs, distinct, ioIx, putIos, permD, fLc, fSeqI, fRange1, fRange2, fEnum, fZip, overSeq, overEnum, overZip, away, wipeE, back, forGo, fFor, List.length_cons, List.length_nil, List.getElem?_cons_zero, List.getElem?_cons_succ, List.getElem?_nil, List.set_cons_zero, List.set_cons_succ, List.set_nil, List.map_cons, List.map_nil, List.cons_append, List.nil_append, List.replicate, List.getD_cons_zero, List.getD_cons_succ, List.getD_nil, List.any_cons, List.any_nil, true_and, and_true, Bool.false_eq_true, if_true, if_false, ite_true, ite_false, Nat.le_refl, Bool.or_false, Bool.false_or, Bool.or_true, Bool.true_or, Bool.not_true, Bool.not_false, Bool.and_true, Bool.true_and, Bool.and_self, ixN, Option.some.injEq, exists_eq_left, exists_eq_left', Int.reduceToNat, Int.reduceLE, Int.reduceLT, Int.reduceNeg, Int.reduceAdd, Int.reduceSub, Nat.reduceAdd, Nat.reduceLeDiff, reduceIte, reduceCtorEq, decide_true, decide_false, Nat.reduceSub, Int.reducePow, Int.reduceMul, Int.natCast_add, Int.cast_ofNat_Int, Int.natCast_zero, List.contains_nil, List.contains_cons, Nat.reduceBEq, Nat.reduceEqDiff, refr, ap1_eq, ap2_eq, apN_eq, ovr_eq, ovr2_eq, unpk_t, unpk_l, oSlA, oStpA, apP_eq, apF_eq, apL_eq, isScr_map]
      refine ⟨by decide, ?_⟩
      rw [key]
      exact hR

def b_turned : FS := (fSeq (fUnp (gT 3 (gsCons (gN 2) (gsCons (gN 3) (gsCons (gN 4) gsNil)))) (fVar 1)) (fRet (fOpN oTup (fCons (fVar 4) (fCons (fCall [false, false] ph_turned_lot (fCons (fVar 0) (fCons (fVar 3) fNil))) (fCons (fVar 2) fNil))))))

def ph_turned : Phi := fun args R => ∃ (d e : D) (ws : List Int) (l : Int) (lot : List Int) (r : Int), args = [sh d, sh e] ∧ Ints d ws ∧ Std e l lot r ∧ lot.length ≤ 2 ^ 20 ∧ R (sh (std r (turnI ws.length lot) l)) []
theorem vc_turned (args R) (h : ph_turned args R) : b_turned (startE 5 args) (defK [false, false] R) := by
  obtain ⟨d, e, ws, l, lot, r, rfl, hd, ⟨dl, hl, he⟩, hlen, hR⟩ := h
  rcases he with rfl | rfl
  all_goals
    simp only [b_turned]
    simp only [fSeq, fIfS, fTst, fOp1, fOp2, fOpN, fVar, fFz, fMv, fC, fAsg, fAsgO, fSetIx, fRet, fRetN, fNext, fDrop, fMth, fAug, fUnp, fPar, fNil, fCons, fBreak, fAnd, fOr, fNot, fAndV, fOrV, fNotV, fIf, fNoPart, fPart, fSl, fStp, fYes, startE, getC, sh, ow, okb_v, okb_b, Res.d_v, Res.d_b, flat, noB, dsOf, at1, at2, onOwn, isOwn, mAppend, ioC, defK, oGt, oLt, oGe, oLe, oSub, oAdd, oMulA, oMul, oDiv, oMod, oPow, oIx, oEq, oNe, oIsN, oNotN, oIsB, oNotB, oIn, oNotIn, oLst, oTup, oLen, oList, oTuple, oAbs, oToInt, oMax2, oMin2, oMax, oMin, oAll, oAny, oSorted, oIsi, oNeg, oSl, oStp, dInt0, dInt, dAdd, dMulA, dIx, dEq, dIsB, dNotB, dLen, dList, dTuple, dAbs, dToInt, dNeg, dSl, dStp, dB, atInt, dI, pick, pickI, pickC, ix, toEnv, gN, gT, gsNil, gsCons, setRes, fCall, fCallK, mkArgs, distinct, ioIx, putIos, permD, fLc, fSeqI, fRange1, fRange2, fEnum, fZip, overSeq, overEnum, overZip, away, wipeE, back, forGo, fFor, List.length_cons, List.length_nil, List.getElem?_cons_zero, List.getElem?_cons_succ, List.getElem?_nil, List.set_cons_zero, List.set_cons_succ, List.set_nil, List.map_cons, List.map_nil, List.cons_append, List.nil_append, List.replicate, List.getD_cons_zero, List.getD_cons_succ, List.getD_nil, List.any_cons, List.any_nil, true_and, and_true, Bool.false_eq_true, if_true, if_false, ite_true, ite_false, Nat.le_refl, Bool.or_false, Bool.false_or, Bool.or_true, Bool.true_or, Bool.not_true, Bool.not_false, Bool.and_true, Bool.true_and, Bool.and_self, ixN, Option.some.injEq, exists_eq_left, exists_eq_left', Int.reduceToNat, Int.reduceLE, Int.reduceLT, Int.reduceNeg, Int.reduceAdd, Int.reduceSub, Nat.reduceAdd, Nat.reduceLeDiff, reduceIte, reduceCtorEq, decide_true, decide_false, Nat.reduceSub, Int.reducePow, Int.reduceMul, Int.natCast_add, Int.cast_ofNat_Int, Int.natCast_zero, List.contains_nil, List.contains_cons, Nat.reduceBEq, Nat.reduceEqDiff, refr, ap1_eq, ap2_eq, apN_eq, ovr_eq, ovr2_eq, unpk_t, unpk_l, oSlA, oStpA, apP_eq, apF_eq, apL_eq, isScr_map]
    refine ⟨_, _, ws, lot, rfl, hd, hl, hlen, ?_⟩
    simp only [fSeq, fIfS, fTst, fOp1, fOp2, fOpN, fVar, fFz, fMv, fC, fAsg, fAsgO, fSetIx, fRet, fRetN, fNext, fDrop, fMth, fAug, fUnp, fPar, fNil, fCons, fBreak, fAnd, fOr, fNot, fAndV, fOrV, fNotV, fIf, fNoPart, fPart, fSl, fStp, fYes, startE, getC, sh, ow, okb_v, okb_b, Res.d_v, Res.d_b, flat, noB, dsOf, at1, at2, onOwn, isOwn, mAppend, ioC, defK, oGt, oLt, oGe, oLe, oSub, oAdd, oMulA, oMul, oDiv, oMod, oPow, oIx, oEq, oNe, oIsN, oNotN, oIsB, oNotB, oIn, oNotIn, oLst, oTup, oLen, oList, oTuple, oAbs, oToInt, oMax2, oMin2, oMax, oMin, oAll, oAny, oSorted, oIsi, oNeg, oSl, oStp, dInt0, dInt, dAdd, dMulA, dIx, dEq, dIsB, dNotB, dLen, dList, dTuple, dAbs, dToInt, dNeg, dSl, dStp, dB, atInt, dI, pick, pickI, pickC, ix, toEnv, gN, gT, gsNil, gsCons, setRes, fCall, fCallK, mkArgs, distinct, ioIx, putIos, permD, fLc, fSeqI, fRange1, fRange2, fEnum, fZip, overSeq, overEnum, overZip, away, wipeE, back, forGo, fFor, List.length_cons, List.length_nil, List.getElem?_cons_zero, List.getElem?_cons_succ, List.getElem?_nil, List.set_cons_zero, List.set_cons_succ, List.set_nil, List.map_cons, List.map_nil, List.cons_append, List.nil_append, List.replicate, List.getD_cons_zero, List.getD_cons_succ, List.getD_nil, List.any_cons, List.any_nil, true_and, and_true, Bool.false_eq_true, if_true, if_false, ite_true, ite_false, Nat.le_refl, Bool.or_false, Bool.false_or, Bool.or_true, Bool.true_or, Bool.not_true, Bool.not_false, Bool.and_true, Bool.true_and, Bool.and_self, ixN, Option.some.injEq, exists_eq_left, exists_eq_left', Int.reduceToNat, Int.reduceLE, Int.reduceLT, Int.reduceNeg, Int.reduceAdd, Int.reduceSub, Nat.reduceAdd, Nat.reduceLeDiff, reduceIte, reduceCtorEq, decide_true, decide_false, Nat.reduceSub, Int.reducePow, Int.reduceMul, Int.natCast_add, Int.cast_ofNat_Int, Int.natCast_zero, List.contains_nil, List.contains_cons, Nat.reduceBEq, Nat.reduceEqDiff, refr, ap1_eq, ap2_eq, apN_eq, ovr_eq, ovr2_eq, unpk_t, unpk_l, oSlA, oStpA, apP_eq, apF_eq, apL_eq, isScr_map]
    exact ⟨by decide, hR⟩
-- CALLS
-- CALL call_turned ddh |
def turnS (n : Nat) (x : Tr) : Tr := (x.2.2, turnI n x.2.1, x.1)
theorem call_turned {d e : D} {ws : List Int} {x : Tr} {R : Cell → List Cell → Prop} (hd : Ints d ws) (he : StdS e x) (h : Hold (x.2.1.length ≤ 2 ^ 20)) (q : R (sh (dS (turnS ws.length x))) []) : ph_turned [sh d, sh e] R := ⟨d, e, ws, x.1, x.2.1, x.2.2, rfl, hd, he, h.out, q⟩

local macro_rules | `(tactic| row_room_at pv_call_is_number) => `(tactic| (refine apP_op (call_is_number  ?_)))
local macro_rules | `(tactic| row_room_at pv_call_is_side) => `(tactic| (refine apP_op (call_is_side  ?_)))
local macro_rules | `(tactic| row_room_at pv_st_is_tilt) => `(tactic| ((try ((with_reducible show toEnv _ _); (first | refine toEnv_go rfl ?_ | refine toEnv_gT rfl rfl ?_); row_room_at pv_cl)); (try (conv => whnf)); first | ((with_reducible show _ ∧ _); row_room_at pv_and) | ((with_reducible show ap2 _ _ _ _); row_room_at pv_op2) | ((with_reducible show apN _ _ _); row_room_at pv_opN) | ((with_reducible show ap1 _ _ _); row_room_at pv_op1) | ((with_reducible show ovr _ _); row_room_at pv_ov) | ((with_reducible show ovr2 _ _ _); row_room_at pv_ov2) | ((with_reducible show apP _ _ _); row_room_at pv_cl; first | row_room_at pv_call_is_number | row_room_at pv_call_is_side) | ((with_reducible show apP _ _ _); row_room_at pv_cl; (first | (rw [sd_l]; first | row_room_at pv_call_is_number | row_room_at pv_call_is_side) | (rw [sd_r]; first | row_room_at pv_call_is_number | row_room_at pv_call_is_side))) | row_room_at pv_late))
local macro_rules | `(tactic| row_room_at pv_go_is_tilt) => `(tactic| (repeat' row_room_at pv_st_is_tilt))
local macro_rules | `(tactic| row_room_at pv_gox_is_tilt) => `(tactic| (repeat' ((try ((with_reducible show toEnv _ _); (first | refine toEnv_go rfl ?_ | refine toEnv_gT rfl rfl ?_); row_room_at pv_cl)); (try (conv => whnf)); first | ((with_reducible show _ ∧ _); row_room_at pv_and) | ((with_reducible show ap2 _ _ _ _); row_room_at pv_op2) | ((with_reducible show apN _ _ _); row_room_at pv_opN) | ((with_reducible show ap1 _ _ _); row_room_at pv_op1) | ((with_reducible show ovr _ _); row_room_at pv_ov) | ((with_reducible show ovr2 _ _ _); row_room_at pv_ov2) | ((with_reducible show apP _ _ _); row_room_at pv_cl; first | row_room_at pv_call_is_number | row_room_at pv_call_is_side) | ((with_reducible show apP _ _ _); row_room_at pv_cl; (first | (rw [sd_l]; first | row_room_at pv_call_is_number | row_room_at pv_call_is_side) | (rw [sd_r]; first | row_room_at pv_call_is_number | row_room_at pv_call_is_side))) | row_room_at pv_latex)))
local macro_rules | `(tactic| row_room_at pv_gou_is_tilt) => `(tactic| (repeat' (first | (with_reducible refine apF_op ?_) | (with_reducible refine apL_op ?_) | row_room_at pv_st_is_tilt)))

def b_is_tilt : FS := (fSeq (fIfS (fOr (fNot (fTst (fOp1 (oIsi ["tuple"]) (fVar 0)))) (fTst (fOp2 oNe (fOpN (at1 oLen) (fCons (fVar 0) fNil)) (fC (.int 2))))) (fRet (fC (.bool false))) fNext) (fRet (fAndV (fCall [false] ph_is_side (fCons (fOp2 oIx (fVar 0) (fC (.int 0))) fNil)) (fAndV (fCall [false] ph_is_number (fCons (fOp2 oIx (fVar 0) (fC (.int 1))) fNil)) (fOp2 oGt (fOp2 oIx (fVar 0) (fC (.int 1))) (fC (.int 0)))))))

@[irreducible] def ph_is_tilt : Phi := fun args R => ∃ (b : Bool) (s : Int), args = [sh (.tuple [.str (sideS b), .int s])] ∧ R (sh (.bool (decide (0 < s)))) []
theorem call_is_tilt {b : Bool}{s : Int} {R : Cell → List Cell → Prop}  (q : R (sh (.bool (decide (0 < s)))) []) : ph_is_tilt [sh (.tuple [.str (sideS b), .int s])] R := by
  unfold ph_is_tilt
  exact ⟨b, s, rfl, q⟩
theorem vc_is_tilt (args R) (h : ph_is_tilt args R) : b_is_tilt (startE 1 args) (defK [false] R) := by
  unfold ph_is_tilt at h
  obtain ⟨b, s, rfl, hR⟩ := h
  (row_room_at pv_go_is_tilt; row_room_at pv_end)

local macro_rules | `(tactic| row_room_at pv_call_is_tilt) => `(tactic| (refine apP_op (call_is_tilt  ?_)))
local macro_rules | `(tactic| row_room_at pv_st_is_row) => `(tactic| ((try ((with_reducible show toEnv _ _); (first | refine toEnv_go rfl ?_ | refine toEnv_gT rfl rfl ?_); row_room_at pv_cl)); (try (conv => whnf)); first | ((with_reducible show _ ∧ _); row_room_at pv_and) | ((with_reducible show ap2 _ _ _ _); row_room_at pv_op2) | ((with_reducible show apN _ _ _); row_room_at pv_opN) | ((with_reducible show ap1 _ _ _); row_room_at pv_op1) | ((with_reducible show ovr _ _); row_room_at pv_ov) | ((with_reducible show ovr2 _ _ _); row_room_at pv_ov2) | ((with_reducible show apP _ _ _); row_room_at pv_cl; first | row_room_at pv_call_is_tilt) | ((with_reducible show apP _ _ _); row_room_at pv_cl; (first | (rw [sd_l]; first | row_room_at pv_call_is_tilt) | (rw [sd_r]; first | row_room_at pv_call_is_tilt))) | row_room_at pv_late))
local macro_rules | `(tactic| row_room_at pv_go_is_row) => `(tactic| (repeat' row_room_at pv_st_is_row))
local macro_rules | `(tactic| row_room_at pv_gox_is_row) => `(tactic| (repeat' ((try ((with_reducible show toEnv _ _); (first | refine toEnv_go rfl ?_ | refine toEnv_gT rfl rfl ?_); row_room_at pv_cl)); (try (conv => whnf)); first | ((with_reducible show _ ∧ _); row_room_at pv_and) | ((with_reducible show ap2 _ _ _ _); row_room_at pv_op2) | ((with_reducible show apN _ _ _); row_room_at pv_opN) | ((with_reducible show ap1 _ _ _); row_room_at pv_op1) | ((with_reducible show ovr _ _); row_room_at pv_ov) | ((with_reducible show ovr2 _ _ _); row_room_at pv_ov2) | ((with_reducible show apP _ _ _); row_room_at pv_cl; first | row_room_at pv_call_is_tilt) | ((with_reducible show apP _ _ _); row_room_at pv_cl; (first | (rw [sd_l]; first | row_room_at pv_call_is_tilt) | (rw [sd_r]; first | row_room_at pv_call_is_tilt))) | row_room_at pv_latex)))
local macro_rules | `(tactic| row_room_at pv_gou_is_row) => `(tactic| (repeat' (first | (with_reducible refine apF_op ?_) | (with_reducible refine apL_op ?_) | row_room_at pv_st_is_row)))

def b_is_row : FS := (fRet (fAndV (fOp1 (oIsi ["list"]) (fVar 0)) (fOpN (at1 oAll) (fCons (fLc [1] (fSeqI (fVar 0)) (gN 1) fYes (fCall [false] ph_is_tilt (fCons (fVar 1) fNil))) fNil))))

@[irreducible] def ph_is_row : Phi := fun args R => ∃ (row : List (Bool × Int)), args = [sh (.list (row.map (prW false)))] ∧ (row.length ≤ 1000) ∧ R (sh (.bool (row.all fun p => decide (0 < p.2)))) []
theorem call_is_row {row : List (Bool × Int)} {R : Cell → List Cell → Prop} (hl : Hold (row.length ≤ 1000)) (q : R (sh (.bool (row.all fun p => decide (0 < p.2)))) []) : ph_is_row [sh (.list (row.map (prW false)))] R := by
  unfold ph_is_row
  exact ⟨row, rfl, hl.out, q⟩
theorem vc_is_row (args R) (h : ph_is_row args R) : b_is_row (startE 2 args) (defK [false] R) := by
  unfold ph_is_row at h
  obtain ⟨row, rfl, hl, hR⟩ := h
  (row_room_at pv_go_is_row; row_room_at pv_end)
  refine lc_mp (prW false) (fun p => PyData.bool (decide (0 < p.2))) (fun p acc N hq hl2 hN => ?_) trivial (.mk (Nat.le_trans hl (by decide))) ?_
  · obtain ⟨b, s⟩ := p
    (row_room_at pv_go_is_row; row_room_at pv_end)
  rw [show row.map (fun p => PyData.bool (decide (0 < p.2))) = (row.map fun p => decide (0 < p.2)).map PyData.bool by rw [List.map_map]; rfl]
  rw [show (row.all fun p => decide (0 < p.2)) = (row.map fun p => decide (0 < p.2)).all (fun x => x) by rw [List.all_map]; rfl] at hR
  generalize (row.map fun p => decide (0 < p.2)) = B at hR ⊢
  (row_room_at pv_go_is_row; row_room_at pv_end)

def b_to_the_right : FS := (fSeq (fUnp (gT 3 (gsCons (gN 3) (gsCons (gN 4) (gsCons (gN 5) gsNil)))) (fVar 1)) (fSeq (fAsgO 6 (fOpN oLst fNil)) (fSeq (fFor (fEnum (fCons (fVar 0) fNil)) (gT 2 (gsCons (gN 7) (gsCons (gN 8) gsNil))) (fIfS (fTst (fOp2 oLt (fVar 8) (fVar 2))) (fAug 3 (fun a b => a + b) (fOpN (at1 oToInt) (fCons (fOp2 oIn (fVar 7) (fVar 4)) fNil))) (fIfS (fTst (fOp2 oIn (fVar 7) (fVar 4))) (fDrop (fMth 6 mAppend (fCons (fVar 7) fNil))) (fIfS (fTst (fOp2 oGt (fVar 3) (fC (.int 0)))) (fSeq (fDrop (fMth 6 mAppend (fCons (fVar 7) fNil))) (fAug 3 (fun a b => a - b) (fC (.int 1)))) fNext)))) (fRet (fOpN oTup (fCons (fOpN oTup (fCons (fC (.int 0)) (fCons (fOpN (at1 oTuple) (fCons (fVar 6) fNil)) (fCons (fOp2 oAdd (fVar 5) (fVar 3)) fNil)))) (fCons (fVar 3) fNil)))))))

def ph_to_the_right : Phi := fun args R => ∃ (d e : D) (ws : List Int) (l : Int) (lot : List Int) (r s : Int), args = [sh d, sh e, sh (.int s)] ∧ Ints d ws ∧ Std e l lot r ∧ ws.length ≤ 2 ^ 20 ∧
  R (sh (.tuple [std (toR ws l lot r s).1.1 (toR ws l lot r s).1.2.1 (toR ws l lot r s).1.2.2, .int (toR ws l lot r s).2])) []
def ttrInv (ws : List Int) (l : Int) (lot : List Int) (r s : Int) (c0 c1 c4 : Cell) (xs : List (Nat × Int)) (e : Pv.Env) : Prop := ∃ (rem : List Int) (p : Nat) (acc : List Int) (ro : Int) (o7 o8 : Option Cell), xs = enumI p rem ∧ acc.length + rem.length ≤ 2 ^ 20 ∧
  (acc ++ (roll s lot rem p ro).1 = (roll s lot ws 0 l).1 ∧ (roll s lot rem p ro).2 = (roll s lot ws 0 l).2) ∧
  e = [some c0, some c1, some (sh (.int s)), some (sh (.int ro)), some c4, some (sh (.int r)), some (ow (.list (acc.map .int))), o7, o8]
theorem ttr_step {ws : List Int} {l : Int} {lot : List Int} {r s : Int} {c0 c1 c4 : Cell} (h4 : c4 = sh (.list (lot.map .int)) ∨ c4 = sh (.tuple (lot.map .int))) {k : Kt} (x : Nat × Int) (xs : List (Nat × Int)) (e : Pv.Env) (N : Pv.Env → Prop)
    (hI : ttrInv ws l lot r s c0 c1 c4 (x :: xs) e) (hN : ∀ e', ttrInv ws l lot r s c0 c1 c4 xs e' → N e') :
    toEnv (fun e1 => (fIfS (fTst (fOp2 oLt (fVar 8) (fVar 2))) (fAug 3 (fun a b => a + b) (fOpN (at1 oToInt) (fCons (fOp2 oIn (fVar 7) (fVar 4)) fNil))) (fIfS (fTst (fOp2 oIn (fVar 7) (fVar 4))) (fDrop (fMth 6 mAppend (fCons (fVar 7) fNil))) (fIfS (fTst (fOp2 oGt (fVar 3) (fC (.int 0)))) (fSeq (fDrop (fMth 6 mAppend (fCons (fVar 7) fNil))) (fAug 3 (fun a b => a - b) (fC (.int 1)))) fNext))) e1 { k with nx := N, ct := N, bk := k.nx }) ((gT 2 (gsCons (gN 7) (gsCons (gN 8) gsNil))) (prII x) e) := by
  have hz : (2 : Nat) ^ 20 < sizeLine := by decide
  obtain ⟨rem, p, acc, ro, o7, o8, ex, hl, ⟨h1, h2⟩, rfl⟩ := hI
  match rem, ex with
  | w :: rem, ex =>
    obtain ⟨rfl, rfl⟩ := List.cons.inj ex
    rw [List.length_cons] at hl
    have hlm : (acc.map PyData.int).length = acc.length := List.length_map _
    have hp1 : ((p + 1 : Nat) : Int) = (p : Int) + 1 := by omega
    rw [roll] at h1 h2
    (row_room_at pv_ev; row_room_at pv_cl)
    split
    · rename_i hb
      have hw : w < s := of_decide_eq_true hb
      simp only [hw, if_true] at h1 h2
      have key : ∀ b, (b = decide ((p : Int) ∈ lot)) → N [some c0, some c1, some (sh (.int s)), some (sh (.int (ro + if b = true then 1 else 0))), some c4, some (sh (.int r)), some (ow (.list (acc.map .int))), some (sh (.int (p : Int))), some (sh (.int w))] := fun b hb => by
        subst hb
        refine hN _ ⟨rem, p + 1, acc, _, _, _, rfl, by omega, ?_, rfl⟩
        rw [hp1]
        simp only [decide_eq_true_eq]
        exact ⟨h1, h2⟩
      rcases h4 with rfl | rfl
      all_goals (row_room_at pv_ev; row_room_at pv_cl)
      · refine ⟨dep_shp (n := 0) rfl (by decide), shp_ints lot, ?_⟩
        (row_room_at pv_ev; row_room_at pv_cl)
        exact key _ (inD_ints p lot)
      · refine ⟨dep_shp (n := 0) rfl (by decide), shp_intsT lot, ?_⟩
        (row_room_at pv_ev; row_room_at pv_cl)
        exact key _ (inD_ints p lot)
    · rename_i hb
      have hw : ¬ w < s := of_decide_eq_false hb
      simp only [hw, if_false] at h1 h2
      have key : ∀ b, b = decide ((p : Int) ∈ lot) → (fIfS (fun env R => R b env) (fDrop (fMth 6 mAppend (fCons (fVar 7) fNil))) (fIfS (fTst (fOp2 oGt (fVar 3) (fC (.int 0)))) (fSeq (fDrop (fMth 6 mAppend (fCons (fVar 7) fNil))) (fAug 3 (fun a b => a - b) (fC (.int 1)))) fNext)) [some c0, some c1, some (sh (.int s)), some (sh (.int ro)), some c4, some (sh (.int r)), some (ow (.list (acc.map .int))), some (sh (.int (p : Int))), some (sh (.int w))] { k with nx := N, ct := N, bk := k.nx } := fun b hb => by
        subst hb
        by_cases hp : (p : Int) ∈ lot
        · rw [decide_eq_true hp]
          simp only [hp, if_true] at h1 h2
          (row_room_at pv_ev; row_room_at pv_cl)
          refine ⟨by show (acc.map PyData.int).length < sizeLine; omega, hN _ ⟨rem, p + 1, acc ++ [(p : Int)], ro, _, _, rfl, by rw [List.length_append, List.length_singleton]; omega, ?_, by rw [List.map_append]; rfl⟩⟩
          rw [hp1, List.append_assoc]
          exact ⟨h1, h2⟩
        · rw [decide_eq_false hp]
          simp only [hp, if_false] at h1 h2
          (row_room_at pv_ev; row_room_at pv_cl)
          split
          · rename_i hb
            have h0 : 0 < ro := of_decide_eq_true hb
            simp only [h0, if_true] at h1 h2
            (row_room_at pv_ev; row_room_at pv_cl)
            refine ⟨by show (acc.map PyData.int).length < sizeLine; omega, ?_⟩
            (row_room_at pv_ev; row_room_at pv_cl)
            refine hN _ ⟨rem, p + 1, acc ++ [(p : Int)], ro - 1, _, _, rfl, by rw [List.length_append, List.length_singleton]; omega, ?_, by rw [List.map_append]; rfl⟩
            rw [hp1, List.append_assoc]
            exact ⟨h1, h2⟩
          · rename_i hb
            have h0 : ¬ 0 < ro := of_decide_eq_false hb
            simp only [h0, if_false] at h1 h2
            refine hN _ ⟨rem, p + 1, acc, ro, _, _, rfl, by omega, ?_, rfl⟩
            rw [hp1]
            exact ⟨h1, h2⟩
      rcases h4 with rfl | rfl
      all_goals (row_room_at pv_ev; row_room_at pv_cl)
      · exact ⟨dep_shp (n := 0) rfl (by decide), shp_ints lot, key _ (inD_ints p lot)⟩
      · exact ⟨dep_shp (n := 0) rfl (by decide), shp_intsT lot, key _ (inD_ints p lot)⟩
theorem vc_to_the_right (args R) (h : ph_to_the_right args R) : b_to_the_right (startE 9 args) (defK [false, false, false] R) := by
  obtain ⟨d, e, ws, l, lot, r, s, rfl, hd, ⟨dl, hdl, he⟩, hlen, hR⟩ := h
  have h4 : sh dl = sh (.list (lot.map .int)) ∨ sh dl = sh (.tuple (lot.map .int)) := by rcases hdl with rfl | rfl <;> simp
  rcases hd with rfl | rfl <;> rcases he with rfl | rfl
  all_goals
    (row_room_at pv_ev; row_room_at pv_cl)
    rw [enumD_ints]
    refine for_inv prII (ttrInv ws l lot r s _ _ (sh dl)) (fun x xs e N hI hN => ttr_step h4 x xs e N hI hN) (fun e hI => ?_) _ _ ⟨ws, 0, [], l, _, _, rfl, by simpa using hlen, ⟨rfl, rfl⟩, rfl⟩
    obtain ⟨rem, p, acc, ro, o7, o8, ex, hl, ⟨h1, h2⟩, rfl⟩ := hI
    match rem, ex with
    | [], _ =>
      simp only [roll, List.append_nil] at h1 h2
      subst h1 h2
      (row_room_at pv_ev; row_room_at pv_cl)
      exact hR

def b_tilt_of : FS := (fSeq (fIfS (fTst (fOp2 oEq (fVar 2) (fC (.str "right")))) (fRet (fCall [false, false, false] ph_to_the_right (fCons (fVar 0) (fCons (fVar 1) (fCons (fVar 3) fNil))))) fNext) (fSeq (fUnp (gT 2 (gsCons (gN 4) (gsCons (gN 5) gsNil))) (fCall [false, false, false] ph_to_the_right (fCons (fCall [false] ph_turned_channel (fCons (fVar 0) fNil)) (fCons (fCall [false, false] ph_turned (fCons (fVar 0) (fCons (fVar 1) fNil))) (fCons (fVar 3) fNil))))) (fRet (fOpN oTup (fCons (fCall [false, false] ph_turned (fCons (fVar 0) (fCons (fVar 4) fNil))) (fCons (fVar 5) fNil))))))

/-- the names of the sides -/
def sideOf (z : Str) (b : Bool) : Prop := (z = "right" ∧ b = true) ∨ (z = "left" ∧ b = false)
def tiltD (ws : List Int) (l : Int) (lot : List Int) (r : Int) (b : Bool) (s : Int) : D := .tuple [std (tiltF ws l lot r b s).1.1 (tiltF ws l lot r b s).1.2.1 (tiltF ws l lot r b s).1.2.2, .int (tiltF ws l lot r b s).2]
def ph_tilt_of : Phi := fun args R => ∃ (d e : D) (ws : List Int) (l : Int) (lot : List Int) (r : Int) (z : Str) (b : Bool) (s : Int), args = [sh d, sh e, sh (.str z), sh (.int s)] ∧ Ints d ws ∧ Std e l lot r ∧ ws.length ≤ 2 ^ 20 ∧ lot.length ≤ 2 ^ 20 ∧ sideOf z b ∧
  R (sh (tiltD ws l lot r b s)) []
theorem vc_tilt_of (args R) (h : ph_tilt_of args R) : b_tilt_of (startE 6 args) (defK [false, false, false, false] R) := by
  obtain ⟨d, e, ws, l, lot, r, z, b, s, rfl, hd, he, hlen, hlot, hz, hR⟩ := h
  rcases hz with ⟨rfl, rfl⟩ | ⟨rfl, rfl⟩
  · (row_room_at pv_ev; row_room_at pv_cl)
    refine ⟨d, e, ws, l, lot, r, s, rfl, hd, he, hlen, hR⟩
  · (row_room_at pv_ev; row_room_at pv_cl)
    refine ⟨d, ws, rfl, hd, ?_⟩
    (row_room_at pv_ev; row_room_at pv_cl)
    refine ⟨d, e, ws, l, lot, r, rfl, hd, he, hlot, ?_⟩
    (row_room_at pv_ev; row_room_at pv_cl)
    refine ⟨_, _, ws.reverse, r, turnI ws.length lot, l, s, rfl, .of _, .of _ _ _, by rw [List.length_reverse]; exact hlen, ?_⟩
    (row_room_at pv_ev; row_room_at pv_cl)
    refine ⟨d, _, ws, _, _, _, rfl, hd, .of _ _ _, ?_, ?_⟩
    · have := roll_len s (turnI ws.length lot) ws.reverse 0 r
      rw [List.length_reverse] at this
      exact Nat.le_trans this hlen
    · (row_room_at pv_ev; row_room_at pv_cl)
      exact hR
-- CALLS
-- CALL call_tilt_of ddhh |
theorem call_tilt_of {d e : D} {ws : List Int} {x : Tr} {b : Bool} {s : Int} {R : Cell → List Cell → Prop} (hd : Ints d ws) (he : StdS e x) (h1 : Hold (ws.length ≤ 2 ^ 20)) (h2 : Hold (x.2.1.length ≤ 2 ^ 20)) (q : R (sh (.tuple [dS (tiltS ws b s x), .int (tiltF ws x.1 x.2.1 x.2.2 b s).2])) []) : ph_tilt_of [sh d, sh e, sh (.str (sideS b)), sh (.int s)] R :=
  ⟨d, e, ws, x.1, x.2.1, x.2.2, sideS b, b, s, rfl, hd, he, h1.out, h2.out, by cases b <;> simp [sideOf, sideS], q⟩

local macro_rules | `(tactic| row_room_at pv_call_tilt_of) => `(tactic| (refine apP_op (call_tilt_of (by row_room_at pv_sd) (by row_room_at pv_sd) ?_ ?_ ?_); (first | (focus row_room_at pv_hs) | rotate_left); (first | (focus row_room_at pv_hs) | rotate_left)))
local macro_rules | `(tactic| row_room_at pv_st_heard) => `(tactic| ((try ((with_reducible show toEnv _ _); (first | refine toEnv_go rfl ?_ | refine toEnv_gT rfl rfl ?_); row_room_at pv_cl)); (try (conv => whnf)); first | ((with_reducible show _ ∧ _); row_room_at pv_and) | ((with_reducible show ap2 _ _ _ _); row_room_at pv_op2) | ((with_reducible show apN _ _ _); row_room_at pv_opN) | ((with_reducible show ap1 _ _ _); row_room_at pv_op1) | ((with_reducible show ovr _ _); row_room_at pv_ov) | ((with_reducible show ovr2 _ _ _); row_room_at pv_ov2) | ((with_reducible show apP _ _ _); row_room_at pv_cl; first | row_room_at pv_call_tilt_of) | ((with_reducible show apP _ _ _); row_room_at pv_cl; (first | (rw [sd_l]; first | row_room_at pv_call_tilt_of) | (rw [sd_r]; first | row_room_at pv_call_tilt_of))) | row_room_at pv_late))
local macro_rules | `(tactic| row_room_at pv_go_heard) => `(tactic| (repeat' row_room_at pv_st_heard))
local macro_rules | `(tactic| row_room_at pv_gox_heard) => `(tactic| (repeat' ((try ((with_reducible show toEnv _ _); (first | refine toEnv_go rfl ?_ | refine toEnv_gT rfl rfl ?_); row_room_at pv_cl)); (try (conv => whnf)); first | ((with_reducible show _ ∧ _); row_room_at pv_and) | ((with_reducible show ap2 _ _ _ _); row_room_at pv_op2) | ((with_reducible show apN _ _ _); row_room_at pv_opN) | ((with_reducible show ap1 _ _ _); row_room_at pv_op1) | ((with_reducible show ovr _ _); row_room_at pv_ov) | ((with_reducible show ovr2 _ _ _); row_room_at pv_ov2) | ((with_reducible show apP _ _ _); row_room_at pv_cl; first | row_room_at pv_call_tilt_of) | ((with_reducible show apP _ _ _); row_room_at pv_cl; (first | (rw [sd_l]; first | row_room_at pv_call_tilt_of) | (rw [sd_r]; first | row_room_at pv_call_tilt_of))) | row_room_at pv_latex)))
local macro_rules | `(tactic| row_room_at pv_gou_heard) => `(tactic| (repeat' (first | (with_reducible refine apF_op ?_) | (with_reducible refine apL_op ?_) | row_room_at pv_st_heard)))

def b_heard : FS := (fSeq (fAsgO 3 (fOpN oLst fNil)) (fSeq (fFor (fSeqI (fVar 2)) (gT 2 (gsCons (gN 4) (gsCons (gN 5) gsNil))) (fSeq (fUnp (gT 2 (gsCons (gN 1) (gsCons (gN 6) gsNil))) (fCall [false, false, false, false] ph_tilt_of (fCons (fVar 0) (fCons (fVar 1) (fCons (fVar 4) (fCons (fVar 5) fNil)))))) (fDrop (fMth 3 mAppend (fCons (fVar 6) fNil))))) (fRet (fMv 3))))

@[irreducible] def ph_heard : Phi := fun args R => ∃ (d e rd : D) (ws : List Int) (x : Tr) (row : List (Bool × Int)), args = [sh d, sh e, sh rd] ∧ (Ints d ws) ∧ (StdS e x) ∧ (Row rd row) ∧ (ws.length ≤ 2 ^ 20) ∧ (x.2.1.length ≤ 2 ^ 20) ∧ (row.length ≤ 2 ^ 20) ∧ R (ow (.list ((heardS ws row x).map .int))) []
theorem call_heard {d e rd : D}{ws : List Int}{x : Tr}{row : List (Bool × Int)} {R : Cell → List Cell → Prop} (hd : Ints d ws) (he : StdS e x) (hr : Row rd row) (h1 : Hold (ws.length ≤ 2 ^ 20)) (h2 : Hold (x.2.1.length ≤ 2 ^ 20)) (h3 : Hold (row.length ≤ 2 ^ 20)) (q : R (ow (.list ((heardS ws row x).map .int))) []) : ph_heard [sh d, sh e, sh rd] R := by
  unfold ph_heard
  exact ⟨d, e, rd, ws, x, row, rfl, hd, he, hr, h1.out, h2.out, h3.out, q⟩
theorem vc_heard (args R) (h : ph_heard args R) : b_heard (startE 7 args) (defK [false, false, false] R) := by
  unfold ph_heard at h
  obtain ⟨d, e, rd, ws, x, row, rfl, hd, he, hr, h1, h2, h3, hR⟩ := h
  (row_room_at pv_go_heard; row_room_at pv_end)
  refine for_st (prW wr) (fun xs E e => ∃ (y : Tr) (f : D) (told : List Int) (o4 o5 o6 : Option Cell), StdS f y ∧ y.2.1.length ≤ 2 ^ 20 ∧ told ++ heardS ws xs y = heardS ws row x ∧ told.length + xs.length ≤ 2 ^ 20 ∧
    e = [some (sh d), some (sh f), some (sh rd), some (ow (.list (told.map .int))), o4, o5, o6]) ⟨x, _, [], _, _, _, he, h2, rfl, by rw [List.length_nil]; omega, rfl⟩ (fun p xs e N hI hN => ?_) (fun e hI => ?_)
  · obtain ⟨y, f, told, o4, o5, o6, e0, e1, e3, e4, rfl⟩ := hI
    rw [List.length_cons] at e4
    have hz : (told.map PyData.int).length ≤ 2 ^ 20 := by rw [List.length_map]; omega
    obtain ⟨b, s⟩ := p
    clear hR
    row_room_at pv_cl
    (row_room_at pv_go_heard; row_room_at pv_end)
    rw [show told.map PyData.int ++ [PyData.int (tiltF ws y.1 y.2.1 y.2.2 b s).2] = (told ++ [rolS ws b s y]).map .int by simp [rolS]]
    exact hN _ ⟨_, _, _, _, _, _, StdS.o _, Nat.le_trans (tiltS_len ws _ _ y) h1, by rw [List.append_assoc]; exact e3, by rw [List.length_append, List.length_singleton]; omega, rfl⟩
  · obtain ⟨y, f, told, o4, o5, o6, e0, e1, e3, e4, rfl⟩ := hI
    row_room_at pv_cl
    (row_room_at pv_go_heard; row_room_at pv_end)
    rw [heardS, List.append_nil] at e3
    rw [e3]
    exact .mk rfl

local macro_rules | `(tactic| row_room_at pv_st_ends) => `(tactic| ((try ((with_reducible show toEnv _ _); (first | refine toEnv_go rfl ?_ | refine toEnv_gT rfl rfl ?_); row_room_at pv_cl)); (try (conv => whnf)); first | ((with_reducible show _ ∧ _); row_room_at pv_and) | ((with_reducible show ap2 _ _ _ _); row_room_at pv_op2) | ((with_reducible show apN _ _ _); row_room_at pv_opN) | ((with_reducible show ap1 _ _ _); row_room_at pv_op1) | ((with_reducible show ovr _ _); row_room_at pv_ov) | ((with_reducible show ovr2 _ _ _); row_room_at pv_ov2) | row_room_at pv_late))
local macro_rules | `(tactic| row_room_at pv_go_ends) => `(tactic| (repeat' row_room_at pv_st_ends))
local macro_rules | `(tactic| row_room_at pv_gox_ends) => `(tactic| (repeat' ((try ((with_reducible show toEnv _ _); (first | refine toEnv_go rfl ?_ | refine toEnv_gT rfl rfl ?_); row_room_at pv_cl)); (try (conv => whnf)); first | ((with_reducible show _ ∧ _); row_room_at pv_and) | ((with_reducible show ap2 _ _ _ _); row_room_at pv_op2) | ((with_reducible show apN _ _ _); row_room_at pv_opN) | ((with_reducible show ap1 _ _ _); row_room_at pv_op1) | ((with_reducible show ovr _ _); row_room_at pv_ov) | ((with_reducible show ovr2 _ _ _); row_room_at pv_ov2) | row_room_at pv_latex)))
local macro_rules | `(tactic| row_room_at pv_gou_ends) => `(tactic| (repeat' (first | (with_reducible refine apF_op ?_) | (with_reducible refine apL_op ?_) | row_room_at pv_st_ends)))

def b_ends : FS := (fSeq (fAsg 4 (fLc [5] (fSeqI (fVar 0)) (gN 5) (fTst (fOp2 oGe (fVar 5) (fVar 2))) (fVar 5))) (fRet (fSl (fIf (fTst (fOp2 oEq (fVar 1) (fC (.str "right")))) (fStp (fVar 4) (fPart (fOp1 oNeg (fC (.int 1))))) (fVar 4)) fNoPart (fPart (fVar 3)))))

@[irreducible] def ph_ends : Phi := fun args R => ∃ (d : D) (ws : List Int) (b : Bool) (s : Int) (m : Nat), args = [sh d, sh (.str (sideS b)), sh (.int s), sh (.int m)] ∧ (Ints d ws) ∧ (ws.length ≤ 1000) ∧ (m ≤ 1000) ∧ R (ow (.list ((endsL ws b s m).map .int))) []
theorem call_ends {d : D}{ws : List Int}{b : Bool}{s : Int}{m : Nat} {R : Cell → List Cell → Prop} (hd : Ints d ws) (hn : Hold (ws.length ≤ 1000)) (hm : Hold (m ≤ 1000)) (q : R (ow (.list ((endsL ws b s m).map .int))) []) : ph_ends [sh d, sh (.str (sideS b)), sh (.int s), sh (.int m)] R := by
  unfold ph_ends
  exact ⟨d, ws, b, s, m, rfl, hd, hn.out, hm.out, q⟩
theorem vc_ends (args R) (h : ph_ends args R) : b_ends (startE 6 args) (defK [false, false, false, false] R) := by
  unfold ph_ends at h
  obtain ⟨d, ws, b, s, m, rfl, hd, hn, hm, hR⟩ := h
  (row_room_at pv_go_ends; row_room_at pv_end)
  refine lc_fmI .int (fun w => decide (s ≤ w)) (fun w => w) (fun w acc N hq hl2 hT hF => ?_) trivial (.mk (by omega)) ?_
  · (row_room_at pv_go_ends; row_room_at pv_end)
  rw [List.map_id']
  have hl3 := List.length_filter_le (fun w => decide (s ≤ w)) ws
  cases b
  · (row_room_at pv_go_ends; row_room_at pv_end)
  · (row_room_at pv_go_ends; row_room_at pv_end)
    refine .mk ?_
    unfold endsL dl
    rw [if_pos rfl, List.filter_reverse, Int.toNat_natCast]

local macro_rules | `(tactic| row_room_at pv_st_contrary) => `(tactic| ((try ((with_reducible show toEnv _ _); (first | refine toEnv_go rfl ?_ | refine toEnv_gT rfl rfl ?_); row_room_at pv_cl)); (try (conv => whnf)); first | ((with_reducible show _ ∧ _); row_room_at pv_and) | ((with_reducible show ap2 _ _ _ _); row_room_at pv_op2) | ((with_reducible show apN _ _ _); row_room_at pv_opN) | ((with_reducible show ap1 _ _ _); row_room_at pv_op1) | ((with_reducible show ovr _ _); row_room_at pv_ov) | ((with_reducible show ovr2 _ _ _); row_room_at pv_ov2) | row_room_at pv_late))
local macro_rules | `(tactic| row_room_at pv_go_contrary) => `(tactic| (repeat' row_room_at pv_st_contrary))
local macro_rules | `(tactic| row_room_at pv_gox_contrary) => `(tactic| (repeat' ((try ((with_reducible show toEnv _ _); (first | refine toEnv_go rfl ?_ | refine toEnv_gT rfl rfl ?_); row_room_at pv_cl)); (try (conv => whnf)); first | ((with_reducible show _ ∧ _); row_room_at pv_and) | ((with_reducible show ap2 _ _ _ _); row_room_at pv_op2) | ((with_reducible show apN _ _ _); row_room_at pv_opN) | ((with_reducible show ap1 _ _ _); row_room_at pv_op1) | ((with_reducible show ovr _ _); row_room_at pv_ov) | ((with_reducible show ovr2 _ _ _); row_room_at pv_ov2) | row_room_at pv_latex)))
local macro_rules | `(tactic| row_room_at pv_gou_contrary) => `(tactic| (repeat' (first | (with_reducible refine apF_op ?_) | (with_reducible refine apL_op ?_) | row_room_at pv_st_contrary)))

def b_contrary : FS := (fRet (fIf (fTst (fOp2 oEq (fVar 0) (fOp2 oIx (fC (.tuple [.str "left", .str "right"])) (fC (.int 1))))) (fOp2 oIx (fC (.tuple [.str "left", .str "right"])) (fC (.int 0))) (fOp2 oIx (fC (.tuple [.str "left", .str "right"])) (fC (.int 1)))))

@[irreducible] def ph_contrary : Phi := fun args R => ∃ (b : Bool), args = [sh (.str (sideS b))] ∧ R (sh (.str (sideS (!b)))) []
theorem call_contrary {b : Bool} {R : Cell → List Cell → Prop}  (q : R (sh (.str (sideS (!b)))) []) : ph_contrary [sh (.str (sideS b))] R := by
  unfold ph_contrary
  exact ⟨b, rfl, q⟩
theorem vc_contrary (args R) (h : ph_contrary args R) : b_contrary (startE 1 args) (defK [false] R) := by
  unfold ph_contrary at h
  obtain ⟨b, rfl, hR⟩ := h
  cases b
  all_goals (row_room_at pv_go_contrary; row_room_at pv_end)

local macro_rules | `(tactic| row_room_at pv_st_first_unlike) => `(tactic| ((try ((with_reducible show toEnv _ _); (first | refine toEnv_go rfl ?_ | refine toEnv_gT rfl rfl ?_); row_room_at pv_cl)); (try (conv => whnf)); first | ((with_reducible show _ ∧ _); row_room_at pv_and) | ((with_reducible show ap2 _ _ _ _); row_room_at pv_op2) | ((with_reducible show apN _ _ _); row_room_at pv_opN) | ((with_reducible show ap1 _ _ _); row_room_at pv_op1) | ((with_reducible show ovr _ _); row_room_at pv_ov) | ((with_reducible show ovr2 _ _ _); row_room_at pv_ov2) | row_room_at pv_late))
local macro_rules | `(tactic| row_room_at pv_go_first_unlike) => `(tactic| (repeat' row_room_at pv_st_first_unlike))
local macro_rules | `(tactic| row_room_at pv_gox_first_unlike) => `(tactic| (repeat' ((try ((with_reducible show toEnv _ _); (first | refine toEnv_go rfl ?_ | refine toEnv_gT rfl rfl ?_); row_room_at pv_cl)); (try (conv => whnf)); first | ((with_reducible show _ ∧ _); row_room_at pv_and) | ((with_reducible show ap2 _ _ _ _); row_room_at pv_op2) | ((with_reducible show apN _ _ _); row_room_at pv_opN) | ((with_reducible show ap1 _ _ _); row_room_at pv_op1) | ((with_reducible show ovr _ _); row_room_at pv_ov) | ((with_reducible show ovr2 _ _ _); row_room_at pv_ov2) | row_room_at pv_latex)))
local macro_rules | `(tactic| row_room_at pv_gou_first_unlike) => `(tactic| (repeat' (first | (with_reducible refine apF_op ?_) | (with_reducible refine apL_op ?_) | row_room_at pv_st_first_unlike)))

def b_first_unlike : FS := (fSeq (fFor (fRange1 (fCons (fOpN (at2 oMax2) (fCons (fOpN (at1 oLen) (fCons (fVar 0) fNil)) (fCons (fOpN (at1 oLen) (fCons (fVar 1) fNil)) fNil))) fNil)) (gN 2) (fIfS (fTst (fOp2 oNe (fSl (fVar 0) (fPart (fVar 2)) (fPart (fOp2 oAdd (fVar 2) (fC (.int 1))))) (fSl (fVar 1) (fPart (fVar 2)) (fPart (fOp2 oAdd (fVar 2) (fC (.int 1))))))) (fRet (fVar 2)) fNext)) (fRet (fC .none)))

def optN : Option Nat → D
  | some k => .int k
  | none => .none
@[irreducible] def ph_first_unlike : Phi := fun args R => ∃ (a c : List Int) (o : Option Nat), args = [sh (.list (a.map .int)), sh (.list (c.map .int))] ∧ (unl a c = o) ∧ (a.length ≤ 1000) ∧ (c.length ≤ 1000) ∧ R (sh (optN o)) []
theorem call_first_unlike {a c : List Int}{o : Option Nat} {R : Cell → List Cell → Prop} (ho : unl a c = o) (hn : Hold (a.length ≤ 1000)) (hm : Hold (c.length ≤ 1000)) (q : R (sh (optN o)) []) : ph_first_unlike [sh (.list (a.map .int)), sh (.list (c.map .int))] R := by
  unfold ph_first_unlike
  exact ⟨a, c, o, rfl, ho, hn.out, hm.out, q⟩
theorem sl1_iff {a c : List Int} {i : Nat} : (a.drop i).take 1 = (c.drop i).take 1 ↔ a[i]? = c[i]? := by
  have h : ∀ l : List Int, (l.drop i).take 1 = match l[i]? with | some w => [w] | none => [] := fun l => by
    by_cases hi : i < l.length
    · rw [List.getElem?_eq_getElem hi, List.drop_eq_getElem_cons hi]; rfl
    · rw [List.getElem?_eq_none (by omega), List.drop_eq_nil_of_le (by omega)]; rfl
  rw [h, h]
  cases a[i]? <;> cases c[i]? <;> simp
theorem take_more {a c : List Int} {i : Nat} (h : a.take i = c.take i) (h2 : a[i]? = c[i]?) : a.take (i + 1) = c.take (i + 1) := by
  rw [List.take_succ, List.take_succ, h, h2]
theorem vc_first_unlike (args R) (h : ph_first_unlike args R) : b_first_unlike (startE 3 args) (defK [false, false] R) := by
  unfold ph_first_unlike at h
  obtain ⟨a, c, o, rfl, ho, hn, hm, hR⟩ := h
  (row_room_at pv_go_first_unlike; row_room_at pv_end)
  refine for_st .int (fun xs E e => ∃ (i : Nat) (oo : Option Cell), xs = irange i (max (a.length : Int) c.length) ∧ (i : Int) ≤ max (a.length : Int) c.length ∧ a.take i = c.take i ∧ e = [some (sh (.list (a.map .int))), some (sh (.list (c.map .int))), oo]) ⟨0, none, rfl, by omega, rfl, rfl⟩ (fun j xs e N hI hN => ?_) (fun e hI => ?_)
  · obtain ⟨i, oo, e1, e2, e3, rfl⟩ := hI
    have hlt : (i : Int) < max (a.length : Int) c.length := by
      have := congrArg List.length e1
      rw [List.length_cons, irange_len] at this
      omega
    rw [irange_cons hlt] at e1
    injection e1 with e4 e5
    subst e4
    have h1 : ((i : Int) + 1).toNat - (i : Int).toNat = 1 := by omega
    by_cases hu : a[i]? = c[i]?
    · have hs := sl1_iff.mpr hu
      have hs' : ((a.drop (i : Int).toNat).take (((i : Int) + 1).toNat - (i : Int).toNat) = (c.drop (i : Int).toNat).take (((i : Int) + 1).toNat - (i : Int).toNat)) := by rw [h1, Int.toNat_natCast]; exact hs
      (row_room_at pv_go_first_unlike; row_room_at pv_end)
      exact hN _ ⟨i + 1, _, by rw [e5]; rfl, by omega, take_more e3 hu, rfl⟩
    · have hs' : ¬ ((a.drop (i : Int).toNat).take (((i : Int) + 1).toNat - (i : Int).toNat) = (c.drop (i : Int).toNat).take (((i : Int) + 1).toNat - (i : Int).toNat)) := by rw [h1, Int.toNat_natCast]; exact mt sl1_iff.mp hu
      rw [unl_of e3 hu] at ho
      subst ho
      (row_room_at pv_go_first_unlike; row_room_at pv_end)
  · obtain ⟨i, oo, e1, e2, e3, rfl⟩ := hI
    have hge : max (a.length : Int) c.length ≤ i := by
      have := congrArg List.length e1
      rw [List.length_nil, irange_len] at this
      omega
    rw [List.take_of_length_le (by omega), List.take_of_length_le (by omega)] at e3
    have := unl_none.mpr e3
    rw [this] at ho
    subst ho
    (row_room_at pv_go_first_unlike; row_room_at pv_end)

local macro_rules | `(tactic| row_room_at pv_call_contrary) => `(tactic| (refine apP_op (call_contrary  ?_)))
local macro_rules | `(tactic| row_room_at pv_st_row_for) => `(tactic| ((try ((with_reducible show toEnv _ _); (first | refine toEnv_go rfl ?_ | refine toEnv_gT rfl rfl ?_); row_room_at pv_cl)); (try (conv => whnf)); first | ((with_reducible show _ ∧ _); row_room_at pv_and) | ((with_reducible show ap2 _ _ _ _); row_room_at pv_op2) | ((with_reducible show apN _ _ _); row_room_at pv_opN) | ((with_reducible show ap1 _ _ _); row_room_at pv_op1) | ((with_reducible show ovr _ _); row_room_at pv_ov) | ((with_reducible show ovr2 _ _ _); row_room_at pv_ov2) | ((with_reducible show apP _ _ _); row_room_at pv_cl; first | row_room_at pv_call_contrary) | ((with_reducible show apP _ _ _); row_room_at pv_cl; (first | (rw [sd_l]; first | row_room_at pv_call_contrary) | (rw [sd_r]; first | row_room_at pv_call_contrary))) | row_room_at pv_late))
local macro_rules | `(tactic| row_room_at pv_go_row_for) => `(tactic| (repeat' row_room_at pv_st_row_for))
local macro_rules | `(tactic| row_room_at pv_gox_row_for) => `(tactic| (repeat' ((try ((with_reducible show toEnv _ _); (first | refine toEnv_go rfl ?_ | refine toEnv_gT rfl rfl ?_); row_room_at pv_cl)); (try (conv => whnf)); first | ((with_reducible show _ ∧ _); row_room_at pv_and) | ((with_reducible show ap2 _ _ _ _); row_room_at pv_op2) | ((with_reducible show apN _ _ _); row_room_at pv_opN) | ((with_reducible show ap1 _ _ _); row_room_at pv_op1) | ((with_reducible show ovr _ _); row_room_at pv_ov) | ((with_reducible show ovr2 _ _ _); row_room_at pv_ov2) | ((with_reducible show apP _ _ _); row_room_at pv_cl; first | row_room_at pv_call_contrary) | ((with_reducible show apP _ _ _); row_room_at pv_cl; (first | (rw [sd_l]; first | row_room_at pv_call_contrary) | (rw [sd_r]; first | row_room_at pv_call_contrary))) | row_room_at pv_latex)))
local macro_rules | `(tactic| row_room_at pv_gou_row_for) => `(tactic| (repeat' (first | (with_reducible refine apF_op ?_) | (with_reducible refine apL_op ?_) | row_room_at pv_st_row_for)))

def b_row_for : FS := (fSeq (fAsgO 4 (fOpN oLst (fCons (fOpN oTup (fCons (fCall [false] ph_contrary (fCons (fVar 0) fNil)) (fCons (fVar 1) fNil))) fNil))) (fRet (fIf (fTst (fOp2 oEq (fOpN (at1 oLen) (fCons (fVar 2) fNil)) (fOpN (at1 oLen) (fCons (fVar 3) fNil)))) (fOp2 oAdd (fVar 4) (fOpN oLst (fCons (fOpN oTup (fCons (fVar 0) (fCons (fOpN (at2 oMax2) (fCons (fOp2 oIx (fVar 2) (fOp1 oNeg (fC (.int 1)))) (fCons (fOp2 oIx (fVar 3) (fOp1 oNeg (fC (.int 1)))) fNil))) fNil))) fNil))) (fMv 4))))

-- V0
@[irreducible] def ph_row_for : Phi := fun args R => ∃ (a c : List Int) (b : Bool) (s : Int), args = [sh (.str (sideS b)), sh (.int s), sh (.list (a.map .int)), sh (.list (c.map .int))] ∧ (a.length = c.length → 0 < a.length) ∧ (a.length ≤ 1000) ∧ (c.length ≤ 1000) ∧ R (ow (.list ((rowT b s a c).map (prW false)))) []
theorem call_row_for {a c : List Int}{b : Bool}{s : Int} {R : Cell → List Cell → Prop} (h0 : Hold (a.length = c.length → 0 < a.length)) (hn : Hold (a.length ≤ 1000)) (hm : Hold (c.length ≤ 1000)) (q : R (ow (.list ((rowT b s a c).map (prW false)))) []) : ph_row_for [sh (.str (sideS b)), sh (.int s), sh (.list (a.map .int)), sh (.list (c.map .int))] R := by
  unfold ph_row_for
  exact ⟨a, c, b, s, rfl, h0.out, hn.out, hm.out, q⟩
theorem vc_row_for (args R) (h : ph_row_for args R) : b_row_for (startE 5 args) (defK [false, false, false, false] R) := by
  unfold ph_row_for at h
  obtain ⟨a, c, b, s, rfl, h0, hn, hm, hR⟩ := h
  by_cases hac : a.length = c.length
  · have h1 := h0 hac
    have h2 : 0 < c.length := by omega
    have e : rowT b s a c = [(!b, s), (b, max (gL a) (gL c))] := by unfold rowT; rw [if_pos hac]
    rw [e] at hR
    (row_room_at pv_go_row_for; row_room_at pv_end)
  · have e : rowT b s a c = [(!b, s)] := by unfold rowT; rw [if_neg hac]
    rw [e] at hR
    (row_room_at pv_go_row_for; row_room_at pv_end)

local macro_rules | `(tactic| row_room_at pv_call_ends) => `(tactic| (refine apP_op (call_ends (by row_room_at pv_sd) ?_ ?_ ?_); (first | (focus row_room_at pv_hs) | rotate_left); (first | (focus row_room_at pv_hs) | rotate_left)))
local macro_rules | `(tactic| row_room_at pv_call_first_unlike) => `(tactic| (refine apP_op (call_first_unlike (by row_room_at pv_sd) ?_ ?_ ?_); (first | (focus row_room_at pv_hs) | rotate_left); (first | (focus row_room_at pv_hs) | rotate_left)))
local macro_rules | `(tactic| row_room_at pv_call_row_for) => `(tactic| (refine apP_op (call_row_for ?_ ?_ ?_ ?_); (first | (focus row_room_at pv_hs) | rotate_left); (first | (focus row_room_at pv_hs) | rotate_left); (first | (focus row_room_at pv_hs) | rotate_left)))
local macro_rules | `(tactic| row_room_at pv_st_told_apart) => `(tactic| ((try ((with_reducible show toEnv _ _); (first | refine toEnv_go rfl ?_ | refine toEnv_gT rfl rfl ?_); row_room_at pv_cl)); (try (conv => whnf)); first | ((with_reducible show _ ∧ _); row_room_at pv_and) | ((with_reducible show ap2 _ _ _ _); row_room_at pv_op2) | ((with_reducible show apN _ _ _); row_room_at pv_opN) | ((with_reducible show ap1 _ _ _); row_room_at pv_op1) | ((with_reducible show ovr _ _); row_room_at pv_ov) | ((with_reducible show ovr2 _ _ _); row_room_at pv_ov2) | ((with_reducible show apP _ _ _); row_room_at pv_cl; first | row_room_at pv_call_ends | row_room_at pv_call_first_unlike | row_room_at pv_call_row_for) | ((with_reducible show apP _ _ _); row_room_at pv_cl; (first | (rw [sd_l]; first | row_room_at pv_call_ends | row_room_at pv_call_first_unlike | row_room_at pv_call_row_for) | (rw [sd_r]; first | row_room_at pv_call_ends | row_room_at pv_call_first_unlike | row_room_at pv_call_row_for))) | row_room_at pv_late))
local macro_rules | `(tactic| row_room_at pv_go_told_apart) => `(tactic| (repeat' row_room_at pv_st_told_apart))
local macro_rules | `(tactic| row_room_at pv_gox_told_apart) => `(tactic| (repeat' ((try ((with_reducible show toEnv _ _); (first | refine toEnv_go rfl ?_ | refine toEnv_gT rfl rfl ?_); row_room_at pv_cl)); (try (conv => whnf)); first | ((with_reducible show _ ∧ _); row_room_at pv_and) | ((with_reducible show ap2 _ _ _ _); row_room_at pv_op2) | ((with_reducible show apN _ _ _); row_room_at pv_opN) | ((with_reducible show ap1 _ _ _); row_room_at pv_op1) | ((with_reducible show ovr _ _); row_room_at pv_ov) | ((with_reducible show ovr2 _ _ _); row_room_at pv_ov2) | ((with_reducible show apP _ _ _); row_room_at pv_cl; first | row_room_at pv_call_ends | row_room_at pv_call_first_unlike | row_room_at pv_call_row_for) | ((with_reducible show apP _ _ _); row_room_at pv_cl; (first | (rw [sd_l]; first | row_room_at pv_call_ends | row_room_at pv_call_first_unlike | row_room_at pv_call_row_for) | (rw [sd_r]; first | row_room_at pv_call_ends | row_room_at pv_call_first_unlike | row_room_at pv_call_row_for))) | row_room_at pv_latex)))
local macro_rules | `(tactic| row_room_at pv_gou_told_apart) => `(tactic| (repeat' (first | (with_reducible refine apF_op ?_) | (with_reducible refine apL_op ?_) | row_room_at pv_st_told_apart)))

def b_told_apart : FS := (fSeq (fFor (fSeqI (fC (.tuple [.str "left", .str "right"]))) (gN 3) (fFor (fSeqI (fOpN (at1 oSorted) (fCons (fOp2 oAdd (fOpN (at1 oList) (fCons (fVar 0) fNil)) (fOpN (at1 oList) (fCons (fVar 1) fNil))) fNil))) (gN 4) (fSeq (fPar [5, 6] [false, false] (fCons (fCall [false, false, false, false] ph_ends (fCons (fVar 0) (fCons (fVar 3) (fCons (fVar 4) (fCons (fVar 2) fNil))))) (fCons (fCall [false, false, false, false] ph_ends (fCons (fVar 1) (fCons (fVar 3) (fCons (fVar 4) (fCons (fVar 2) fNil))))) fNil))) (fSeq (fAsg 7 (fCall [false, false] ph_first_unlike (fCons (fVar 5) (fCons (fVar 6) fNil)))) (fIfS (fTst (fOp2 oNotN (fVar 7) (fC .none))) (fRet (fTupO (fCons (fOp2 oAdd (fVar 7) (fC (.int 1))) (fCons (fFz 3) (fCons (fCall [false, false, false, false] ph_row_for (fCons (fVar 3) (fCons (fVar 4) (fCons (fSl (fVar 5) fNoPart (fPart (fOp2 oAdd (fVar 7) (fC (.int 1))))) (fCons (fSl (fVar 6) fNoPart (fPart (fOp2 oAdd (fVar 7) (fC (.int 1))))) fNil))))) fNil))))) fNext))))) (fRet (fC .none)))

-- V0
@[irreducible] def ph_told_apart : Phi := fun args R => ∃ (d e0 : D) (ws vs : List Int) (m : Nat), args = [sh d, sh e0, sh (.int m)] ∧ (Ints d ws) ∧ (Ints e0 vs) ∧ (ws.length ≤ 400) ∧ (vs.length ≤ 400) ∧ (m ≤ 1000) ∧ R (toldC (toldT ws vs m (keysT ws vs))) []
theorem call_told_apart {d e0 : D}{ws vs : List Int}{m : Nat} {R : Cell → List Cell → Prop} (hd : Ints d ws) (he : Ints e0 vs) (hn : Hold (ws.length ≤ 400)) (hm : Hold (vs.length ≤ 400)) (hk : Hold (m ≤ 1000)) (q : R (toldC (toldT ws vs m (keysT ws vs))) []) : ph_told_apart [sh d, sh e0, sh (.int m)] R := by
  unfold ph_told_apart
  exact ⟨d, e0, ws, vs, m, rfl, hd, he, hn.out, hm.out, hk.out, q⟩
theorem imm_dS0 (b : Bool) : imm (PyData.str (sideS b)) = true := rfl
theorem endsL_len {ws : List Int} {b : Bool} {s : Int} {m : Nat} : (endsL ws b s m).length ≤ m ∧ (endsL ws b s m).length ≤ ws.length := by
  unfold endsL
  have h1 := List.length_filter_le (fun w => decide (s ≤ w)) (dl b ws)
  have h2 : (dl b ws).length = ws.length := by unfold dl; cases b <;> simp
  rw [List.length_take]; omega
theorem toldT_skip {ws vs : List Int} {m : Nat} {b : Bool} {s : Int} {l : List (Bool × Int)} (h : unl (endsL ws b s m) (endsL vs b s m) = none) : toldT ws vs m ((b, s) :: l) = toldT ws vs m l := by rw [toldT, h]
theorem toldT_hit {ws vs : List Int} {m i : Nat} {b : Bool} {s : Int} {l : List (Bool × Int)} (h : unl (endsL ws b s m) (endsL vs b s m) = some i) : toldT ws vs m ((b, s) :: l) = some (i + 1, b, rowT b s ((endsL ws b s m).take (i + 1)) ((endsL vs b s m).take (i + 1))) := by rw [toldT, h]
def keyB (b : Bool) (ss : List Int) : List (Bool × Int) := ss.map fun s => (b, s)
def keysB (ws vs : List Int) (bs : List Bool) : List (Bool × Int) := bs.flatMap fun b => keyB b (srt (ws ++ vs))
theorem keysB_eq {ws vs : List Int} : keysT ws vs = keysB ws vs [false, true] := by
  unfold keysT keysB keyB
  simp
theorem vc_told_apart (args R) (h : ph_told_apart args R) : b_told_apart (startE 8 args) (defK [false, false, false] R) := by
  unfold ph_told_apart at h
  obtain ⟨d, e0, ws, vs, m, rfl, hd, he, hn, hm, hk, hR⟩ := h
  rw [keysB_eq] at hR
  (row_room_at pv_go_told_apart; row_room_at pv_end)
  rw [show [PyData.str (Str.ofString "left"), PyData.str (Str.ofString "right")] = [false, true].map (fun b => PyData.str (sideS b)) from rfl]
  refine for_st (fun b => PyData.str (sideS b)) (fun xs E e => ∃ o3 o4 o5 o6 o7 : Option Cell, toldT ws vs m (keysB ws vs xs) = toldT ws vs m (keysB ws vs [false, true]) ∧ e = [some (sh d), some (sh e0), some (sh (.int m)), o3, o4, o5, o6, o7]) ⟨_, _, _, _, _, rfl, rfl⟩ (fun b xs e N hI hN => ?_) (fun e hI => ?_)
  · obtain ⟨o3, o4, o5, o6, o7, e1, rfl⟩ := hI
    row_room_at pv_cl
    (row_room_at pv_go_told_apart; row_room_at pv_end)
    have hl : (srt (ws ++ vs)).length ≤ 800 := by rw [srt_len, List.length_append]; omega
    refine for_st .int (fun ys E e => ∃ p4 p5 p6 p7 : Option Cell, toldT ws vs m (keyB b ys ++ keysB ws vs xs) = toldT ws vs m (keysB ws vs [false, true]) ∧ e = [some (sh d), some (sh e0), some (sh (.int m)), some (sh (.str (sideS b))), p4, p5, p6, p7]) ⟨_, _, _, _, e1, rfl⟩ (fun s ys e M hJ hM => ?_) (fun e hJ => ?_)
    · obtain ⟨p4, p5, p6, p7, f1, rfl⟩ := hJ
      have z1 := endsL_len (ws := ws) (b := b) (s := s) (m := m)
      have z2 := endsL_len (ws := vs) (b := b) (s := s) (m := m)
      clear hN
      cases hu : unl (endsL ws b s m) (endsL vs b s m) with
      | none =>
        have f2 : toldT ws vs m (keyB b ys ++ keysB ws vs xs) = toldT ws vs m (keysB ws vs [false, true]) := by rw [← f1]; exact (toldT_skip hu).symm
        row_room_at pv_cl
        (row_room_at pv_go_told_apart; row_room_at pv_end)
        exact hM _ ⟨_, _, _, _, f2, rfl⟩
      | some i =>
        rw [← f1, show keyB b (s :: ys) ++ keysB ws vs xs = (b, s) :: (keyB b ys ++ keysB ws vs xs) from rfl, toldT_hit hu] at hR
        clear f1
        row_room_at pv_cl
        (row_room_at pv_go_told_apart; row_room_at pv_end)
        · refine ⟨⟨⟨rfl, imm_dS0 _, trivial⟩, by decide⟩, ?_⟩
          rw [show ((i : Int) + 1).toNat = i + 1 by omega]
          exact hR
        refine .mk fun he => ?_
        rw [show ((i : Int) + 1).toNat = i + 1 by omega] at he ⊢
        refine Classical.byContradiction fun hz => (unl_some hu).2 ?_
        have w1 : ((endsL ws b s m).take (i + 1)).length = 0 := by omega
        have w2 : ((endsL vs b s m).take (i + 1)).length = 0 := by omega
        rw [List.length_take] at w1 w2
        rw [List.getElem?_eq_none (by omega), List.getElem?_eq_none (by omega)]
    · obtain ⟨p4, p5, p6, p7, f1, rfl⟩ := hJ
      exact hN _ ⟨_, _, _, _, _, f1, rfl⟩
  · obtain ⟨o3, o4, o5, o6, o7, e1, rfl⟩ := hI
    rw [← e1] at hR
    row_room_at pv_cl
    (row_room_at pv_go_told_apart; row_room_at pv_end)

local macro_rules | `(tactic| row_room_at pv_st_from_tray) => `(tactic| ((try ((with_reducible show toEnv _ _); (first | refine toEnv_go rfl ?_ | refine toEnv_gT rfl rfl ?_); row_room_at pv_cl)); (try (conv => whnf)); first | ((with_reducible show _ ∧ _); row_room_at pv_and) | ((with_reducible show ap2 _ _ _ _); row_room_at pv_op2) | ((with_reducible show apN _ _ _); row_room_at pv_opN) | ((with_reducible show ap1 _ _ _); row_room_at pv_op1) | ((with_reducible show ovr _ _); row_room_at pv_ov) | ((with_reducible show ovr2 _ _ _); row_room_at pv_ov2) | row_room_at pv_late))
local macro_rules | `(tactic| row_room_at pv_go_from_tray) => `(tactic| (repeat' row_room_at pv_st_from_tray))
local macro_rules | `(tactic| row_room_at pv_gox_from_tray) => `(tactic| (repeat' ((try ((with_reducible show toEnv _ _); (first | refine toEnv_go rfl ?_ | refine toEnv_gT rfl rfl ?_); row_room_at pv_cl)); (try (conv => whnf)); first | ((with_reducible show _ ∧ _); row_room_at pv_and) | ((with_reducible show ap2 _ _ _ _); row_room_at pv_op2) | ((with_reducible show apN _ _ _); row_room_at pv_opN) | ((with_reducible show ap1 _ _ _); row_room_at pv_op1) | ((with_reducible show ovr _ _); row_room_at pv_ov) | ((with_reducible show ovr2 _ _ _); row_room_at pv_ov2) | row_room_at pv_latex)))
local macro_rules | `(tactic| row_room_at pv_gou_from_tray) => `(tactic| (repeat' (first | (with_reducible refine apF_op ?_) | (with_reducible refine apL_op ?_) | row_room_at pv_st_from_tray)))

def b_from_tray : FS := (fRet (fIf (fTst (fOp2 oEq (fVar 0) (fC (.str "right")))) (fOpN oTup (fCons (fC (.int 0)) (fCons (fOpN oTup fNil) (fCons (fVar 1) fNil)))) (fOpN oTup (fCons (fVar 1) (fCons (fOpN oTup fNil) (fCons (fC (.int 0)) fNil))))))

@[irreducible] def ph_from_tray : Phi := fun args R => ∃ (m : Int) (b : Bool), args = [sh (.str (sideS b)), sh (.int m)] ∧ R (sh (dS (inT0 b m))) []
theorem call_from_tray {m : Int}{b : Bool} {R : Cell → List Cell → Prop}  (q : R (sh (dS (inT0 b m))) []) : ph_from_tray [sh (.str (sideS b)), sh (.int m)] R := by
  unfold ph_from_tray
  exact ⟨m, b, rfl, q⟩
theorem vc_from_tray (args R) (h : ph_from_tray args R) : b_from_tray (startE 2 args) (defK [false, false] R) := by
  unfold ph_from_tray at h
  obtain ⟨m, b, rfl, hR⟩ := h
  unfold inT0 at hR
  cases b
  all_goals (row_room_at pv_go_from_tray; row_room_at pv_end)

local macro_rules | `(tactic| row_room_at pv_call_is_row) => `(tactic| (refine apP_op (call_is_row ?_ ?_); (first | (focus row_room_at pv_hs) | rotate_left)))
local macro_rules | `(tactic| row_room_at pv_call_heard) => `(tactic| (refine apP_op (call_heard (by row_room_at pv_sd) (by row_room_at pv_sd) (by row_room_at pv_sd) ?_ ?_ ?_ ?_); (first | (focus row_room_at pv_hs) | rotate_left); (first | (focus row_room_at pv_hs) | rotate_left); (first | (focus row_room_at pv_hs) | rotate_left)))
local macro_rules | `(tactic| row_room_at pv_call_from_tray) => `(tactic| (refine apP_op (call_from_tray  ?_)))
local macro_rules | `(tactic| row_room_at pv_st_shows_apart) => `(tactic| ((try ((with_reducible show toEnv _ _); (first | refine toEnv_go rfl ?_ | refine toEnv_gT rfl rfl ?_); row_room_at pv_cl)); (try (conv => whnf)); first | ((with_reducible show _ ∧ _); row_room_at pv_and) | ((with_reducible show ap2 _ _ _ _); row_room_at pv_op2) | ((with_reducible show apN _ _ _); row_room_at pv_opN) | ((with_reducible show ap1 _ _ _); row_room_at pv_op1) | ((with_reducible show ovr _ _); row_room_at pv_ov) | ((with_reducible show ovr2 _ _ _); row_room_at pv_ov2) | ((with_reducible show apP _ _ _); row_room_at pv_cl; first | row_room_at pv_call_is_number | row_room_at pv_call_is_side | row_room_at pv_call_is_row | row_room_at pv_call_heard | row_room_at pv_call_from_tray) | ((with_reducible show apP _ _ _); row_room_at pv_cl; (first | (rw [sd_l]; first | row_room_at pv_call_is_number | row_room_at pv_call_is_side | row_room_at pv_call_is_row | row_room_at pv_call_heard | row_room_at pv_call_from_tray) | (rw [sd_r]; first | row_room_at pv_call_is_number | row_room_at pv_call_is_side | row_room_at pv_call_is_row | row_room_at pv_call_heard | row_room_at pv_call_from_tray))) | row_room_at pv_late))
local macro_rules | `(tactic| row_room_at pv_go_shows_apart) => `(tactic| (repeat' row_room_at pv_st_shows_apart))
local macro_rules | `(tactic| row_room_at pv_gox_shows_apart) => `(tactic| (repeat' ((try ((with_reducible show toEnv _ _); (first | refine toEnv_go rfl ?_ | refine toEnv_gT rfl rfl ?_); row_room_at pv_cl)); (try (conv => whnf)); first | ((with_reducible show _ ∧ _); row_room_at pv_and) | ((with_reducible show ap2 _ _ _ _); row_room_at pv_op2) | ((with_reducible show apN _ _ _); row_room_at pv_opN) | ((with_reducible show ap1 _ _ _); row_room_at pv_op1) | ((with_reducible show ovr _ _); row_room_at pv_ov) | ((with_reducible show ovr2 _ _ _); row_room_at pv_ov2) | ((with_reducible show apP _ _ _); row_room_at pv_cl; first | row_room_at pv_call_is_number | row_room_at pv_call_is_side | row_room_at pv_call_is_row | row_room_at pv_call_heard | row_room_at pv_call_from_tray) | ((with_reducible show apP _ _ _); row_room_at pv_cl; (first | (rw [sd_l]; first | row_room_at pv_call_is_number | row_room_at pv_call_is_side | row_room_at pv_call_is_row | row_room_at pv_call_heard | row_room_at pv_call_from_tray) | (rw [sd_r]; first | row_room_at pv_call_is_number | row_room_at pv_call_is_side | row_room_at pv_call_is_row | row_room_at pv_call_heard | row_room_at pv_call_from_tray))) | row_room_at pv_latex)))
local macro_rules | `(tactic| row_room_at pv_gou_shows_apart) => `(tactic| (repeat' (first | (with_reducible refine apF_op ?_) | (with_reducible refine apL_op ?_) | row_room_at pv_st_shows_apart)))

def b_shows_apart : FS := (fSeq (fIfS (fOr (fNot (fTst (fOp1 (oIsi ["tuple"]) (fVar 3)))) (fOr (fTst (fOp2 oNe (fOpN (at1 oLen) (fCons (fVar 3) fNil)) (fC (.int 3)))) (fOr (fNot (fTst (fCall [false] ph_is_number (fCons (fOp2 oIx (fVar 3) (fC (.int 0))) fNil)))) (fNot (fTst (fCall [false] ph_is_side (fCons (fOp2 oIx (fVar 3) (fC (.int 1))) fNil))))))) (fRet (fC (.bool false))) fNext) (fSeq (fUnp (gT 3 (gsCons (gN 4) (gsCons (gN 5) (gsCons (gN 6) gsNil)))) (fVar 3)) (fSeq (fIfS (fOr (fNot (fTst (fChain oLe oLe (fC (.int 1)) (fVar 4) (fVar 2)))) (fNot (fTst (fCall [false] ph_is_row (fCons (fVar 6) fNil))))) (fRet (fC (.bool false))) fNext) (fSeq (fAsg 7 (fCall [false, false] ph_from_tray (fCons (fVar 5) (fCons (fVar 4) fNil)))) (fRet (fOp2 oNe (fCall [false, false, false] ph_heard (fCons (fVar 0) (fCons (fVar 7) (fCons (fVar 6) fNil)))) (fCall [false, false, false] ph_heard (fCons (fVar 1) (fCons (fVar 7) (fCons (fVar 6) fNil))))))))))

def showsB (ws vs : List Int) (m k : Int) (b : Bool) (row : List (Bool × Int)) : Bool := decide (1 ≤ k) && decide (k ≤ m) && row.all (fun p => decide (0 < p.2)) && !decide (heardS ws row (inT0 b k) = heardS vs row (inT0 b k))
@[irreducible] def ph_shows_apart : Phi := fun args R => ∃ (d e0 : D) (ws vs : List Int) (m k : Int) (b : Bool) (row : List (Bool × Int)), args = [sh d, sh e0, sh (.int m), sh (.tuple [.int k, .str (sideS b), .list (row.map (prW false))])] ∧ (Ints d ws) ∧ (Ints e0 vs) ∧ (ws.length ≤ 1000) ∧ (vs.length ≤ 1000) ∧ (row.length ≤ 1000) ∧ R (sh (.bool (showsB ws vs m k b row))) []
theorem call_shows_apart {d e0 : D}{ws vs : List Int}{m k : Int}{b : Bool}{row : List (Bool × Int)} {R : Cell → List Cell → Prop} (hd : Ints d ws) (he : Ints e0 vs) (hn : Hold (ws.length ≤ 1000)) (hm : Hold (vs.length ≤ 1000)) (hl : Hold (row.length ≤ 1000)) (q : R (sh (.bool (showsB ws vs m k b row))) []) : ph_shows_apart [sh d, sh e0, sh (.int m), sh (.tuple [.int k, .str (sideS b), .list (row.map (prW false))])] R := by
  unfold ph_shows_apart
  exact ⟨d, e0, ws, vs, m, k, b, row, rfl, hd, he, hn.out, hm.out, hl.out, q⟩
theorem vc_shows_apart (args R) (h : ph_shows_apart args R) : b_shows_apart (startE 8 args) (defK [false, false, false, false] R) := by
  unfold ph_shows_apart at h
  obtain ⟨d, e0, ws, vs, m, k, b, row, rfl, hd, he, hn, hm, hl, hR⟩ := h
  have hlw := heardS_len ws row (inT0 b k)
  have hlv := heardS_len vs row (inT0 b k)
  (row_room_at pv_go_shows_apart; row_room_at pv_end)
  all_goals
    refine .mk (congrArg (fun z => sh (PyData.bool z)) ?_)
    unfold showsB
  · rw [decide_eq_false (show ¬ k ≤ m by omega)]; simp
  · rw [hc]; simp
  · rw [hc, decide_eq_true (show 1 ≤ k by assumption), decide_eq_true (show k ≤ m by assumption)]; simp
  · rw [decide_eq_false (show ¬ 1 ≤ k by omega)]; simp

def b__law_cell_at : FS := (fSeq (fIfS (fTst (fOp2 oLt (fVar 1) (fOpN (at1 oLen) (fCons (fVar 0) fNil)))) (fRet (fOp2 oIx (fVar 0) (fVar 1))) fNext) (fRet (fC (.int 0))))

def ph__law_cell_at : Phi := fun args R => ∃ (ns : List Int) (k : Int), args = [sh (scrD ns), sh (.int k)] ∧ 0 ≤ k ∧ ∀ v : Int, R (sh (.int v)) []
theorem vc__law_cell_at (args R) (h : ph__law_cell_at args R) : b__law_cell_at (startE 2 args) (defK [false, false] R) := by
  obtain ⟨ns, k, rfl, hk, hR⟩ := h
  simp only [b__law_cell_at, scrD]
  simp only [fSeq, fIfS, fTst, fOp1, fOp2, fOpN, fVar, fFz, fMv, fC, fAsg, fAsgO, fSetIx, fRet, fRetN, fNext, fDrop, fMth, fAug, fUnp, fPar, fNil, fCons, fBreak, fAnd, fOr, fNot, fAndV, fOrV, fNotV, fIf, fNoPart, fPart, fSl, fStp, fYes, startE, getC, sh, ow, okb_v, okb_b, Res.d_v, Res.d_b, flat, noB, dsOf, at1, at2, onOwn, isOwn, mAppend, ioC, defK, oGt, oLt, oGe, oLe, oSub, oAdd, oMulA, oMul, oDiv, oMod, oPow, oIx, oEq, oNe, oIsN, oNotN, oIsB, oNotB, oIn, oNotIn, oLst, oTup, oLen, oList, oTuple, oAbs, oToInt, oMax2, oMin2, oMax, oMin, oAll, oAny, oSorted, oIsi, oNeg, oSl, oStp, dInt0, dInt, dAdd, dMulA, dIx, dEq, dIsB, dNotB, dLen, dList, dTuple, dAbs, dToInt, dNeg, dSl, dStp, dB, atInt, dI, pick, pickI, pickC, ix, toEnv, gN, gT, gsNil, gsCons, setRes, fCall, fCallK, mkArgs, distinct, ioIx, putIos, permD, fLc, fSeqI, fRange1, fRange2, fEnum, fZip, overSeq, overEnum, overZip, away, wipeE, back, forGo, fFor, List.length_cons, List.length_nil, List.getElem?_cons_zero, List.getElem?_cons_succ, List.getElem?_nil, List.set_cons_zero, List.set_cons_succ, List.set_nil, List.map_cons, List.map_nil, List.cons_append, List.nil_append, List.replicate, List.getD_cons_zero, List.getD_cons_succ, List.getD_nil, List.any_cons, List.any_nil, true_and, and_true, Bool.false_eq_true, if_true, if_false, ite_true, ite_false, Nat.le_refl, Bool.or_false, Bool.false_or, Bool.or_true, Bool.true_or, Bool.not_true, Bool.not_false, Bool.and_true, Bool.true_and, Bool.and_self, ixN, Option.some.injEq, exists_eq_left, exists_eq_left', Int.reduceToNat, Int.reduceLE, Int.reduceLT, Int.reduceNeg, Int.reduceAdd, Int.reduceSub, Nat.reduceAdd, Nat.reduceLeDiff, reduceIte, reduceCtorEq, decide_true, decide_false, Nat.reduceSub, Int.reducePow, Int.reduceMul, Int.natCast_add, Int.cast_ofNat_Int, Int.natCast_zero, List.contains_nil, List.contains_cons, Nat.reduceBEq, Nat.reduceEqDiff, refr, ap1_eq, ap2_eq, apN_eq, ovr_eq, ovr2_eq, unpk_t, unpk_l, oSlA, oStpA, apP_eq, apF_eq, apL_eq, isScr_map]
  by_cases h0 : k < (ns.length : Int)
  · simp only [h0, hk, List.length_map, decide_true, if_true]
    have hl : k.toNat < ns.length := by omega
    rw [List.getElem?_map, List.getElem?_eq_getElem hl]
    exact hR _
  · simp only [h0, hk, List.length_map, decide_false]
    exact hR _

def b__law_box : FS := (fSeq (fAsg 2 (fCall [false, false] ph__law_cell_at (fCons (fVar 0) (fCons (fVar 1) fNil)))) (fRet (fOpN oLst (fCons (fOp2 oMulA (fOpN (at1 oAbs) (fCons (fVar 2) fNil)) (fOpN (at1 oToInt) (fCons (fOp2 oGe (fOpN (at1 oAbs) (fCons (fVar 2) fNil)) (fOp2 oPow (fC (.int 10)) (fC (.int 18)))) fNil))) (fCons (fOp2 oAdd (fOp2 oAdd (fOp2 oMod (fVar 2) (fC (.int 2305843009213693951))) (fOp2 oMulA (fC (.int 39373)) (fVar 1))) (fC (.int 17))) (fCons (fC (.int 0)) fNil))))))

def ph__law_box : Phi := fun args R => ∃ (ns : List Int) (k : Int), args = [sh (scrD ns), sh (.int k)] ∧ 0 ≤ k ∧ k < 1000 ∧ ∀ x, Bx 0 x → R x []
theorem vc__law_box (args R) (h : ph__law_box args R) : b__law_box (startE 3 args) (defK [false, false] R) := by
  obtain ⟨ns, k, rfl, hk, hk2, hR⟩ := h
  simp only [b__law_box]
  simp only [fSeq, fIfS, fTst, fOp1, fOp2, fOpN, fVar, fFz, fMv, fC, fAsg, fAsgO, fSetIx, fRet, fRetN, fNext, fDrop, fMth, fAug, fUnp, fPar, fNil, fCons, fBreak, fAnd, fOr, fNot, fAndV, fOrV, fNotV, fIf, fNoPart, fPart, fSl, fStp, fYes, startE, getC, sh, ow, okb_v, okb_b, Res.d_v, Res.d_b, flat, noB, dsOf, at1, at2, onOwn, isOwn, mAppend, ioC, defK, oGt, oLt, oGe, oLe, oSub, oAdd, oMulA, oMul, oDiv, oMod, oPow, oIx, oEq, oNe, oIsN, oNotN, oIsB, oNotB, oIn, oNotIn, oLst, oTup, oLen, oList, oTuple, oAbs, oToInt, oMax2, oMin2, oMax, oMin, oAll, oAny, oSorted, oIsi, oNeg, oSl, oStp, dInt0, dInt, dAdd, dMulA, dIx, dEq, dIsB, dNotB, dLen, dList, dTuple, dAbs, dToInt, dNeg, dSl, dStp, dB, atInt, dI, pick, pickI, pickC, ix, toEnv, gN, gT, gsNil, gsCons, setRes, fCall, fCallK, mkArgs, distinct, ioIx, putIos, permD, fLc, fSeqI, fRange1, fRange2, fEnum, fZip, overSeq, overEnum, overZip, away, wipeE, back, forGo, fFor, List.length_cons, List.length_nil, List.getElem?_cons_zero, List.getElem?_cons_succ, List.getElem?_nil, List.set_cons_zero, List.set_cons_succ, List.set_nil, List.map_cons, List.map_nil, List.cons_append, List.nil_append, List.replicate, List.getD_cons_zero, List.getD_cons_succ, List.getD_nil, List.any_cons, List.any_nil, true_and, and_true, Bool.false_eq_true, if_true, if_false, ite_true, ite_false, Nat.le_refl, Bool.or_false, Bool.false_or, Bool.or_true, Bool.true_or, Bool.not_true, Bool.not_false, Bool.and_true, Bool.true_and, Bool.and_self, ixN, Option.some.injEq, exists_eq_left, exists_eq_left', Int.reduceToNat, Int.reduceLE, Int.reduceLT, Int.reduceNeg, Int.reduceAdd, Int.reduceSub, Nat.reduceAdd, Nat.reduceLeDiff, reduceIte, reduceCtorEq, decide_true, decide_false, Nat.reduceSub, Int.reducePow, Int.reduceMul, Int.natCast_add, Int.cast_ofNat_Int, Int.natCast_zero, List.contains_nil, List.contains_cons, Nat.reduceBEq, Nat.reduceEqDiff, refr, ap1_eq, ap2_eq, apN_eq, ovr_eq, ovr2_eq, unpk_t, unpk_l, oSlA, oStpA, apP_eq, apF_eq, apL_eq, isScr_map]
  refine ⟨ns, k, rfl, hk, fun v => ?_⟩
  simp only [fSeq, fIfS, fTst, fOp1, fOp2, fOpN, fVar, fFz, fMv, fC, fAsg, fAsgO, fSetIx, fRet, fRetN, fNext, fDrop, fMth, fAug, fUnp, fPar, fNil, fCons, fBreak, fAnd, fOr, fNot, fAndV, fOrV, fNotV, fIf, fNoPart, fPart, fSl, fStp, fYes, startE, getC, sh, ow, okb_v, okb_b, Res.d_v, Res.d_b, flat, noB, dsOf, at1, at2, onOwn, isOwn, mAppend, ioC, defK, oGt, oLt, oGe, oLe, oSub, oAdd, oMulA, oMul, oDiv, oMod, oPow, oIx, oEq, oNe, oIsN, oNotN, oIsB, oNotB, oIn, oNotIn, oLst, oTup, oLen, oList, oTuple, oAbs, oToInt, oMax2, oMin2, oMax, oMin, oAll, oAny, oSorted, oIsi, oNeg, oSl, oStp, dInt0, dInt, dAdd, dMulA, dIx, dEq, dIsB, dNotB, dLen, dList, dTuple, dAbs, dToInt, dNeg, dSl, dStp, dB, atInt, dI, pick, pickI, pickC, ix, toEnv, gN, gT, gsNil, gsCons, setRes, fCall, fCallK, mkArgs, distinct, ioIx, putIos, permD, fLc, fSeqI, fRange1, fRange2, fEnum, fZip, overSeq, overEnum, overZip, away, wipeE, back, forGo, fFor, List.length_cons, List.length_nil, List.getElem?_cons_zero, List.getElem?_cons_succ, List.getElem?_nil, List.set_cons_zero, List.set_cons_succ, List.set_nil, List.map_cons, List.map_nil, List.cons_append, List.nil_append, List.replicate, List.getD_cons_zero, List.getD_cons_succ, List.getD_nil, List.any_cons, List.any_nil, true_and, and_true, Bool.false_eq_true, if_true, if_false, ite_true, ite_false, Nat.le_refl, Bool.or_false, Bool.false_or, Bool.or_true, Bool.true_or, Bool.not_true, Bool.not_false, Bool.and_true, Bool.true_and, Bool.and_self, ixN, Option.some.injEq, exists_eq_left, exists_eq_left', Int.reduceToNat, Int.reduceLE, Int.reduceLT, Int.reduceNeg, Int.reduceAdd, Int.reduceSub, Nat.reduceAdd, Nat.reduceLeDiff, reduceIte, reduceCtorEq, decide_true, decide_false, Nat.reduceSub, Int.reducePow, Int.reduceMul, Int.natCast_add, Int.cast_ofNat_Int, Int.natCast_zero, List.contains_nil, List.contains_cons, Nat.reduceBEq, Nat.reduceEqDiff, refr, ap1_eq, ap2_eq, apN_eq, ovr_eq, ovr2_eq, unpk_t, unpk_l, oSlA, oStpA, apP_eq, apF_eq, apL_eq, isScr_map]
  have h2 : ∀ b : Bool, 0 ≤ (if b = true then (1 : Int) else 0) ∧ (if b = true then (1 : Int) else 0) ≤ 1 := fun b => by cases b <;> decide
  obtain ⟨b1, b2⟩ := h2 (decide (1000000000000000000 ≤ (v.natAbs : Int)))
  have m0 := Int.emod_nonneg v (b := 2305843009213693951) (by decide)
  have m1 := Int.emod_lt_of_pos v (b := 2305843009213693951) (by decide)
  exact ⟨⟨by decide, by decide, by decide⟩, cmr (by omega) (by omega), cml (by decide) (by decide), by decide, hR _ ⟨_, _, _, rfl, Int.mul_nonneg (by omega) b1, by omega, by omega, by decide, by decide⟩⟩

def b__law_take : FS := (fSeq (fIfS (fTst (fOp2 oGt (fOp2 oIx (fVar 0) (fC (.int 0))) (fC (.int 0)))) (fSeq (fAsg 2 (fOp2 oMod (fOp2 oIx (fVar 0) (fC (.int 0))) (fVar 1))) (fSeq (fSetIx 0 (fOp2 oDiv (fOp2 oIx (fVar 0) (fC (.int 0))) (fVar 1)) (fC (.int 0))) (fRet (fVar 2)))) fNext) (fSeq (fSetIx 0 (fOp2 oAdd (fOp2 oIx (fVar 0) (fC (.int 2))) (fC (.int 1))) (fC (.int 2))) (fSeq (fAsg 3 (fOp2 oMod (fOp2 oMulA (fOp2 oAdd (fOp2 oIx (fVar 0) (fC (.int 1))) (fOp2 oMulA (fC (.int 48271)) (fOp2 oIx (fVar 0) (fC (.int 2))))) (fOp2 oAdd (fC (.int 39373)) (fOp2 oIx (fVar 0) (fC (.int 2))))) (fC (.int 2147483647)))) (fSeq (fAsg 4 (fOp2 oMod (fOp2 oMulA (fOp2 oAdd (fOp2 oAdd (fVar 3) (fOp2 oIx (fVar 0) (fC (.int 2)))) (fOp2 oDiv (fOp2 oIx (fVar 0) (fC (.int 1))) (fC (.int 1000003)))) (fOp2 oAdd (fOp2 oMod (fVar 3) (fC (.int 40009))) (fC (.int 7)))) (fC (.int 2147483629)))) (fRet (fOp2 oMod (fOp2 oDiv (fOp2 oMod (fOp2 oAdd (fOp2 oMulA (fVar 4) (fC (.int 48271))) (fVar 3)) (fC (.int 2147483587))) (fC (.int 64))) (fVar 1)))))))

def ph__law_take : Phi := fun args R => match args with
  | [x, ⟨0, .int s⟩] => ∃ n, Bx n x ∧ n < 2 ^ 60 ∧ 0 < s ∧ s < 2 ^ 62 ∧ ∀ t x', 0 ≤ t → t < s → Bx (n + 1) x' → R (sh (.int t)) [x']
  | _ => False
theorem vc__law_take (args R) (h : ph__law_take args R) : b__law_take (startE 5 args) (defK [true, false] R) := by
  unfold ph__law_take at h
  split at h
  · obtain ⟨n, ⟨a, b, c, rfl, ha, hb, hb2, hc, hcn⟩, hn, hs, hs2, hR⟩ := h
    rename_i s
    simp only [b__law_take, bx]
    simp only [fSeq, fIfS, fTst, fOp1, fOp2, fOpN, fVar, fFz, fMv, fC, fAsg, fAsgO, fSetIx, fRet, fRetN, fNext, fDrop, fMth, fAug, fUnp, fPar, fNil, fCons, fBreak, fAnd, fOr, fNot, fAndV, fOrV, fNotV, fIf, fNoPart, fPart, fSl, fStp, fYes, startE, getC, sh, ow, okb_v, okb_b, Res.d_v, Res.d_b, flat, noB, dsOf, at1, at2, onOwn, isOwn, mAppend, ioC, defK, oGt, oLt, oGe, oLe, oSub, oAdd, oMulA, oMul, oDiv, oMod, oPow, oIx, oEq, oNe, oIsN, oNotN, oIsB, oNotB, oIn, oNotIn, oLst, oTup, oLen, oList, oTuple, oAbs, oToInt, oMax2, oMin2, oMax, oMin, oAll, oAny, oSorted, oIsi, oNeg, oSl, oStp, dInt0, dInt, dAdd, dMulA, dIx, dEq, dIsB, dNotB, dLen, dList, dTuple, dAbs, dToInt, dNeg, dSl, dStp, dB, atInt, dI, pick, pickI, pickC, ix, toEnv, gN, gT, gsNil, gsCons, setRes, fCall, fCallK, mkArgs, distinct, ioIx, putIos, permD, fLc, fSeqI, fRange1, fRange2, fEnum, fZip, overSeq, overEnum, overZip, away, wipeE, back, forGo, fFor, List.length_cons, List.length_nil, List.getElem?_cons_zero, List.getElem?_cons_succ, List.getElem?_nil, List.set_cons_zero, List.set_cons_succ, List.set_nil, List.map_cons, List.map_nil, List.cons_append, List.nil_append, List.replicate, List.getD_cons_zero, List.getD_cons_succ, List.getD_nil, List.any_cons, List.any_nil, true_and, and_true, Bool.false_eq_true, if_true, if_false, ite_true, ite_false, Nat.le_refl, Bool.or_false, Bool.false_or, Bool.or_true, Bool.true_or, Bool.not_true, Bool.not_false, Bool.and_true, Bool.true_and, Bool.and_self, ixN, Option.some.injEq, exists_eq_left, exists_eq_left', Int.reduceToNat, Int.reduceLE, Int.reduceLT, Int.reduceNeg, Int.reduceAdd, Int.reduceSub, Nat.reduceAdd, Nat.reduceLeDiff, reduceIte, reduceCtorEq, decide_true, decide_false, Nat.reduceSub, Int.reducePow, Int.reduceMul, Int.natCast_add, Int.cast_ofNat_Int, Int.natCast_zero, List.contains_nil, List.contains_cons, Nat.reduceBEq, Nat.reduceEqDiff, refr, ap1_eq, ap2_eq, apN_eq, ovr_eq, ovr2_eq, unpk_t, unpk_l, oSlA, oStpA, apP_eq, apF_eq, apL_eq, isScr_map]
    by_cases h0 : 0 < a
    · simp only [h0, decide_true]
      refine ⟨hs, cdv hs hs2, hR _ _ (Int.emod_nonneg _ (by omega)) (Int.emod_lt_of_pos _ hs) ⟨_, _, _, rfl, Int.ediv_nonneg ha (by omega), hb, hb2, hc, by omega⟩⟩
    · simp only [h0, decide_false]
      refine ⟨cml (by omega) (by omega), cmr (by omega) (by omega), cdv (by omega) (by omega), cmr (by omega) (by omega), cmr (by omega) (by omega), cdv (by omega) (by omega), hs, hR _ _ (Int.emod_nonneg _ (by omega)) (Int.emod_lt_of_pos _ hs) ⟨_, _, _, rfl, ha, hb, hb2, by omega, by omega⟩⟩
  · exact h.elim
-- CALLS
-- CALL call__law_take dhhh | t x' ht0 ht1 hx'
theorem call__law_take {m : Nat} {x : Cell} {s : Int} {R : Cell → List Cell → Prop} (hx : Bk m x) (h1 : Hold (1 ≤ m)) (h2 : Hold (0 < s)) (h3 : Hold (s < 2 ^ 62)) (q : ∀ t x', 0 ≤ t → t < s → Bk (m - 1) (ow x') → R (sh (.int t)) [ow x']) : ph__law_take [x, ⟨0, .int s⟩] R := by
  obtain ⟨n, a, b⟩ := hx.get
  have h1' := h1.out
  exact ⟨n, a, by omega, h2.out, h3.out, fun t x' a1 a2 a3 => by
    obtain ⟨d, rfl⟩ := a3.ex
    exact q t d a1 a2 (.of a3 (by omega))⟩

def b__law_of : FS := (fRet (fOp2 oIx (fVar 1) (fCall [true, false] ph__law_take (fCons (fVar 0) (fCons (fOpN (at1 oLen) (fCons (fVar 1) fNil)) fNil)))))

def ph__law_of : Phi := fun args R => ∃ (n : Nat) (x : Cell) (d : D) (ds : List D), args = [x, ⟨0, d⟩] ∧ (d = .list ds ∨ d = .tuple ds) ∧ Bx n x ∧ n < 2 ^ 60 ∧ 0 < ds.length ∧ ds.length < 2 ^ 62 ∧ ∀ e x', e ∈ ds → Bx (n + 1) x' → R (sh e) [x']
theorem vc__law_of (args R) (h : ph__law_of args R) : b__law_of (startE 2 args) (defK [true, false] R) := by
  obtain ⟨n, x, d, ds, rfl, hd, hx, hn, h0, h1, hR⟩ := h
  obtain ⟨xd, rfl⟩ := hx.ex
  have hl : ((ds.length : Nat) : Int) = (ds.length : Int) := rfl
  rcases hd with rfl | rfl
  all_goals
    simp only [b__law_of]
    simp only [fSeq, fIfS, fTst, fOp1, fOp2, fOpN, fVar, fFz, fMv, fC, fAsg, fAsgO, fSetIx, fRet, fRetN, fNext, fDrop, fMth, fAug, fUnp, fPar, fNil, fCons, fBreak, fAnd, fOr, fNot, fAndV, fOrV, fNotV, fIf, fNoPart, fPart, fSl, fStp, fYes, startE, getC, sh, ow, okb_v, okb_b, Res.d_v, Res.d_b, flat, noB, dsOf, at1, at2, onOwn, isOwn, mAppend, ioC, defK, oGt, oLt, oGe, oLe, oSub, oAdd, oMulA, oMul, oDiv, oMod, oPow, oIx, oEq, oNe, oIsN, oNotN, oIsB, oNotB, oIn, oNotIn, oLst, oTup, oLen, oList, oTuple, oAbs, oToInt, oMax2, oMin2, oMax, oMin, oAll, oAny, oSorted, oIsi, oNeg, oSl, oStp, dInt0, dInt, dAdd, dMulA, dIx, dEq, dIsB, dNotB, dLen, dList, dTuple, dAbs, dToInt, dNeg, dSl, dStp, dB, atInt, dI, pick, pickI, pickC, ix, toEnv, gN, gT, gsNil, gsCons, setRes, fCall, fCallK, mkArgs, distinct, ioIx, putIos, permD, fLc, fSeqI, fRange1, fRange2, fEnum, fZip, overSeq, overEnum, overZip, away, wipeE, back, forGo, fFor, List.length_cons, List.length_nil, List.getElem?_cons_zero, List.getElem?_cons_succ, List.getElem?_nil, List.set_cons_zero, List.set_cons_succ, List.set_nil, List.map_cons, List.map_nil, List.cons_append, List.nil_append, List.replicate, List.getD_cons_zero, List.getD_cons_succ, List.getD_nil, List.any_cons, List.any_nil, true_and, and_true, Bool.false_eq_true, if_true, if_false, ite_true, ite_false, Nat.le_refl, Bool.or_false, Bool.false_or, Bool.or_true, Bool.true_or, Bool.not_true, Bool.not_false, Bool.and_true, Bool.true_and, Bool.and_self, ixN, Option.some.injEq, exists_eq_left, exists_eq_left', Int.reduceToNat, Int.reduceLE, Int.reduceLT, Int.reduceNeg, Int.reduceAdd, Int.reduceSub, Nat.reduceAdd, Nat.reduceLeDiff, reduceIte, reduceCtorEq, decide_true, decide_false, Nat.reduceSub, Int.reducePow, Int.reduceMul, Int.natCast_add, Int.cast_ofNat_Int, Int.natCast_zero, List.contains_nil, List.contains_cons, Nat.reduceBEq, Nat.reduceEqDiff, refr, ap1_eq, ap2_eq, apN_eq, ovr_eq, ovr2_eq, unpk_t, unpk_l, oSlA, oStpA, apP_eq, apF_eq, apL_eq, isScr_map]
    refine ⟨n, hx, hn, by omega, by omega, fun t x' t0 t1 hx' => ?_⟩
    obtain ⟨xd', rfl⟩ := hx'.ex
    simp only [fSeq, fIfS, fTst, fOp1, fOp2, fOpN, fVar, fFz, fMv, fC, fAsg, fAsgO, fSetIx, fRet, fRetN, fNext, fDrop, fMth, fAug, fUnp, fPar, fNil, fCons, fBreak, fAnd, fOr, fNot, fAndV, fOrV, fNotV, fIf, fNoPart, fPart, fSl, fStp, fYes, startE, getC, sh, ow, okb_v, okb_b, Res.d_v, Res.d_b, flat, noB, dsOf, at1, at2, onOwn, isOwn, mAppend, ioC, defK, oGt, oLt, oGe, oLe, oSub, oAdd, oMulA, oMul, oDiv, oMod, oPow, oIx, oEq, oNe, oIsN, oNotN, oIsB, oNotB, oIn, oNotIn, oLst, oTup, oLen, oList, oTuple, oAbs, oToInt, oMax2, oMin2, oMax, oMin, oAll, oAny, oSorted, oIsi, oNeg, oSl, oStp, dInt0, dInt, dAdd, dMulA, dIx, dEq, dIsB, dNotB, dLen, dList, dTuple, dAbs, dToInt, dNeg, dSl, dStp, dB, atInt, dI, pick, pickI, pickC, ix, toEnv, gN, gT, gsNil, gsCons, setRes, fCall, fCallK, mkArgs, distinct, ioIx, putIos, permD, fLc, fSeqI, fRange1, fRange2, fEnum, fZip, overSeq, overEnum, overZip, away, wipeE, back, forGo, fFor, List.length_cons, List.length_nil, List.getElem?_cons_zero, List.getElem?_cons_succ, List.getElem?_nil, List.set_cons_zero, List.set_cons_succ, List.set_nil, List.map_cons, List.map_nil, List.cons_append, List.nil_append, List.replicate, List.getD_cons_zero, List.getD_cons_succ, List.getD_nil, List.any_cons, List.any_nil, true_and, and_true, Bool.false_eq_true, if_true, if_false, ite_true, ite_false, Nat.le_refl, Bool.or_false, Bool.false_or, Bool.or_true, Bool.true_or, Bool.not_true, Bool.not_false, Bool.and_true, Bool.true_and, Bool.and_self, ixN, Option.some.injEq, exists_eq_left, exists_eq_left', Int.reduceToNat, Int.reduceLE, Int.reduceLT, Int.reduceNeg, Int.reduceAdd, Int.reduceSub, Nat.reduceAdd, Nat.reduceLeDiff, reduceIte, reduceCtorEq, decide_true, decide_false, Nat.reduceSub, Int.reducePow, Int.reduceMul, Int.natCast_add, Int.cast_ofNat_Int, Int.natCast_zero, List.contains_nil, List.contains_cons, Nat.reduceBEq, Nat.reduceEqDiff, refr, ap1_eq, ap2_eq, apN_eq, ovr_eq, ovr2_eq, unpk_t, unpk_l, oSlA, oStpA, apP_eq, apF_eq, apL_eq, isScr_map]
    have ht : t.toNat < ds.length := by omega
    simp only [t0, if_true]
    rw [List.getElem?_eq_getElem ht]
    exact hR _ _ (List.getElem_mem ht) hx'
-- CALLS
-- CALL call__law_ofS edh | b x' hx'
-- CALL call__law_of ddhhh | i x' hi hx'
-- CALL call__law_ofM ddhhh | y x' hy hx'
theorem call__law_ofE {m : Nat} {x : Cell} {d : D} {ds : List D} {R : Cell → List Cell → Prop} (hd : Sq d ds) (hx : Bk m x) (h1 : Hold (1 ≤ m)) (h2 : Hold (0 < ds.length)) (h3 : Hold (ds.length < 2 ^ 62)) (q : ∀ e x', e ∈ ds → Bk (m - 1) (ow x') → R (sh e) [ow x']) : ph__law_of [x, ⟨0, d⟩] R := by
  obtain ⟨n, a, b⟩ := hx.get
  have h1' := h1.out
  exact ⟨n, x, d, ds, rfl, hd, a, by omega, h2.out, h3.out, fun e x' a1 a3 => by
    obtain ⟨d, rfl⟩ := a3.ex
    exact q e d a1 (.of a3 (by omega))⟩
theorem call__law_ofM {α : Type} {inj : α → D} {xs : List α} {m : Nat} {x : Cell} {d : D} {R : Cell → List Cell → Prop} (hd : Sq d (xs.map inj)) (hx : Bk m x) (h1 : Hold (1 ≤ m)) (h2 : Hold (0 < xs.length)) (h3 : Hold (xs.length < 2 ^ 62)) (q : ∀ y x', y ∈ xs → Bk (m - 1) (ow x') → R (sh (inj y)) [ow x']) : ph__law_of [x, ⟨0, d⟩] R :=
  call__law_ofE hd hx h1 (.mk (by rw [List.length_map]; exact h2.out)) (.mk (by rw [List.length_map]; exact h3.out)) fun e x' he hx' => by
    obtain ⟨y, hy, rfl⟩ := List.mem_map.mp he
    exact q y x' hy hx'
theorem call__law_of {xs : List Int} {m : Nat} {x : Cell} {d : D} {R : Cell → List Cell → Prop} (hd : Ints d xs) (hx : Bk m x) (h1 : Hold (1 ≤ m)) (h2 : Hold (0 < xs.length)) (h3 : Hold (xs.length < 2 ^ 62)) (q : ∀ i x', i ∈ xs → Bk (m - 1) (ow x') → R (sh (.int i)) [ow x']) : ph__law_of [x, ⟨0, d⟩] R := call__law_ofM (inj := .int) hd hx h1 h2 h3 q
theorem call__law_ofS {m : Nat} {x : Cell} {d : D} {R : Cell → List Cell → Prop} (hd : d = .list [.str "left", .str "right"]) (hx : Bk m x) (h1 : Hold (1 ≤ m)) (q : ∀ b x', Bk (m - 1) (ow x') → R (sh (.str (sideS b))) [ow x']) : ph__law_of [x, ⟨0, d⟩] R :=
  call__law_ofE (.inl hd) hx h1 (.mk (by decide)) (.mk (by decide)) fun e x' he hx' => by
    rcases List.mem_cons.mp he with rfl | he
    · exact q false x' hx'
    · rw [List.mem_singleton.mp he]; exact q true x' hx'

def b__law_strewn : FS := (fSeq (fPar [2, 3] [true, true] (fCons (fOpN (at1 oList) (fCons (fVar 1) fNil)) (fCons (fOpN oLst fNil) fNil))) (fSeq (fWhile (fTst (fOp2 oNe (fVar 2) (fOpN oLst fNil))) (fDrop (fMth 3 mAppend (fCons (fMth 2 mPopAt (fCons (fCall [true, false] ph__law_take (fCons (fVar 0) (fCons (fOpN (at1 oLen) (fCons (fVar 2) fNil)) fNil))) fNil)) fNil)))) (fRet (fMv 3))))

def ph__law_strewn : Phi := fun args R => ∃ (n : Nat) (x : Cell) (d : D) (ds : List D), args = [x, ⟨0, d⟩] ∧ (d = .list ds ∨ d = .tuple ds) ∧ Bx n x ∧ n + ds.length < 2 ^ 60 ∧ ds.length ≤ 2 ^ 20 ∧ (∀ e ∈ ds, dep 60 e = true) ∧ ∀ es x', es.Perm ds → Bx (n + ds.length) x' → R ⟨1, .list es⟩ [x']
theorem strewn_go {N : Nat} {d : D} {ds : List D} {k : Kt} (hN : N + ds.length < 2 ^ 60) (hl : ds.length ≤ 2 ^ 20) (hd : ∀ e ∈ ds, dep 60 e = true) (hk : ∀ es x', es.Perm ds → Bx (N + ds.length) x' → k.nx [some x', some (sh d), some (ow (.list [])), some (ow (.list es))]) :
    ∀ (m : Nat) (left acc : List D) (x : Cell), left.length = m → (left ++ acc).Perm ds → Bx (N + acc.length) x →
    whGo (fTst (fOp2 oNe (fVar 2) (fOpN oLst fNil))) (fDrop (fMth 3 mAppend (fCons (fMth 2 mPopAt (fCons (fCall [true, false] ph__law_take (fCons (fVar 0) (fCons (fOpN (at1 oLen) (fCons (fVar 2) fNil)) fNil))) fNil)) fNil))) k (m + 1) [some x, some (sh d), some (ow (.list left)), some (ow (.list acc))] := by
  intro m
  induction m with
  | zero =>
    intro left acc x hm hp hx
    have e : left = [] := List.eq_nil_of_length_eq_zero hm
    subst e
    rw [List.nil_append] at hp
    have := hp.length_eq
    simp only [whGo]
    simp only [fSeq, fIfS, fTst, fOp1, fOp2, fOpN, fVar, fFz, fMv, fC, fAsg, fAsgO, fSetIx, fRet, fRetN, fNext, fDrop, fMth, fAug, fUnp, fPar, fNil, fCons, fBreak, fAnd, fOr, fNot, fAndV, fOrV, fNotV, fIf, fNoPart, fPart, fSl, fStp, fYes, startE, getC, sh, ow, okb_v, okb_b, Res.d_v, Res.d_b, flat, noB, dsOf, at1, at2, onOwn, isOwn, mAppend, ioC, defK, oGt, oLt, oGe, oLe, oSub, oAdd, oMulA, oMul, oDiv, oMod, oPow, oIx, oEq, oNe, oIsN, oNotN, oIsB, oNotB, oIn, oNotIn, oLst, oTup, oLen, oList, oTuple, oAbs, oToInt, oMax2, oMin2, oMax, oMin, oAll, oAny, oSorted, oIsi, oNeg, oSl, oStp, dInt0, dInt, dAdd, dMulA, dIx, dEq, dIsB, dNotB, dLen, dList, dTuple, dAbs, dToInt, dNeg, dSl, dStp, dB, atInt, dI, pick, pickI, pickC, ix, toEnv, gN, gT, gsNil, gsCons, setRes, fCall, fCallK, mkArgs, distinct, ioIx, putIos, permD, fLc, fSeqI, fRange1, fRange2, fEnum, fZip, overSeq, overEnum, overZip, away, wipeE, back, forGo, fFor, List.length_cons, List.length_nil, List.getElem?_cons_zero, List.getElem?_cons_succ, List.getElem?_nil, List.set_cons_zero, List.set_cons_succ, List.set_nil, List.map_cons, List.map_nil, List.cons_append, List.nil_append, List.replicate, List.getD_cons_zero, List.getD_cons_succ, List.getD_nil, List.any_cons, List.any_nil, true_and, and_true, Bool.false_eq_true, if_true, if_false, ite_true, ite_false, Nat.le_refl, Bool.or_false, Bool.false_or, Bool.or_true, Bool.true_or, Bool.not_true, Bool.not_false, Bool.and_true, Bool.true_and, Bool.and_self, ixN, Option.some.injEq, exists_eq_left, exists_eq_left', Int.reduceToNat, Int.reduceLE, Int.reduceLT, Int.reduceNeg, Int.reduceAdd, Int.reduceSub, Nat.reduceAdd, Nat.reduceLeDiff, reduceIte, reduceCtorEq, decide_true, decide_false, Nat.reduceSub, Int.reducePow, Int.reduceMul, Int.natCast_add, Int.cast_ofNat_Int, Int.natCast_zero, List.contains_nil, List.contains_cons, Nat.reduceBEq, Nat.reduceEqDiff, refr, ap1_eq, ap2_eq, apN_eq, ovr_eq, ovr2_eq, unpk_t, unpk_l, oSlA, oStpA, apP_eq, apF_eq, apL_eq, isScr_map]
    refine ⟨Nat.zero_le _, by decide, by decide, ?_⟩
    show k.nx _
    exact hk acc x hp (by rw [← this]; exact hx)
  | succ m ih =>
    intro left acc x hm hp hx
    obtain ⟨xd, rfl⟩ := hx.ex
    have hll := hp.length_eq
    rw [List.length_append] at hll
    have hs : shp (.list left) := dep_shp (n := 61) (List.all_eq_true.mpr fun e he => hd e (hp.subset (List.mem_append_left _ he))) (by decide)
    have hz : (2 : Nat) ^ 20 < sizeLine := by decide
    match left, hm with
    | a :: left, hm =>
      have hlc : (a :: left).length = left.length + 1 := rfl
      have hne : PyData.eqv (.list (a :: left)) (.list []) = false := rfl
      rw [whGo]
      simp only [fSeq, fIfS, fTst, fOp1, fOp2, fOpN, fVar, fFz, fMv, fC, fAsg, fAsgO, fSetIx, fRet, fRetN, fNext, fDrop, fMth, fAug, fUnp, fPar, fNil, fCons, fBreak, fAnd, fOr, fNot, fAndV, fOrV, fNotV, fIf, fNoPart, fPart, fSl, fStp, fYes, startE, getC, sh, ow, okb_v, okb_b, Res.d_v, Res.d_b, flat, noB, dsOf, at1, at2, onOwn, isOwn, mAppend, ioC, defK, oGt, oLt, oGe, oLe, oSub, oAdd, oMulA, oMul, oDiv, oMod, oPow, oIx, oEq, oNe, oIsN, oNotN, oIsB, oNotB, oIn, oNotIn, oLst, oTup, oLen, oList, oTuple, oAbs, oToInt, oMax2, oMin2, oMax, oMin, oAll, oAny, oSorted, oIsi, oNeg, oSl, oStp, dInt0, dInt, dAdd, dMulA, dIx, dEq, dIsB, dNotB, dLen, dList, dTuple, dAbs, dToInt, dNeg, dSl, dStp, dB, atInt, dI, pick, pickI, pickC, ix, toEnv, gN, gT, gsNil, gsCons, setRes, fCall, fCallK, mkArgs, distinct, ioIx, putIos, permD, fLc, fSeqI, fRange1, fRange2, fEnum, fZip, overSeq, overEnum, overZip, away, wipeE, back, forGo, fFor, List.length_cons, List.length_nil, List.getElem?_cons_zero, List.getElem?_cons_succ, List.getElem?_nil, List.set_cons_zero, List.set_cons_succ, List.set_nil, List.map_cons, List.map_nil, List.cons_append, List.nil_append, List.replicate, List.getD_cons_zero, List.getD_cons_succ, List.getD_nil, List.any_cons, List.any_nil, true_and, and_true, Bool.false_eq_true, if_true, if_false, ite_true, ite_false, Nat.le_refl, Bool.or_false, Bool.false_or, Bool.or_true, Bool.true_or, Bool.not_true, Bool.not_false, Bool.and_true, Bool.true_and, Bool.and_self, ixN, Option.some.injEq, exists_eq_left, exists_eq_left', Int.reduceToNat, Int.reduceLE, Int.reduceLT, Int.reduceNeg, Int.reduceAdd, Int.reduceSub, Nat.reduceAdd, Nat.reduceLeDiff, reduceIte, reduceCtorEq, decide_true, decide_false, Nat.reduceSub, Int.reducePow, Int.reduceMul, Int.natCast_add, Int.cast_ofNat_Int, Int.natCast_zero, List.contains_nil, List.contains_cons, Nat.reduceBEq, Nat.reduceEqDiff, refr, ap1_eq, ap2_eq, apN_eq, ovr_eq, ovr2_eq, unpk_t, unpk_l, oSlA, oStpA, apP_eq, apF_eq, apL_eq, isScr_map]
      refine ⟨Nat.zero_le _, hs, by decide, ?_⟩
      rw [hne]
      simp only [fSeq, fIfS, fTst, fOp1, fOp2, fOpN, fVar, fFz, fMv, fC, fAsg, fAsgO, fSetIx, fRet, fRetN, fNext, fDrop, fMth, fAug, fUnp, fPar, fNil, fCons, fBreak, fAnd, fOr, fNot, fAndV, fOrV, fNotV, fIf, fNoPart, fPart, fSl, fStp, fYes, startE, getC, sh, ow, okb_v, okb_b, Res.d_v, Res.d_b, flat, noB, dsOf, at1, at2, onOwn, isOwn, mAppend, ioC, defK, oGt, oLt, oGe, oLe, oSub, oAdd, oMulA, oMul, oDiv, oMod, oPow, oIx, oEq, oNe, oIsN, oNotN, oIsB, oNotB, oIn, oNotIn, oLst, oTup, oLen, oList, oTuple, oAbs, oToInt, oMax2, oMin2, oMax, oMin, oAll, oAny, oSorted, oIsi, oNeg, oSl, oStp, dInt0, dInt, dAdd, dMulA, dIx, dEq, dIsB, dNotB, dLen, dList, dTuple, dAbs, dToInt, dNeg, dSl, dStp, dB, atInt, dI, pick, pickI, pickC, ix, toEnv, gN, gT, gsNil, gsCons, setRes, fCall, fCallK, mkArgs, distinct, ioIx, putIos, permD, fLc, fSeqI, fRange1, fRange2, fEnum, fZip, overSeq, overEnum, overZip, away, wipeE, back, forGo, fFor, List.length_cons, List.length_nil, List.getElem?_cons_zero, List.getElem?_cons_succ, List.getElem?_nil, List.set_cons_zero, List.set_cons_succ, List.set_nil, List.map_cons, List.map_nil, List.cons_append, List.nil_append, List.replicate, List.getD_cons_zero, List.getD_cons_succ, List.getD_nil, List.any_cons, List.any_nil, true_and, and_true, Bool.false_eq_true, if_true, if_false, ite_true, ite_false, Nat.le_refl, Bool.or_false, Bool.false_or, Bool.or_true, Bool.true_or, Bool.not_true, Bool.not_false, Bool.and_true, Bool.true_and, Bool.and_self, ixN, Option.some.injEq, exists_eq_left, exists_eq_left', Int.reduceToNat, Int.reduceLE, Int.reduceLT, Int.reduceNeg, Int.reduceAdd, Int.reduceSub, Nat.reduceAdd, Nat.reduceLeDiff, reduceIte, reduceCtorEq, decide_true, decide_false, Nat.reduceSub, Int.reducePow, Int.reduceMul, Int.natCast_add, Int.cast_ofNat_Int, Int.natCast_zero, List.contains_nil, List.contains_cons, Nat.reduceBEq, Nat.reduceEqDiff, refr, ap1_eq, ap2_eq, apN_eq, ovr_eq, ovr2_eq, unpk_t, unpk_l, oSlA, oStpA, apP_eq, apF_eq, apL_eq, isScr_map]
      refine ⟨N + acc.length, hx, by omega, by omega, by omega, fun t x' t0 t1 hx' => ?_⟩
      obtain ⟨xd', rfl⟩ := hx'.ex
      have ht : t.toNat < (a :: left).length := by rw [List.length_cons]; omega
      simp only [mPopAt]
      simp only [fSeq, fIfS, fTst, fOp1, fOp2, fOpN, fVar, fFz, fMv, fC, fAsg, fAsgO, fSetIx, fRet, fRetN, fNext, fDrop, fMth, fAug, fUnp, fPar, fNil, fCons, fBreak, fAnd, fOr, fNot, fAndV, fOrV, fNotV, fIf, fNoPart, fPart, fSl, fStp, fYes, startE, getC, sh, ow, okb_v, okb_b, Res.d_v, Res.d_b, flat, noB, dsOf, at1, at2, onOwn, isOwn, mAppend, ioC, defK, oGt, oLt, oGe, oLe, oSub, oAdd, oMulA, oMul, oDiv, oMod, oPow, oIx, oEq, oNe, oIsN, oNotN, oIsB, oNotB, oIn, oNotIn, oLst, oTup, oLen, oList, oTuple, oAbs, oToInt, oMax2, oMin2, oMax, oMin, oAll, oAny, oSorted, oIsi, oNeg, oSl, oStp, dInt0, dInt, dAdd, dMulA, dIx, dEq, dIsB, dNotB, dLen, dList, dTuple, dAbs, dToInt, dNeg, dSl, dStp, dB, atInt, dI, pick, pickI, pickC, ix, toEnv, gN, gT, gsNil, gsCons, setRes, fCall, fCallK, mkArgs, distinct, ioIx, putIos, permD, fLc, fSeqI, fRange1, fRange2, fEnum, fZip, overSeq, overEnum, overZip, away, wipeE, back, forGo, fFor, List.length_cons, List.length_nil, List.getElem?_cons_zero, List.getElem?_cons_succ, List.getElem?_nil, List.set_cons_zero, List.set_cons_succ, List.set_nil, List.map_cons, List.map_nil, List.cons_append, List.nil_append, List.replicate, List.getD_cons_zero, List.getD_cons_succ, List.getD_nil, List.any_cons, List.any_nil, true_and, and_true, Bool.false_eq_true, if_true, if_false, ite_true, ite_false, Nat.le_refl, Bool.or_false, Bool.false_or, Bool.or_true, Bool.true_or, Bool.not_true, Bool.not_false, Bool.and_true, Bool.true_and, Bool.and_self, ixN, Option.some.injEq, exists_eq_left, exists_eq_left', Int.reduceToNat, Int.reduceLE, Int.reduceLT, Int.reduceNeg, Int.reduceAdd, Int.reduceSub, Nat.reduceAdd, Nat.reduceLeDiff, reduceIte, reduceCtorEq, decide_true, decide_false, Nat.reduceSub, Int.reducePow, Int.reduceMul, Int.natCast_add, Int.cast_ofNat_Int, Int.natCast_zero, List.contains_nil, List.contains_cons, Nat.reduceBEq, Nat.reduceEqDiff, refr, ap1_eq, ap2_eq, apN_eq, ovr_eq, ovr2_eq, unpk_t, unpk_l, oSlA, oStpA, apP_eq, apF_eq, apL_eq, isScr_map]
      refine ⟨t.toNat, (a :: left)[t.toNat], six t0 t1, List.getElem?_eq_getElem ht, by omega, by omega, ?_⟩
      refine ih _ _ _ ?_ ?_ ?_
      · rw [List.length_eraseIdx_of_lt ht]; rw [List.length_cons] at hm ⊢; omega
      · refine List.Perm.trans ?_ hp
        have p1 : ((a :: left)[t.toNat] :: (a :: left).eraseIdx t.toNat).Perm (a :: left) := pop_perm _ _ _ (List.getElem?_eq_getElem ht)
        refine List.Perm.trans ?_ (p1.append_right acc)
        rw [← List.append_assoc]
        exact (List.perm_append_singleton _ _)
      · rw [List.length_append]; exact hx'
theorem vc__law_strewn (args R) (h : ph__law_strewn args R) : b__law_strewn (startE 4 args) (defK [true, false] R) := by
  obtain ⟨n, x, d, ds, rfl, hd, hx, hn, hl, hdep, hR⟩ := h
  have hz : (2 : Nat) ^ 20 < sizeLine := by decide
  obtain ⟨xd, rfl⟩ := hx.ex
  rcases hd with rfl | rfl
  all_goals
    simp only [b__law_strewn]
    simp only [fSeq, fIfS, fTst, fOp1, fOp2, fOpN, fVar, fFz, fMv, fC, fAsg, fAsgO, fSetIx, fRet, fRetN, fNext, fDrop, fMth, fAug, fUnp, fPar, fNil, fCons, fBreak, fAnd, fOr, fNot, fAndV, fOrV, fNotV, fIf, fNoPart, fPart, fSl, fStp, fYes, startE, getC, sh, ow, okb_v, okb_b, Res.d_v, Res.d_b, flat, noB, dsOf, at1, at2, onOwn, isOwn, mAppend, ioC, defK, oGt, oLt, oGe, oLe, oSub, oAdd, oMulA, oMul, oDiv, oMod, oPow, oIx, oEq, oNe, oIsN, oNotN, oIsB, oNotB, oIn, oNotIn, oLst, oTup, oLen, oList, oTuple, oAbs, oToInt, oMax2, oMin2, oMax, oMin, oAll, oAny, oSorted, oIsi, oNeg, oSl, oStp, dInt0, dInt, dAdd, dMulA, dIx, dEq, dIsB, dNotB, dLen, dList, dTuple, dAbs, dToInt, dNeg, dSl, dStp, dB, atInt, dI, pick, pickI, pickC, ix, toEnv, gN, gT, gsNil, gsCons, setRes, fCall, fCallK, mkArgs, distinct, ioIx, putIos, permD, fLc, fSeqI, fRange1, fRange2, fEnum, fZip, overSeq, overEnum, overZip, away, wipeE, back, forGo, fFor, List.length_cons, List.length_nil, List.getElem?_cons_zero, List.getElem?_cons_succ, List.getElem?_nil, List.set_cons_zero, List.set_cons_succ, List.set_nil, List.map_cons, List.map_nil, List.cons_append, List.nil_append, List.replicate, List.getD_cons_zero, List.getD_cons_succ, List.getD_nil, List.any_cons, List.any_nil, true_and, and_true, Bool.false_eq_true, if_true, if_false, ite_true, ite_false, Nat.le_refl, Bool.or_false, Bool.false_or, Bool.or_true, Bool.true_or, Bool.not_true, Bool.not_false, Bool.and_true, Bool.true_and, Bool.and_self, ixN, Option.some.injEq, exists_eq_left, exists_eq_left', Int.reduceToNat, Int.reduceLE, Int.reduceLT, Int.reduceNeg, Int.reduceAdd, Int.reduceSub, Nat.reduceAdd, Nat.reduceLeDiff, reduceIte, reduceCtorEq, decide_true, decide_false, Nat.reduceSub, Int.reducePow, Int.reduceMul, Int.natCast_add, Int.cast_ofNat_Int, Int.natCast_zero, List.contains_nil, List.contains_cons, Nat.reduceBEq, Nat.reduceEqDiff, refr, ap1_eq, ap2_eq, apN_eq, ovr_eq, ovr2_eq, unpk_t, unpk_l, oSlA, oStpA, apP_eq, apF_eq, apL_eq, isScr_map]
    refine ⟨Nat.zero_le _, ds.length + 1, ?_⟩
    refine strewn_go hn hl hdep (fun es x' hp hx' => ?_) ds.length ds [] _ rfl (by rw [List.append_nil]) hx
    obtain ⟨xd', rfl⟩ := hx'.ex
    simp only [fSeq, fIfS, fTst, fOp1, fOp2, fOpN, fVar, fFz, fMv, fC, fAsg, fAsgO, fSetIx, fRet, fRetN, fNext, fDrop, fMth, fAug, fUnp, fPar, fNil, fCons, fBreak, fAnd, fOr, fNot, fAndV, fOrV, fNotV, fIf, fNoPart, fPart, fSl, fStp, fYes, startE, getC, sh, ow, okb_v, okb_b, Res.d_v, Res.d_b, flat, noB, dsOf, at1, at2, onOwn, isOwn, mAppend, ioC, defK, oGt, oLt, oGe, oLe, oSub, oAdd, oMulA, oMul, oDiv, oMod, oPow, oIx, oEq, oNe, oIsN, oNotN, oIsB, oNotB, oIn, oNotIn, oLst, oTup, oLen, oList, oTuple, oAbs, oToInt, oMax2, oMin2, oMax, oMin, oAll, oAny, oSorted, oIsi, oNeg, oSl, oStp, dInt0, dInt, dAdd, dMulA, dIx, dEq, dIsB, dNotB, dLen, dList, dTuple, dAbs, dToInt, dNeg, dSl, dStp, dB, atInt, dI, pick, pickI, pickC, ix, toEnv, gN, gT, gsNil, gsCons, setRes, fCall, fCallK, mkArgs, distinct, ioIx, putIos, permD, fLc, fSeqI, fRange1, fRange2, fEnum, fZip, overSeq, overEnum, overZip, away, wipeE, back, forGo, fFor, List.length_cons, List.length_nil, List.getElem?_cons_zero, List.getElem?_cons_succ, List.getElem?_nil, List.set_cons_zero, List.set_cons_succ, List.set_nil, List.map_cons, List.map_nil, List.cons_append, List.nil_append, List.replicate, List.getD_cons_zero, List.getD_cons_succ, List.getD_nil, List.any_cons, List.any_nil, true_and, and_true, Bool.false_eq_true, if_true, if_false, ite_true, ite_false, Nat.le_refl, Bool.or_false, Bool.false_or, Bool.or_true, Bool.true_or, Bool.not_true, Bool.not_false, Bool.and_true, Bool.true_and, Bool.and_self, ixN, Option.some.injEq, exists_eq_left, exists_eq_left', Int.reduceToNat, Int.reduceLE, Int.reduceLT, Int.reduceNeg, Int.reduceAdd, Int.reduceSub, Nat.reduceAdd, Nat.reduceLeDiff, reduceIte, reduceCtorEq, decide_true, decide_false, Nat.reduceSub, Int.reducePow, Int.reduceMul, Int.natCast_add, Int.cast_ofNat_Int, Int.natCast_zero, List.contains_nil, List.contains_cons, Nat.reduceBEq, Nat.reduceEqDiff, refr, ap1_eq, ap2_eq, apN_eq, ovr_eq, ovr2_eq, unpk_t, unpk_l, oSlA, oStpA, apP_eq, apF_eq, apL_eq, isScr_map]
    exact hR _ _ hp hx'
-- CALLS
-- CALL call__law_strewn ddhh | es x' hes hx'
-- CALL call__law_strewnM ddhhh | es x' hes hx'
theorem call__law_strewn {xs : List Int} {m : Nat} {x : Cell} {d : D} {R : Cell → List Cell → Prop} (hd : Ints d xs) (hx : Bk m x) (h1 : Hold (xs.length ≤ m)) (h2 : Hold (xs.length ≤ 2 ^ 20)) (q : ∀ es x', List.Perm es xs → Bk (m - xs.length) (ow x') → R ⟨1, .list (es.map .int)⟩ [ow x']) : ph__law_strewn [x, ⟨0, d⟩] R := by
  obtain ⟨n, a, b⟩ := hx.get
  have h1' := h1.out
  have hl : (xs.map PyData.int).length = xs.length := List.length_map _
  exact ⟨n, x, d, _, rfl, hd, a, by omega, by rw [hl]; exact h2.out, fun e he => (by obtain ⟨i, _, rfl⟩ := List.mem_map.mp he; rfl), fun es x' p a3 => by
    obtain ⟨d, rfl⟩ := a3.ex
    obtain ⟨us, p', rfl⟩ := perm_map p
    exact q us d p' (.of a3 (by omega))⟩
theorem call__law_strewnM {α : Type} {inj : α → D} {xs : List α} {m : Nat} {x : Cell} {d : D} {R : Cell → List Cell → Prop} (hd : Sq d (xs.map inj)) (hx : Bk m x) (h1 : Hold (xs.length ≤ m)) (h2 : Hold (xs.length ≤ 2 ^ 20)) (h3 : Hold (∀ x ∈ xs, dep 60 (inj x) = true)) (q : ∀ es x', List.Perm es xs → Bk (m - xs.length) (ow x') → R ⟨1, .list (es.map inj)⟩ [ow x']) : ph__law_strewn [x, ⟨0, d⟩] R := by
  obtain ⟨n, a, b⟩ := hx.get
  have h1' := h1.out
  have hl : (xs.map inj).length = xs.length := List.length_map _
  exact ⟨n, x, d, _, rfl, hd, a, by omega, by rw [hl]; exact h2.out, fun e he => (by obtain ⟨i, hi, rfl⟩ := List.mem_map.mp he; exact h3.out i hi), fun es x' p a3 => by
    obtain ⟨d, rfl⟩ := a3.ex
    obtain ⟨us, p', rfl⟩ := perm_map p
    exact q us d p' (.of a3 (by omega))⟩

local macro_rules | `(tactic| row_room_at pv_call__law_take) => `(tactic| (refine apP_op (call__law_take (by row_room_at pv_sd) ?_ ?_ ?_ (fun t x' ht0 ht1 hx' => ?_)); (first | (focus row_room_at pv_hs) | rotate_left); (first | (focus row_room_at pv_hs) | rotate_left); (first | (focus row_room_at pv_hs) | rotate_left)))
local macro_rules | `(tactic| row_room_at pv_call__law_ofS) => `(tactic| (refine apP_op (call__law_ofS rfl (by row_room_at pv_sd) ?_ (fun b x' hx' => ?_)); (first | (focus row_room_at pv_hs) | rotate_left)))
local macro_rules | `(tactic| row_room_at pv_call__law_of) => `(tactic| (refine apP_op (call__law_of (by row_room_at pv_sd) (by row_room_at pv_sd) ?_ ?_ ?_ (fun i x' hi hx' => ?_)); (first | (focus row_room_at pv_hs) | rotate_left); (first | (focus row_room_at pv_hs) | rotate_left); (first | (focus row_room_at pv_hs) | rotate_left)))
local macro_rules | `(tactic| row_room_at pv_call__law_ofM) => `(tactic| (refine apP_op (call__law_ofM (by row_room_at pv_sd) (by row_room_at pv_sd) ?_ ?_ ?_ (fun y x' hy hx' => ?_)); (first | (focus row_room_at pv_hs) | rotate_left); (first | (focus row_room_at pv_hs) | rotate_left); (first | (focus row_room_at pv_hs) | rotate_left)))
local macro_rules | `(tactic| row_room_at pv_call__law_strewn) => `(tactic| (refine apP_op (call__law_strewn (by row_room_at pv_sd) (by row_room_at pv_sd) ?_ ?_ (fun es x' hes hx' => ?_)); (first | (focus row_room_at pv_hs) | rotate_left); (first | (focus row_room_at pv_hs) | rotate_left)))
local macro_rules | `(tactic| row_room_at pv_call__law_strewnM) => `(tactic| (refine apP_op (call__law_strewnM (by row_room_at pv_sd) (by row_room_at pv_sd) ?_ ?_ ?_ (fun es x' hes hx' => ?_)); (first | (focus row_room_at pv_hs) | rotate_left); (first | (focus row_room_at pv_hs) | rotate_left); (first | (focus row_room_at pv_hs) | rotate_left)))
local macro_rules | `(tactic| row_room_at pv_st__law_wire) => `(tactic| ((try ((with_reducible show toEnv _ _); (first | refine toEnv_go rfl ?_ | refine toEnv_gT rfl rfl ?_); row_room_at pv_cl)); (try (conv => whnf)); first | ((with_reducible show _ ∧ _); row_room_at pv_and) | ((with_reducible show ap2 _ _ _ _); row_room_at pv_op2) | ((with_reducible show apN _ _ _); row_room_at pv_opN) | ((with_reducible show ap1 _ _ _); row_room_at pv_op1) | ((with_reducible show ovr _ _); row_room_at pv_ov) | ((with_reducible show ovr2 _ _ _); row_room_at pv_ov2) | ((with_reducible show apP _ _ _); row_room_at pv_cl; first | row_room_at pv_call__law_take | row_room_at pv_call__law_ofS | row_room_at pv_call__law_of | row_room_at pv_call__law_ofM | row_room_at pv_call__law_strewn | row_room_at pv_call__law_strewnM) | ((with_reducible show apP _ _ _); row_room_at pv_cl; (first | (rw [sd_l]; first | row_room_at pv_call__law_take | row_room_at pv_call__law_ofS | row_room_at pv_call__law_of | row_room_at pv_call__law_ofM | row_room_at pv_call__law_strewn | row_room_at pv_call__law_strewnM) | (rw [sd_r]; first | row_room_at pv_call__law_take | row_room_at pv_call__law_ofS | row_room_at pv_call__law_of | row_room_at pv_call__law_ofM | row_room_at pv_call__law_strewn | row_room_at pv_call__law_strewnM))) | row_room_at pv_late))
local macro_rules | `(tactic| row_room_at pv_go__law_wire) => `(tactic| (repeat' row_room_at pv_st__law_wire))
local macro_rules | `(tactic| row_room_at pv_gox__law_wire) => `(tactic| (repeat' ((try ((with_reducible show toEnv _ _); (first | refine toEnv_go rfl ?_ | refine toEnv_gT rfl rfl ?_); row_room_at pv_cl)); (try (conv => whnf)); first | ((with_reducible show _ ∧ _); row_room_at pv_and) | ((with_reducible show ap2 _ _ _ _); row_room_at pv_op2) | ((with_reducible show apN _ _ _); row_room_at pv_opN) | ((with_reducible show ap1 _ _ _); row_room_at pv_op1) | ((with_reducible show ovr _ _); row_room_at pv_ov) | ((with_reducible show ovr2 _ _ _); row_room_at pv_ov2) | ((with_reducible show apP _ _ _); row_room_at pv_cl; first | row_room_at pv_call__law_take | row_room_at pv_call__law_ofS | row_room_at pv_call__law_of | row_room_at pv_call__law_ofM | row_room_at pv_call__law_strewn | row_room_at pv_call__law_strewnM) | ((with_reducible show apP _ _ _); row_room_at pv_cl; (first | (rw [sd_l]; first | row_room_at pv_call__law_take | row_room_at pv_call__law_ofS | row_room_at pv_call__law_of | row_room_at pv_call__law_ofM | row_room_at pv_call__law_strewn | row_room_at pv_call__law_strewnM) | (rw [sd_r]; first | row_room_at pv_call__law_take | row_room_at pv_call__law_ofS | row_room_at pv_call__law_of | row_room_at pv_call__law_ofM | row_room_at pv_call__law_strewn | row_room_at pv_call__law_strewnM))) | row_room_at pv_latex)))
local macro_rules | `(tactic| row_room_at pv_gou__law_wire) => `(tactic| (repeat' (first | (with_reducible refine apF_op ?_) | (with_reducible refine apL_op ?_) | row_room_at pv_st__law_wire)))

def b__law_wire : FS := (fSeq (fPar [2, 3] [false, false] (fCons (fOp2 oAdd (fC (.int 1)) (fCall [true, false] ph__law_take (fCons (fVar 0) (fCons (fVar 1) fNil)))) (fCons (fCall [true, false] ph__law_of (fCons (fVar 0) (fCons (fOpN oLst (fCons (fC (.int 1)) (fCons (fC (.int 1)) (fCons (fC (.int 3)) (fCons (fOp2 oPow (fC (.int 10)) (fC (.int 6))) (fCons (fOp2 oPow (fC (.int 10)) (fC (.int 10))) fNil)))))) fNil))) fNil))) (fSeq (fPar [4, 5] [false, true] (fCons (fCall [true, false] ph__law_of (fCons (fVar 0) (fCons (fOpN oLst (fCons (fC (.int 0)) (fCons (fC (.int 0)) (fCons (fC (.int 0)) (fCons (fOp2 oPow (fC (.int 10)) (fC (.int 11))) fNil))))) fNil))) (fCons (fOpN oLst fNil) fNil))) (fSeq (fFor (fRange1 (fCons (fVar 2) fNil)) (gN 6) (fSeq (fAsg 4 (fOp2 oAdd (fOp2 oAdd (fVar 4) (fC (.int 1))) (fCall [true, false] ph__law_take (fCons (fVar 0) (fCons (fVar 3) fNil))))) (fDrop (fMth 5 mAppend (fCons (fVar 4) fNil))))) (fSeq (fAsg 7 (fCall [true, false] ph__law_take (fCons (fVar 0) (fCons (fC (.int 8)) fNil)))) (fSeq (fIfS (fTst (fOp2 oLt (fVar 7) (fC (.int 2)))) (fRet (fOpN (at1 oTuple) (fCons (fStp (fVar 5) (fPart (fOp2 oIx (fOpN oLst (fCons (fC (.int 1)) (fCons (fOp1 oNeg (fC (.int 1))) fNil))) (fVar 7)))) fNil))) fNext) (fRet (fOpN (at1 oTuple) (fCons (fCall [true, false] ph__law_strewn (fCons (fVar 0) (fCons (fFz 5) fNil))) fNil))))))))

@[irreducible] def ph__law_wire : Phi := fun args R => ∃ (m : Nat) (xd : D) (s : Int), args = [ow xd, sh (.int s)] ∧ (Bk m (ow xd)) ∧ (300 ≤ m) ∧ (1 ≤ s) ∧ (s ≤ 100) ∧ ∀ (ws : List Int) (x' : D), (wireOk s ws) → (0 < ws.length) → ((ws.length : Int) ≤ s) → (Bk (m - 300) (ow x')) → R (sh (.tuple (ws.map .int))) [ow x']
theorem call__law_wire {m : Nat}{xd : D}{s : Int} {R : Cell → List Cell → Prop} (hx : Bk m (ow xd)) (hm : Hold (300 ≤ m)) (hs : Hold (1 ≤ s)) (hs2 : Hold (s ≤ 100)) (q : ∀ (ws : List Int) (x' : D), (wireOk s ws) → (0 < ws.length) → ((ws.length : Int) ≤ s) → (Bk (m - 300) (ow x')) → R (sh (.tuple (ws.map .int))) [ow x']) : ph__law_wire [ow xd, sh (.int s)] R := by
  unfold ph__law_wire
  exact ⟨m, xd, s, rfl, hx, hm.out, hs.out, hs2.out, q⟩
theorem vc__law_wire (args R) (h : ph__law_wire args R) : b__law_wire (startE 8 args) (defK [true, false] R) := by
  unfold ph__law_wire at h
  obtain ⟨m, xd, s, rfl, hx, hm, hs, hs2, hR⟩ := h
  (row_room_at pv_go__law_wire; row_room_at pv_end)
  rename_i xa hxa gap xb hgap hxb
  have hg : 1 ≤ gap ∧ gap ≤ 10000000000 := by
    rw [show (10 : Int) ^ Int.toNat 6 = 1000000 by decide, show (10 : Int) ^ Int.toNat 10 = 10000000000 by decide] at hgap
    simp only [List.mem_cons, List.not_mem_nil, or_false] at hgap
    omega
  have hi0 : 0 ≤ i ∧ i ≤ 100000000000 := by
    rw [show (10 : Int) ^ Int.toNat 11 = 100000000000 by decide] at hi
    simp only [List.mem_cons, List.not_mem_nil, or_false] at hi
    omega
  refine for_st .int (fun xs E e => ∃ (z : D) (vs : List Int) (deep : Int) (o6 : Option Cell), Bk (xs.length + (m - 150)) (ow z) ∧ (vs.length : Int) + xs.length = 1 + t ∧ vs.Pairwise (· < ·) ∧ (∀ v ∈ vs, 1 ≤ v ∧ v ≤ deep) ∧ 0 ≤ deep ∧ deep ≤ 100000000000 + (vs.length : Int) * 10000000000 ∧
    e = ((((E.set 0 (some (ow z))).set 4 (some (sh (.int deep)))).set 5 (some (ow (.list (vs.map .int))))).set 6 o6)) ⟨_, [], i, _, Bk.le hx' (by rw [irange_len]; omega), by rw [irange_len]; simp; omega, List.Pairwise.nil, (fun v hv => by cases hv), hi0.1, by simpa using hi0.2, rfl⟩ (fun x xs e N hI hN => ?_) (fun e hI => ?_)
  · obtain ⟨z, vs, deep, o6, e1, e2, e3, e4, e5, e6, rfl⟩ := hI
    rw [List.length_cons] at e1 e2
    clear hR hx hxa hxb hx'
    row_room_at pv_cl
    (row_room_at pv_go__law_wire; row_room_at pv_end)
    refine hN _ ⟨x', vs ++ [deep + 1 + t], deep + 1 + t, some (sh (.int x)), Bk.le hx' (by omega), ?_, ?_, ?_, ?_, ?_, ?_⟩
    · rw [List.length_append, List.length_singleton]; omega
    · rw [List.pairwise_append]
      exact ⟨e3, List.pairwise_singleton _ _, fun a ha b hb => by have := e4 a ha; rw [List.mem_singleton.mp hb]; omega⟩
    · intro v hv
      rcases List.mem_append.mp hv with h | h
      · have := e4 v h; omega
      · rw [List.mem_singleton.mp h]; omega
    · omega
    · rw [List.length_append, List.length_singleton]; omega
    · rw [List.map_append]; rfl
  · obtain ⟨z, vs, deep, o6, e1, e2, e3, e4, e5, e6, rfl⟩ := hI
    rw [List.length_nil] at e1 e2
    have hvl : vs.length ≤ 100 := by omega
    have ok : wireOk s vs := ⟨by omega, by omega, nodup_lt e3, fun w hw => by have := e4 w hw; omega⟩
    clear hx hxa hxb hx'
    row_room_at pv_cl
    (row_room_at pv_go__law_wire; row_room_at pv_end)
    · refine ⟨⟨Nat.le_refl 1, .inl hc⟩, ?_⟩
      (row_room_at pv_go__law_wire; row_room_at pv_end)
      exact hR vs _ ok ok.1 ok.2.1 (Bk.le hx' (by omega))
    · have ht : t = 1 := by
        have : t = 0 ∨ t = 1 := by omega
        rcases this with h | h
        · subst h; exact absurd rfl hc
        · exact h
      subst ht
      refine ⟨⟨Nat.le_refl 1, .inr rfl⟩, ?_⟩
      (row_room_at pv_go__law_wire; row_room_at pv_end)
      rw [← List.map_reverse]
      have ok2 := ok.of (List.reverse_perm vs)
      exact hR vs.reverse _ ok2 ok2.1 ok2.2.1 (Bk.le hx' (by omega))
    · have ok2 := ok.of hes
      exact hR es _ ok2 ok2.1 ok2.2.1 (Bk.le hx' (by omega))

local macro_rules | `(tactic| row_room_at pv_st__law_tilted) => `(tactic| ((try ((with_reducible show toEnv _ _); (first | refine toEnv_go rfl ?_ | refine toEnv_gT rfl rfl ?_); row_room_at pv_cl)); (try (conv => whnf)); first | ((with_reducible show _ ∧ _); row_room_at pv_and) | ((with_reducible show ap2 _ _ _ _); row_room_at pv_op2) | ((with_reducible show apN _ _ _); row_room_at pv_opN) | ((with_reducible show ap1 _ _ _); row_room_at pv_op1) | ((with_reducible show ovr _ _); row_room_at pv_ov) | ((with_reducible show ovr2 _ _ _); row_room_at pv_ov2) | row_room_at pv_late))
local macro_rules | `(tactic| row_room_at pv_go__law_tilted) => `(tactic| (repeat' row_room_at pv_st__law_tilted))
local macro_rules | `(tactic| row_room_at pv_gox__law_tilted) => `(tactic| (repeat' ((try ((with_reducible show toEnv _ _); (first | refine toEnv_go rfl ?_ | refine toEnv_gT rfl rfl ?_); row_room_at pv_cl)); (try (conv => whnf)); first | ((with_reducible show _ ∧ _); row_room_at pv_and) | ((with_reducible show ap2 _ _ _ _); row_room_at pv_op2) | ((with_reducible show apN _ _ _); row_room_at pv_opN) | ((with_reducible show ap1 _ _ _); row_room_at pv_op1) | ((with_reducible show ovr _ _); row_room_at pv_ov) | ((with_reducible show ovr2 _ _ _); row_room_at pv_ov2) | row_room_at pv_latex)))
local macro_rules | `(tactic| row_room_at pv_gou__law_tilted) => `(tactic| (repeat' (first | (with_reducible refine apF_op ?_) | (with_reducible refine apL_op ?_) | row_room_at pv_st__law_tilted)))

def b__law_tilted : FS := (fSeq (fUnp (gT 3 (gsCons (gN 4) (gsCons (gN 5) (gsCons (gN 6) gsNil)))) (fVar 1)) (fSeq (fPar [7, 8] [false, true] (fCons (fIf (fTst (fOp2 oEq (fVar 2) (fC (.str "right")))) (fVar 4) (fVar 6)) (fCons (fOpN oLst fNil) fNil))) (fSeq (fFor (fSeqI (fStp (fRngL1 (fOpN (at1 oLen) (fCons (fVar 0) fNil))) (fPart (fIf (fTst (fOp2 oEq (fVar 2) (fC (.str "right")))) (fC (.int 1)) (fOp1 oNeg (fC (.int 1))))))) (gN 9) (fIfS (fTst (fOp2 oLt (fOp2 oIx (fVar 0) (fVar 9)) (fVar 3))) (fAsg 7 (fOp2 oAdd (fVar 7) (fOpN (at1 oToInt) (fCons (fOp2 oIn (fVar 9) (fVar 5)) fNil)))) (fIfS (fOr (fTst (fOp2 oIn (fVar 9) (fVar 5))) (fTst (fOp2 oGt (fVar 7) (fC (.int 0))))) (fSeq (fAsg 7 (fOp2 oSub (fVar 7) (fOpN (at1 oToInt) (fCons (fOp2 oNotIn (fVar 9) (fVar 5)) fNil)))) (fDrop (fMth 8 mAppend (fCons (fVar 9) fNil)))) fNext))) (fSeq (fAsg 10 (fOpN (at1 oTuple) (fCons (fOpN (at1 oSorted) (fCons (fVar 8) fNil)) fNil))) (fRet (fOpN oTup (fCons (fIf (fTst (fOp2 oEq (fVar 2) (fC (.str "right")))) (fOpN oTup (fCons (fC (.int 0)) (fCons (fVar 10) (fCons (fOp2 oAdd (fVar 6) (fVar 7)) fNil)))) (fOpN oTup (fCons (fOp2 oAdd (fVar 4) (fVar 7)) (fCons (fVar 10) (fCons (fC (.int 0)) fNil))))) (fCons (fVar 7) fNil))))))))

@[irreducible] def ph__law_tilted : Phi := fun args R => ∃ (d e : D) (ws : List Int) (x : Tr) (b : Bool) (s : Int), args = [sh d, sh e, sh (.str (sideS b)), sh (.int s)] ∧ (Ints d ws) ∧ (StdS e x) ∧ (okS ws.length x) ∧ (ws.length ≤ 1000) ∧ R (sh (.tuple [dS (tiltS ws b s x), .int (rolS ws b s x)])) []
theorem call__law_tilted {d e : D}{ws : List Int}{x : Tr}{b : Bool}{s : Int} {R : Cell → List Cell → Prop} (hd : Ints d ws) (he : StdS e x) (h0 : Hold (okS ws.length x)) (h1 : Hold (ws.length ≤ 1000)) (q : R (sh (.tuple [dS (tiltS ws b s x), .int (rolS ws b s x)])) []) : ph__law_tilted [sh d, sh e, sh (.str (sideS b)), sh (.int s)] R := by
  unfold ph__law_tilted
  exact ⟨d, e, ws, x, b, s, rfl, hd, he, h0.out, h1.out, q⟩
theorem tilted_go {ws : List Int} {b : Bool} {s : Int} {x : Tr} (h0 : okS ws.length x) : ∀ {full : List Int} {r : Int}, full = (OO ws b s x).1 → r = (OO ws b s x).2 → (if b then (0, srt full, x.2.2 + r) else (x.1 + r, srt full, 0)) = tiltS ws b s x ∧ r = rolS ws b s x := fun {full r} e1 e2 => by
  subst e1 e2
  rw [tiltS_srt, rolS_O]
  refine ⟨?_, rfl⟩
  have := tiltS_O ws b s x
  cases b with
  | true => rw [this]; rfl
  | false => rw [this]; rfl
theorem rollO_step {dp : Int → Int} {s : Int} {lot full : List Int} {q : Int} {ord : List Int} {r r' : Int} {L : List Int} {c : Int} (h1 : full ++ (rollO dp s lot (q :: ord) r).1 = L) (h2 : (rollO dp s lot (q :: ord) r).2 = c) :
    (dp q < s → full ++ (rollO dp s lot ord (r + if q ∈ lot then 1 else 0)).1 = L ∧ (rollO dp s lot ord (r + if q ∈ lot then 1 else 0)).2 = c) ∧
    (¬ dp q < s → q ∈ lot → (full ++ [q]) ++ (rollO dp s lot ord r).1 = L ∧ (rollO dp s lot ord r).2 = c) ∧
    (¬ dp q < s → q ∉ lot → 0 < r → (full ++ [q]) ++ (rollO dp s lot ord (r - 1)).1 = L ∧ (rollO dp s lot ord (r - 1)).2 = c) ∧
    (¬ dp q < s → q ∉ lot → ¬ 0 < r → full ++ (rollO dp s lot ord r).1 = L ∧ (rollO dp s lot ord r).2 = c) := by
  rw [rollO] at h1 h2
  refine ⟨fun a => ?_, fun a b => ?_, fun a b d => ?_, fun a b d => ?_⟩
  · rw [if_pos a] at h1 h2; exact ⟨h1, h2⟩
  · rw [if_neg a, if_pos b] at h1 h2; exact ⟨by rw [List.append_assoc]; exact h1, h2⟩
  · rw [if_neg a, if_neg b, if_pos d] at h1 h2; exact ⟨by rw [List.append_assoc]; exact h1, h2⟩
  · rw [if_neg a, if_neg b, if_neg d] at h1 h2; exact ⟨h1, h2⟩
theorem vc__law_tilted (args R) (h : ph__law_tilted args R) : b__law_tilted (startE 11 args) (defK [false, false, false, false] R) := by
  unfold ph__law_tilted at h
  obtain ⟨d, e, ws, x, b, s, rfl, hd, he, h0, h1, hR⟩ := h
  have hll := h0.len
  have kfin := fun {full : List Int} {r : Int} => tilted_go (s := s) (b := b) h0 (full := full) (r := r)
  generalize hL : (OO ws b s x).1 = L at kfin
  generalize hc2 : (OO ws b s x).2 = c at kfin
  cases b
  all_goals
    (row_room_at pv_go__law_tilted; row_room_at pv_end)
  all_goals try rw [← List.map_reverse]
  all_goals
    refine for_st .int (fun xs E e => ∃ (full : List Int) (r : Int) (o9 o10 : Option Cell), full.length + xs.length ≤ 1000 ∧ (∀ q ∈ xs, 0 ≤ q ∧ q < ws.length) ∧ full ++ (rollO (gI ws) s x.2.1 xs r).1 = L ∧ (rollO (gI ws) s x.2.1 xs r).2 = c ∧
      e = ((((E.set 7 (some (sh (.int r)))).set 8 (some (ow (.list (full.map .int))))).set 9 o9).set 10 o10)) ⟨[], _, _, _, by simp [irange_len]; omega, fun q hq => mem_irange.mp (by simpa using hq), hL, hc2, rfl⟩ (fun q xs e N hI hN => ?_) (fun e hI => ?_)
    · obtain ⟨full, r, o9, o10, e1, e2, e3, e4, rfl⟩ := hI
      rw [List.length_cons] at e1
      have hq2 := e2 q List.mem_cons_self
      obtain ⟨g1, g2, g3, g4⟩ := rollO_step (r' := 0) e3 e4
      have e2' : ∀ q ∈ xs, 0 ≤ q ∧ q < ws.length := fun y hy => e2 y (List.mem_cons_of_mem _ hy)
      have hz : (full.map PyData.int).length ≤ 2 ^ 20 := by rw [List.length_map]; omega
      clear hR e3 e4
      row_room_at pv_cl
      (row_room_at pv_go__law_tilted; row_room_at pv_end)
      all_goals try rw [show full.map PyData.int ++ [PyData.int q] = (full ++ [q]).map .int by simp]
      all_goals first
        | (have g := g1 (by assumption); rw [if_pos (by assumption)] at g; exact hN _ ⟨full, _, _, _, by omega, e2', g.1, g.2, rfl⟩)
        | (have g := g1 (by assumption); rw [if_neg (by assumption)] at g; exact hN _ ⟨full, _, _, _, by omega, e2', g.1, g.2, rfl⟩)
        | (have g := g2 (by omega) (by assumption); rw [Int.sub_zero]; exact hN _ ⟨full ++ [q], _, _, _, by rw [List.length_append, List.length_singleton]; omega, e2', g.1, g.2, rfl⟩)
        | (have g := g3 (by omega) (by assumption) (by assumption); exact hN _ ⟨full ++ [q], _, _, _, by rw [List.length_append, List.length_singleton]; omega, e2', g.1, g.2, rfl⟩)
        | (have g := g4 (by omega) (by assumption) (by omega); exact hN _ ⟨full, _, _, _, by omega, e2', g.1, g.2, rfl⟩)
    · obtain ⟨full, r, o9, o10, e1, e2, e3, e4, rfl⟩ := hI
      rw [rollO, List.append_nil] at e3
      obtain ⟨k2, k3⟩ := kfin e3 e4
      clear e3 e4
      row_room_at pv_cl
      (row_room_at pv_go__law_tilted; row_room_at pv_end)
      refine .mk (congrArg sh ?_)
      rw [← k2, ← k3]
      rfl

local macro_rules | `(tactic| row_room_at pv_call__law_tilted) => `(tactic| (refine apP_op (call__law_tilted (by row_room_at pv_sd) (by row_room_at pv_sd) ?_ ?_ ?_); (first | (focus row_room_at pv_hs) | rotate_left); (first | (focus row_room_at pv_hs) | rotate_left)))
local macro_rules | `(tactic| row_room_at pv_st__law_led) => `(tactic| ((try ((with_reducible show toEnv _ _); (first | refine toEnv_go rfl ?_ | refine toEnv_gT rfl rfl ?_); row_room_at pv_cl)); (try (conv => whnf)); first | ((with_reducible show _ ∧ _); row_room_at pv_and) | ((with_reducible show ap2 _ _ _ _); row_room_at pv_op2) | ((with_reducible show apN _ _ _); row_room_at pv_opN) | ((with_reducible show ap1 _ _ _); row_room_at pv_op1) | ((with_reducible show ovr _ _); row_room_at pv_ov) | ((with_reducible show ovr2 _ _ _); row_room_at pv_ov2) | ((with_reducible show apP _ _ _); row_room_at pv_cl; first | row_room_at pv_call__law_tilted) | ((with_reducible show apP _ _ _); row_room_at pv_cl; (first | (rw [sd_l]; first | row_room_at pv_call__law_tilted) | (rw [sd_r]; first | row_room_at pv_call__law_tilted))) | row_room_at pv_late))
local macro_rules | `(tactic| row_room_at pv_go__law_led) => `(tactic| (repeat' row_room_at pv_st__law_led))
local macro_rules | `(tactic| row_room_at pv_gox__law_led) => `(tactic| (repeat' ((try ((with_reducible show toEnv _ _); (first | refine toEnv_go rfl ?_ | refine toEnv_gT rfl rfl ?_); row_room_at pv_cl)); (try (conv => whnf)); first | ((with_reducible show _ ∧ _); row_room_at pv_and) | ((with_reducible show ap2 _ _ _ _); row_room_at pv_op2) | ((with_reducible show apN _ _ _); row_room_at pv_opN) | ((with_reducible show ap1 _ _ _); row_room_at pv_op1) | ((with_reducible show ovr _ _); row_room_at pv_ov) | ((with_reducible show ovr2 _ _ _); row_room_at pv_ov2) | ((with_reducible show apP _ _ _); row_room_at pv_cl; first | row_room_at pv_call__law_tilted) | ((with_reducible show apP _ _ _); row_room_at pv_cl; (first | (rw [sd_l]; first | row_room_at pv_call__law_tilted) | (rw [sd_r]; first | row_room_at pv_call__law_tilted))) | row_room_at pv_latex)))
local macro_rules | `(tactic| row_room_at pv_gou__law_led) => `(tactic| (repeat' (first | (with_reducible refine apF_op ?_) | (with_reducible refine apL_op ?_) | row_room_at pv_st__law_led)))

def b__law_led : FS := (fSeq (fAsgO 3 (fOpN oLst fNil)) (fSeq (fFor (fSeqI (fVar 2)) (gT 2 (gsCons (gN 4) (gsCons (gN 5) gsNil))) (fSeq (fUnp (gT 2 (gsCons (gN 1) (gsCons (gN 6) gsNil))) (fCall [false, false, false, false] ph__law_tilted (fCons (fVar 0) (fCons (fVar 1) (fCons (fVar 4) (fCons (fVar 5) fNil)))))) (fDrop (fMth 3 mAppend (fCons (fVar 6) fNil))))) (fRet (fOpN oTup (fCons (fVar 1) (fCons (fFz 3) fNil))))))

@[irreducible] def ph__law_led : Phi := fun args R => ∃ (d rd : D) (ws : List Int) (x : Tr) (row : List (Bool × Int)), args = [sh d, sh (dS x), sh rd] ∧ (Ints d ws) ∧ (Row rd row) ∧ (okS ws.length x) ∧ (ws.length ≤ 1000) ∧ (row.length ≤ 2 ^ 20) ∧ R (sh (.tuple [dS (ledS ws row x), .list ((heardS ws row x).map .int)])) []
theorem call__law_led {d rd : D}{ws : List Int}{x : Tr}{row : List (Bool × Int)} {R : Cell → List Cell → Prop} (hd : Ints d ws) (hr : Row rd row) (h0 : Hold (okS ws.length x)) (h1 : Hold (ws.length ≤ 1000)) (h2 : Hold (row.length ≤ 2 ^ 20)) (q : R (sh (.tuple [dS (ledS ws row x), .list ((heardS ws row x).map .int)])) []) : ph__law_led [sh d, sh (dS x), sh rd] R := by
  unfold ph__law_led
  exact ⟨d, rd, ws, x, row, rfl, hd, hr, h0.out, h1.out, h2.out, q⟩
theorem vc__law_led (args R) (h : ph__law_led args R) : b__law_led (startE 7 args) (defK [false, false, false] R) := by
  unfold ph__law_led at h
  obtain ⟨d, rd, ws, x, row, rfl, hd, hr, h0, h1, h2, hR⟩ := h
  (row_room_at pv_go__law_led; row_room_at pv_end)
  refine for_st (prW wr) (fun xs E e => ∃ (y : Tr) (told : List Int) (o4 o5 o6 : Option Cell), okS ws.length y ∧ ledS ws xs y = ledS ws row x ∧ told ++ heardS ws xs y = heardS ws row x ∧ told.length + xs.length ≤ 2 ^ 20 ∧
    e = [some (sh d), some (sh (dS y)), some (sh rd), some (ow (.list (told.map .int))), o4, o5, o6]) ⟨x, [], _, _, _, h0, rfl, rfl, by rw [List.length_nil]; omega, rfl⟩ (fun p xs e N hI hN => ?_) (fun e hI => ?_)
  · obtain ⟨y, told, o4, o5, o6, e1, e2, e3, e4, rfl⟩ := hI
    rw [List.length_cons] at e4
    have hz : (told.map PyData.int).length ≤ 2 ^ 20 := by rw [List.length_map]; omega
    obtain ⟨b, s⟩ := p
    clear hR
    row_room_at pv_cl
    (row_room_at pv_go__law_led; row_room_at pv_end)
    rw [show told.map PyData.int ++ [PyData.int (rolS ws b s y)] = (told ++ [rolS ws b s y]).map .int by simp]
    exact hN _ ⟨_, _, _, _, _, tiltS_ok e1 b s, e2, by rw [List.append_assoc]; exact e3, by rw [List.length_append, List.length_singleton]; omega, rfl⟩
  · obtain ⟨y, told, o4, o5, o6, e1, e2, e3, e4, rfl⟩ := hI
    row_room_at pv_cl
    (row_room_at pv_go__law_led; row_room_at pv_end)
    refine .mk (congrArg sh ?_)
    rw [heardS, List.append_nil] at e3
    rw [← e3, ← e2]
    rfl

local macro_rules | `(tactic| row_room_at pv_st__law_ends) => `(tactic| ((try ((with_reducible show toEnv _ _); (first | refine toEnv_go rfl ?_ | refine toEnv_gT rfl rfl ?_); row_room_at pv_cl)); (try (conv => whnf)); first | ((with_reducible show _ ∧ _); row_room_at pv_and) | ((with_reducible show ap2 _ _ _ _); row_room_at pv_op2) | ((with_reducible show apN _ _ _); row_room_at pv_opN) | ((with_reducible show ap1 _ _ _); row_room_at pv_op1) | ((with_reducible show ovr _ _); row_room_at pv_ov) | ((with_reducible show ovr2 _ _ _); row_room_at pv_ov2) | row_room_at pv_late))
local macro_rules | `(tactic| row_room_at pv_go__law_ends) => `(tactic| (repeat' row_room_at pv_st__law_ends))
local macro_rules | `(tactic| row_room_at pv_gox__law_ends) => `(tactic| (repeat' ((try ((with_reducible show toEnv _ _); (first | refine toEnv_go rfl ?_ | refine toEnv_gT rfl rfl ?_); row_room_at pv_cl)); (try (conv => whnf)); first | ((with_reducible show _ ∧ _); row_room_at pv_and) | ((with_reducible show ap2 _ _ _ _); row_room_at pv_op2) | ((with_reducible show apN _ _ _); row_room_at pv_opN) | ((with_reducible show ap1 _ _ _); row_room_at pv_op1) | ((with_reducible show ovr _ _); row_room_at pv_ov) | ((with_reducible show ovr2 _ _ _); row_room_at pv_ov2) | row_room_at pv_latex)))
local macro_rules | `(tactic| row_room_at pv_gou__law_ends) => `(tactic| (repeat' (first | (with_reducible refine apF_op ?_) | (with_reducible refine apL_op ?_) | row_room_at pv_st__law_ends)))

def b__law_ends : FS := (fSeq (fAsgO 4 (fOpN oLst fNil)) (fSeq (fFor (fSeqI (fStp (fVar 0) (fPart (fIf (fTst (fOp2 oEq (fVar 1) (fC (.str "right")))) (fOp1 oNeg (fC (.int 1))) (fC (.int 1)))))) (gN 5) (fIfS (fAnd (fTst (fOp2 oGe (fVar 5) (fVar 2))) (fTst (fOp2 oLt (fOpN (at1 oLen) (fCons (fVar 4) fNil)) (fVar 3)))) (fDrop (fMth 4 mAppend (fCons (fVar 5) fNil))) fNext)) (fRet (fMv 4))))

@[irreducible] def ph__law_ends : Phi := fun args R => ∃ (d : D) (ws : List Int) (b : Bool) (s : Int) (m : Nat), args = [sh d, sh (.str (sideS b)), sh (.int s), sh (.int m)] ∧ (Ints d ws) ∧ (ws.length ≤ 1000) ∧ (m ≤ 1000) ∧ R (ow (.list ((endsL ws b s m).map .int))) []
theorem call__law_ends {d : D}{ws : List Int}{b : Bool}{s : Int}{m : Nat} {R : Cell → List Cell → Prop} (hd : Ints d ws) (hn : Hold (ws.length ≤ 1000)) (hm : Hold (m ≤ 1000)) (q : R (ow (.list ((endsL ws b s m).map .int))) []) : ph__law_ends [sh d, sh (.str (sideS b)), sh (.int s), sh (.int m)] R := by
  unfold ph__law_ends
  exact ⟨d, ws, b, s, m, rfl, hd, hn.out, hm.out, q⟩
theorem ends_go {w : Int} {us acc : List Int} {s : Int} {m : Nat} : ((acc ++ ((w :: us).filter fun w => decide (s ≤ w))).take m) = ((if s ≤ w ∧ acc.length < m then acc ++ [w] else acc) ++ (us.filter fun w => decide (s ≤ w))).take m := by
  rw [List.filter_cons]
  by_cases h : s ≤ w
  · rw [if_pos (decide_eq_true h)]
    by_cases h2 : acc.length < m
    · rw [if_pos ⟨h, h2⟩]; simp
    · rw [if_neg (fun hc => h2 hc.2), List.take_append_of_le_length (by omega), List.take_append_of_le_length (by omega)]
  · rw [if_neg (by simpa using h), if_neg (fun hc => h hc.1)]
theorem vc__law_ends (args R) (h : ph__law_ends args R) : b__law_ends (startE 6 args) (defK [false, false, false, false] R) := by
  unfold ph__law_ends at h
  obtain ⟨d, ws, b, s, m, rfl, hd, hn, hm, hR⟩ := h
  rcases hd with rfl | rfl <;> cases b
  all_goals (row_room_at pv_go__law_ends; row_room_at pv_end)
  all_goals
    first
      | refine for_st .int (fun xs E e => ∃ (acc : List Int) (o : Option Cell), (acc ++ xs.filter fun w => decide (s ≤ w)).take m = endsL ws false s m ∧ acc.length ≤ m ∧ e = [_, _, some (sh (.int s)), some (sh (.int m)), some (ow (.list (acc.map .int))), o]) ⟨[], none, rfl, Nat.zero_le _, rfl⟩ (fun w xs e N hI hN => ?_) (fun e hI => ?_)
      | refine for_st .int (fun xs E e => ∃ (acc : List Int) (o : Option Cell), (acc ++ xs.filter fun w => decide (s ≤ w)).take m = endsL ws true s m ∧ acc.length ≤ m ∧ e = [_, _, some (sh (.int s)), some (sh (.int m)), some (ow (.list (acc.map .int))), o]) ⟨[], none, rfl, Nat.zero_le _, rfl⟩ (fun w xs e N hI hN => ?_) (fun e hI => ?_)
    · obtain ⟨acc, o, e1, e2, rfl⟩ := hI
      rw [ends_go] at e1
      by_cases h1 : s ≤ w
      · by_cases h2 : acc.length < m
        · rw [if_pos ⟨h1, h2⟩] at e1
          have h3 : (acc.length : Int) < m := by omega
          row_room_at pv_cl
          (row_room_at pv_go__law_ends; row_room_at pv_end)
          exact hN _ ⟨_, _, e1, by rw [List.length_append, List.length_singleton]; omega, by rw [List.map_append]; rfl⟩
        · rw [if_neg (fun hc => h2 hc.2)] at e1
          have h3 : ¬ (acc.length : Int) < m := by omega
          row_room_at pv_cl
          (row_room_at pv_go__law_ends; row_room_at pv_end)
          exact hN _ ⟨_, _, e1, e2, rfl⟩
      · rw [if_neg (fun hc => h1 hc.1)] at e1
        row_room_at pv_cl
        (row_room_at pv_go__law_ends; row_room_at pv_end)
        exact hN _ ⟨_, _, e1, e2, rfl⟩
    · obtain ⟨acc, o, e1, e2, rfl⟩ := hI
      rw [List.filter_nil, List.append_nil, List.take_of_length_le e2] at e1
      rw [← e1] at hR
      row_room_at pv_cl
      (row_room_at pv_go__law_ends; row_room_at pv_end)

local macro_rules | `(tactic| row_room_at pv_call__law_ends) => `(tactic| (refine apP_op (call__law_ends (by row_room_at pv_sd) ?_ ?_ ?_); (first | (focus row_room_at pv_hs) | rotate_left); (first | (focus row_room_at pv_hs) | rotate_left)))
local macro_rules | `(tactic| row_room_at pv_st__law_alike) => `(tactic| ((try ((with_reducible show toEnv _ _); (first | refine toEnv_go rfl ?_ | refine toEnv_gT rfl rfl ?_); row_room_at pv_cl)); (try (conv => whnf)); first | ((with_reducible show _ ∧ _); row_room_at pv_and) | ((with_reducible show ap2 _ _ _ _); row_room_at pv_op2) | ((with_reducible show apN _ _ _); row_room_at pv_opN) | ((with_reducible show ap1 _ _ _); row_room_at pv_op1) | ((with_reducible show ovr _ _); row_room_at pv_ov) | ((with_reducible show ovr2 _ _ _); row_room_at pv_ov2) | ((with_reducible show apP _ _ _); row_room_at pv_cl; first | row_room_at pv_call__law_ends) | ((with_reducible show apP _ _ _); row_room_at pv_cl; (first | (rw [sd_l]; first | row_room_at pv_call__law_ends) | (rw [sd_r]; first | row_room_at pv_call__law_ends))) | row_room_at pv_late))
local macro_rules | `(tactic| row_room_at pv_go__law_alike) => `(tactic| (repeat' row_room_at pv_st__law_alike))
local macro_rules | `(tactic| row_room_at pv_gox__law_alike) => `(tactic| (repeat' ((try ((with_reducible show toEnv _ _); (first | refine toEnv_go rfl ?_ | refine toEnv_gT rfl rfl ?_); row_room_at pv_cl)); (try (conv => whnf)); first | ((with_reducible show _ ∧ _); row_room_at pv_and) | ((with_reducible show ap2 _ _ _ _); row_room_at pv_op2) | ((with_reducible show apN _ _ _); row_room_at pv_opN) | ((with_reducible show ap1 _ _ _); row_room_at pv_op1) | ((with_reducible show ovr _ _); row_room_at pv_ov) | ((with_reducible show ovr2 _ _ _); row_room_at pv_ov2) | ((with_reducible show apP _ _ _); row_room_at pv_cl; first | row_room_at pv_call__law_ends) | ((with_reducible show apP _ _ _); row_room_at pv_cl; (first | (rw [sd_l]; first | row_room_at pv_call__law_ends) | (rw [sd_r]; first | row_room_at pv_call__law_ends))) | row_room_at pv_latex)))
local macro_rules | `(tactic| row_room_at pv_gou__law_alike) => `(tactic| (repeat' (first | (with_reducible refine apF_op ?_) | (with_reducible refine apL_op ?_) | row_room_at pv_st__law_alike)))

def b__law_alike : FS := (fSeq (fAsg 3 (fOp2 oAdd (fOpN (at1 oList) (fCons (fVar 0) fNil)) (fOpN (at1 oList) (fCons (fVar 1) fNil)))) (fSeq (fFor (fSeqI (fOpN oTup (fCons (fC (.str "left")) (fCons (fC (.str "right")) fNil)))) (gN 4) (fIfS (fTst (fOpN (at1 oAny) (fCons (fLc [5] (fSeqI (fVar 3)) (gN 5) fYes (fOp2 oNe (fCall [false, false, false, false] ph__law_ends (fCons (fVar 0) (fCons (fVar 4) (fCons (fVar 5) (fCons (fVar 2) fNil))))) (fCall [false, false, false, false] ph__law_ends (fCons (fVar 1) (fCons (fVar 4) (fCons (fVar 5) (fCons (fVar 2) fNil))))))) fNil))) (fRet (fC (.bool false))) fNext)) (fRet (fC (.bool true)))))

-- USES told_apart
@[irreducible] def ph__law_alike : Phi := fun args R => ∃ (d e0 : D) (ws vs : List Int) (m : Nat), args = [sh d, sh e0, sh (.int m)] ∧ (Ints d ws) ∧ (Ints e0 vs) ∧ (ws.length ≤ 400) ∧ (vs.length ≤ 400) ∧ (m ≤ 1000) ∧ R (sh (.bool (toldT ws vs m (keysT ws vs)).isNone)) []
theorem call__law_alike {d e0 : D}{ws vs : List Int}{m : Nat} {R : Cell → List Cell → Prop} (hd : Ints d ws) (he : Ints e0 vs) (hn : Hold (ws.length ≤ 400)) (hm : Hold (vs.length ≤ 400)) (hk : Hold (m ≤ 1000)) (q : R (sh (.bool (toldT ws vs m (keysT ws vs)).isNone)) []) : ph__law_alike [sh d, sh e0, sh (.int m)] R := by
  unfold ph__law_alike
  exact ⟨d, e0, ws, vs, m, rfl, hd, he, hn.out, hm.out, hk.out, q⟩
theorem endsL_len' {ws : List Int} {b : Bool} {s : Int} {m : Nat} : (endsL ws b s m).length ≤ m := by
  unfold endsL; rw [List.length_take]; omega
theorem alike_no {ws vs : List Int} {m : Nat} {b : Bool} (h : (((ws ++ vs).map fun s => !decide (endsL ws b s m = endsL vs b s m)).any fun x => x) = true) : (toldT ws vs m (keysT ws vs)).isNone = false := by
  rw [List.any_eq_true] at h
  obtain ⟨c, hc, h2⟩ := h
  obtain ⟨s, hs, rfl⟩ := List.mem_map.mp hc
  cases ht : toldT ws vs m (keysT ws vs) with
  | some r => rfl
  | none =>
    have := told_none.mp ht b s
    simp [this] at h2
theorem alike_yes {ws vs : List Int} {m : Nat} (h : ∀ b : Bool, (((ws ++ vs).map fun s => !decide (endsL ws b s m = endsL vs b s m)).any fun x => x) = false) : (toldT ws vs m (keysT ws vs)).isNone = true := by
  have : toldT ws vs m (keysT ws vs) = none := told_none.mpr (alike_of fun b s hs => by
    have := h b
    rw [List.any_eq_false] at this
    have := this _ (List.mem_map.mpr ⟨s, List.mem_append.mpr hs, rfl⟩)
    simpa using this)
  rw [this]; rfl
theorem vc__law_alike (args R) (h : ph__law_alike args R) : b__law_alike (startE 6 args) (defK [false, false, false] R) := by
  unfold ph__law_alike at h
  obtain ⟨d, e0, ws, vs, m, rfl, hd, he, hn, hm, hk, hR⟩ := h
  (row_room_at pv_go__law_alike; row_room_at pv_end)
  rw [show [PyData.str (Str.ofString "left"), PyData.str (Str.ofString "right")] = [false, true].map (fun b => PyData.str (sideS b)) from rfl]
  refine for_st (fun b => PyData.str (sideS b)) (fun bs E e => ∃ (o4 o5 : Option Cell), (∀ b, b ∈ bs ∨ (((ws ++ vs).map fun s => !decide (endsL ws b s m = endsL vs b s m)).any fun x => x) = false) ∧ e = [(E.getD 0 none), (E.getD 1 none), (E.getD 2 none), (E.getD 3 none), o4, o5]) ?_ (fun b bs e N hI hN => ?_) (fun e hI => ?_)
  · exact ⟨_, _, fun b => .inl (by cases b <;> simp), rfl⟩
  · obtain ⟨o4, o5, e1, rfl⟩ := hI
    row_room_at pv_cl
    (row_room_at pv_go__law_alike; row_room_at pv_end)
    refine lc_mp .int (fun s => .bool (!decide (endsL ws b s m = endsL vs b s m))) (fun s acc N hq hl2 hN => ?_) trivial (.mk (by simp only [List.length_append]; exact Nat.le_trans (show ws.length + vs.length ≤ 800 by omega) (by decide))) ?_
    · have z1 := endsL_len' (ws := ws) (b := b) (s := s) (m := m)
      have z2 := endsL_len' (ws := vs) (b := b) (s := s) (m := m)
      (row_room_at pv_go__law_alike; row_room_at pv_end)
    rw [show (ws ++ vs).map (fun s => PyData.bool (!decide (endsL ws b s m = endsL vs b s m))) = ((ws ++ vs).map fun s => !decide (endsL ws b s m = endsL vs b s m)).map PyData.bool by rw [List.map_map]; rfl]
    cases hx : (((ws ++ vs).map fun s => !decide (endsL ws b s m = endsL vs b s m)).any fun x => x) with
    | true =>
      rw [alike_no hx] at hR
      (row_room_at pv_go__law_alike; row_room_at pv_end)
      all_goals (rw [hx] at hc; cases hc)
    | false =>
      have e2 : ∀ c, c ∈ bs ∨ (((ws ++ vs).map fun s => !decide (endsL ws c s m = endsL vs c s m)).any fun x => x) = false := fun c => by
        rcases e1 c with h | h
        · rcases List.mem_cons.mp h with rfl | h
          · exact .inr hx
          · exact .inl h
        · exact .inr h
      clear e1
      (row_room_at pv_go__law_alike; row_room_at pv_end)
      all_goals first | exact hN _ ⟨_, _, e2, rfl⟩ | (rw [hx] at hc; cases hc)
  · obtain ⟨o4, o5, e1, rfl⟩ := hI
    rw [alike_yes fun b => (e1 b).resolve_left (by simp)] at hR
    row_room_at pv_cl
    (row_room_at pv_go__law_alike; row_room_at pv_end)

local macro_rules | `(tactic| row_room_at pv_st__law_begun) => `(tactic| ((try ((with_reducible show toEnv _ _); (first | refine toEnv_go rfl ?_ | refine toEnv_gT rfl rfl ?_); row_room_at pv_cl)); (try (conv => whnf)); first | ((with_reducible show _ ∧ _); row_room_at pv_and) | ((with_reducible show ap2 _ _ _ _); row_room_at pv_op2) | ((with_reducible show apN _ _ _); row_room_at pv_opN) | ((with_reducible show ap1 _ _ _); row_room_at pv_op1) | ((with_reducible show ovr _ _); row_room_at pv_ov) | ((with_reducible show ovr2 _ _ _); row_room_at pv_ov2) | row_room_at pv_late))
local macro_rules | `(tactic| row_room_at pv_go__law_begun) => `(tactic| (repeat' row_room_at pv_st__law_begun))
local macro_rules | `(tactic| row_room_at pv_gox__law_begun) => `(tactic| (repeat' ((try ((with_reducible show toEnv _ _); (first | refine toEnv_go rfl ?_ | refine toEnv_gT rfl rfl ?_); row_room_at pv_cl)); (try (conv => whnf)); first | ((with_reducible show _ ∧ _); row_room_at pv_and) | ((with_reducible show ap2 _ _ _ _); row_room_at pv_op2) | ((with_reducible show apN _ _ _); row_room_at pv_opN) | ((with_reducible show ap1 _ _ _); row_room_at pv_op1) | ((with_reducible show ovr _ _); row_room_at pv_ov) | ((with_reducible show ovr2 _ _ _); row_room_at pv_ov2) | row_room_at pv_latex)))
local macro_rules | `(tactic| row_room_at pv_gou__law_begun) => `(tactic| (repeat' (first | (with_reducible refine apF_op ?_) | (with_reducible refine apL_op ?_) | row_room_at pv_st__law_begun)))

def b__law_begun : FS := (fRet (fIf (fTst (fOp2 oEq (fVar 0) (fC (.str "right")))) (fOpN oTup (fCons (fC (.int 0)) (fCons (fOpN oTup fNil) (fCons (fVar 1) fNil)))) (fOpN oTup (fCons (fVar 1) (fCons (fOpN oTup fNil) (fCons (fC (.int 0)) fNil))))))

@[irreducible] def ph__law_begun : Phi := fun args R => ∃ (m : Int) (b : Bool), args = [sh (.str (sideS b)), sh (.int m)] ∧ R (sh (dS (inT0 b m))) []
theorem call__law_begun {m : Int}{b : Bool} {R : Cell → List Cell → Prop}  (q : R (sh (dS (inT0 b m))) []) : ph__law_begun [sh (.str (sideS b)), sh (.int m)] R := by
  unfold ph__law_begun
  exact ⟨m, b, rfl, q⟩
theorem vc__law_begun (args R) (h : ph__law_begun args R) : b__law_begun (startE 2 args) (defK [false, false] R) := by
  unfold ph__law_begun at h
  obtain ⟨m, b, rfl, hR⟩ := h
  unfold inT0 at hR
  cases b
  all_goals (row_room_at pv_go__law_begun; row_room_at pv_end)
  all_goals trace_state

local macro_rules | `(tactic| row_room_at pv_call__law_wire) => `(tactic| (refine apP_op (call__law_wire (by row_room_at pv_sd) ?_ ?_ ?_ (fun ws x' hw hw1 hw2 hx' => ?_)); (first | (focus row_room_at pv_hs) | rotate_left); (first | (focus row_room_at pv_hs) | rotate_left); (first | (focus row_room_at pv_hs) | rotate_left)))
local macro_rules | `(tactic| row_room_at pv_st__law_two) => `(tactic| ((try ((with_reducible show toEnv _ _); (first | refine toEnv_go rfl ?_ | refine toEnv_gT rfl rfl ?_); row_room_at pv_cl)); (try (conv => whnf)); first | ((with_reducible show _ ∧ _); row_room_at pv_and) | ((with_reducible show ap2 _ _ _ _); row_room_at pv_op2) | ((with_reducible show apN _ _ _); row_room_at pv_opN) | ((with_reducible show ap1 _ _ _); row_room_at pv_op1) | ((with_reducible show ovr _ _); row_room_at pv_ov) | ((with_reducible show ovr2 _ _ _); row_room_at pv_ov2) | ((with_reducible show apP _ _ _); row_room_at pv_cl; first | row_room_at pv_call__law_take | row_room_at pv_call__law_strewn | row_room_at pv_call__law_strewnM | row_room_at pv_call__law_wire) | ((with_reducible show apP _ _ _); row_room_at pv_cl; (first | (rw [sd_l]; first | row_room_at pv_call__law_take | row_room_at pv_call__law_strewn | row_room_at pv_call__law_strewnM | row_room_at pv_call__law_wire) | (rw [sd_r]; first | row_room_at pv_call__law_take | row_room_at pv_call__law_strewn | row_room_at pv_call__law_strewnM | row_room_at pv_call__law_wire))) | row_room_at pv_late))
local macro_rules | `(tactic| row_room_at pv_go__law_two) => `(tactic| (repeat' row_room_at pv_st__law_two))
local macro_rules | `(tactic| row_room_at pv_gox__law_two) => `(tactic| (repeat' ((try ((with_reducible show toEnv _ _); (first | refine toEnv_go rfl ?_ | refine toEnv_gT rfl rfl ?_); row_room_at pv_cl)); (try (conv => whnf)); first | ((with_reducible show _ ∧ _); row_room_at pv_and) | ((with_reducible show ap2 _ _ _ _); row_room_at pv_op2) | ((with_reducible show apN _ _ _); row_room_at pv_opN) | ((with_reducible show ap1 _ _ _); row_room_at pv_op1) | ((with_reducible show ovr _ _); row_room_at pv_ov) | ((with_reducible show ovr2 _ _ _); row_room_at pv_ov2) | ((with_reducible show apP _ _ _); row_room_at pv_cl; first | row_room_at pv_call__law_take | row_room_at pv_call__law_strewn | row_room_at pv_call__law_strewnM | row_room_at pv_call__law_wire) | ((with_reducible show apP _ _ _); row_room_at pv_cl; (first | (rw [sd_l]; first | row_room_at pv_call__law_take | row_room_at pv_call__law_strewn | row_room_at pv_call__law_strewnM | row_room_at pv_call__law_wire) | (rw [sd_r]; first | row_room_at pv_call__law_take | row_room_at pv_call__law_strewn | row_room_at pv_call__law_strewnM | row_room_at pv_call__law_wire))) | row_room_at pv_latex)))
local macro_rules | `(tactic| row_room_at pv_gou__law_two) => `(tactic| (repeat' (first | (with_reducible refine apF_op ?_) | (with_reducible refine apL_op ?_) | row_room_at pv_st__law_two)))

def b__law_two : FS := (fSeq (fAsg 2 (fCall [true, false] ph__law_wire (fCons (fVar 0) (fCons (fVar 1) fNil)))) (fSeq (fPar [3, 4] [true, false] (fCons (fOpN (at1 oList) (fCons (fVar 2) fNil)) (fCons (fCall [true, false] ph__law_take (fCons (fVar 0) (fCons (fOpN (at1 oLen) (fCons (fVar 2) fNil)) fNil))) fNil))) (fSeq (fPar [5, 6] [false, false] (fCons (fCall [true, false] ph__law_take (fCons (fVar 0) (fCons (fC (.int 7)) fNil))) (fCons (fCall [true, false] ph__law_take (fCons (fVar 0) (fCons (fOpN (at1 oLen) (fCons (fVar 2) fNil)) fNil))) fNil))) (fSeq (fIfS (fTst (fOp2 oEq (fVar 5) (fC (.int 0)))) (fRet (fOpN oTup (fCons (fVar 2) (fCons (fCall [true, false] ph__law_wire (fCons (fVar 0) (fCons (fVar 1) fNil))) fNil)))) fNext) (fSeq (fIfS (fTst (fOp2 oEq (fVar 5) (fC (.int 1)))) (fSwp 3 (fCons (fOp2 oIx (fVar 3) (fVar 6)) (fCons (fOp2 oIx (fVar 3) (fVar 4)) fNil)) (fVar 4) (fVar 6)) (fIfS (fTst (fOp2 oEq (fVar 5) (fC (.int 2)))) (fSetIx 3 (fOp2 oAdd (fOpN (at1 oMax) (fCons (fVar 3) fNil)) (fC (.int 1))) (fVar 4)) (fIfS (fAnd (fTst (fOp2 oEq (fVar 5) (fC (.int 3)))) (fTst (fOp2 oGt (fOpN (at1 oLen) (fCons (fVar 3) fNil)) (fC (.int 1))))) (fDrop (fMth 3 mPopAt (fCons (fVar 4) fNil))) (fIfS (fTst (fOp2 oEq (fVar 5) (fC (.int 4)))) (fDrop (fMth 3 mInsert (fCons (fVar 4) (fCons (fOp2 oAdd (fOp2 oAdd (fOpN (at1 oMax) (fCons (fVar 3) fNil)) (fC (.int 1))) (fCall [true, false] ph__law_take (fCons (fVar 0) (fCons (fC (.int 3)) fNil)))) fNil)))) (fIfS (fTst (fOp2 oEq (fVar 5) (fC (.int 5)))) (fAsgO 3 (fOp2 oAdd (fOp2 oAdd (fSl (fVar 3) fNoPart (fPart (fC (.int 1)))) (fCall [true, false] ph__law_strewn (fCons (fVar 0) (fCons (fSl (fVar 3) (fPart (fC (.int 1))) (fPart (fOp1 oNeg (fC (.int 1))))) fNil)))) (fSl (fSl (fVar 3) (fPart (fC (.int 1))) fNoPart) (fPart (fOp1 oNeg (fC (.int 1)))) fNoPart))) fNext))))) (fRet (fOpN oTup (fCons (fVar 2) (fCons (fOpN (at1 oTuple) (fCons (fVar 3) fNil)) fNil)))))))))

theorem ixN_nn {n : Nat} {t : Int} (h0 : 0 ≤ t) (h1 : t < n) : ixN n t = some t.toNat := by
  unfold ixN
  rw [if_pos h0, if_pos (by omega)]
theorem wp_of {s : Int} {ws : List Int} (h : wireOk s ws) : wireOkP (s + 1) ws := ⟨h.1, by have := h.2.1; omega, h.2.2.1, fun w hw => by have := h.2.2.2 w hw; omega⟩
theorem wp_perm {s : Int} {ws vs : List Int} (h : wireOk s ws) (p : vs.Perm ws) : wireOkP (s + 1) vs := by
  have := wp_of h
  exact ⟨by rw [p.length_eq]; exact this.1, by rw [p.length_eq]; exact this.2.1, p.nodup_iff.mpr this.2.2.1, fun w hw => this.2.2.2 w (p.mem_iff.mp hw)⟩
theorem mx_out {ws : List Int} {t : Int} (h : 0 ≤ t) : mx ws + 1 + t ∉ ws := fun hc => by have := le_mx hc; omega
theorem nodup_set : ∀ {ws : List Int} {v : Int} (i : Nat), ws.Nodup → v ∉ ws → (ws.set i v).Nodup
  | [], _, _, _, _ => .nil
  | w :: ws, v, 0, h, hv => by
    obtain ⟨h1, h2⟩ := List.nodup_cons.mp h
    exact List.nodup_cons.mpr ⟨fun hc => hv (List.mem_cons_of_mem _ hc), h2⟩
  | w :: ws, v, i + 1, h, hv => by
    obtain ⟨h1, h2⟩ := List.nodup_cons.mp h
    refine List.nodup_cons.mpr ⟨fun hc => ?_, nodup_set i h2 fun hc => hv (List.mem_cons_of_mem _ hc)⟩
    rcases List.mem_or_eq_of_mem_set hc with hc | hc
    · exact h1 hc
    · exact hv (hc ▸ List.mem_cons_self)
theorem wp_set {s : Int} {ws : List Int} (h : wireOk s ws) (i : Nat) : wireOkP (s + 1) (ws.set i (mx ws + 1)) := by
  have hm := h.2.2.2 _ (mx_mem h.1)
  have h0 : mx ws + 1 ∉ ws := by have := mx_out (ws := ws) (t := 0) (by omega); rwa [Int.add_zero] at this
  refine ⟨by rw [List.length_set]; exact h.1, by rw [List.length_set]; have := h.2.1; omega, nodup_set i h.2.2.1 h0, fun w hw => ?_⟩
  rcases List.mem_or_eq_of_mem_set hw with hw | hw
  · have := h.2.2.2 w hw; omega
  · omega
theorem wp_erase {s : Int} {ws : List Int} (h : wireOk s ws) (j : Nat) (h1 : 1 < ws.length) : wireOkP (s + 1) (ws.eraseIdx j) := by
  have hs := List.eraseIdx_sublist ws j
  have hl := hs.length_le
  refine ⟨by rw [List.length_eraseIdx]; split <;> omega, by have := h.2.1; omega, h.2.2.1.sublist hs, fun w hw => ?_⟩
  have := h.2.2.2 w (hs.subset hw); omega
theorem wp_ins {s : Int} {ws : List Int} {t : Int} (h : wireOk s ws) (j : Nat) (h0 : 0 ≤ t) (h1 : t < 3) : wireOkP (s + 1) (ws.take j ++ [mx ws + 1 + t] ++ ws.drop j) := by
  have hm := h.2.2.2 _ (mx_mem h.1)
  have p : (ws.take j ++ [mx ws + 1 + t] ++ ws.drop j).Perm ((mx ws + 1 + t) :: ws) := by
    rw [List.append_assoc]
    have := List.perm_middle (a := mx ws + 1 + t) (l₁ := ws.take j) (l₂ := ws.drop j)
    rw [List.take_append_drop] at this
    exact this
  refine ⟨by rw [p.length_eq, List.length_cons]; omega, by rw [p.length_eq, List.length_cons]; have := h.2.1; omega, p.nodup_iff.mpr (List.nodup_cons.mpr ⟨mx_out h0, h.2.2.1⟩), fun w hw => ?_⟩
  rcases List.mem_cons.mp (p.mem_iff.mp hw) with rfl | hw
  · omega
  · have := h.2.2.2 w hw; omega
theorem mid_perm : ∀ {ws es : List Int}, es.Perm (ws.drop 1).dropLast → (ws.take 1 ++ es ++ (ws.drop 1).drop ((ws.drop 1).length - 1)).Perm ws
  | [], es, p => by
    have : es = [] := List.perm_nil.mp p
    subst this; exact .nil
  | a :: ws, es, p => by
    have p' : es.Perm ws.dropLast := p
    show ([a] ++ es ++ ws.drop (ws.length - 1)).Perm (a :: ws)
    have e : ws.dropLast ++ ws.drop (ws.length - 1) = ws := by rw [List.dropLast_eq_take, List.take_append_drop]
    have : (a :: (es ++ ws.drop (ws.length - 1))).Perm (a :: (ws.dropLast ++ ws.drop (ws.length - 1))) := (p'.append_right _).cons a
    rw [e] at this
    exact this
theorem swap_perm {ws : List Int} {i j : Nat} (hi : i < ws.length) (hj : j < ws.length) : ((ws.set i ws[j]).set j ws[i]).Perm ws := by
  have h := Array.swap_perm (xs := ws.toArray) (i := i) (j := j) (by simpa using hi) (by simpa using hj)
  have h2 := Array.perm_iff_toList_perm.mp h
  rw [Array.toList_swap] at h2
  simpa using h2
theorem wp_swap {s : Int} {ws : List Int} (h : wireOk s ws) {i j : Int} (hi : 0 ≤ i) (hi2 : i < ws.length) (hj : 0 ≤ j) (hj2 : j < ws.length) : wireOkP (s + 1) ((ws.set i.toNat (gI ws j)).set j.toNat (gI ws i)) := by
  obtain ⟨a, rfl⟩ := Int.eq_ofNat_of_zero_le hi
  obtain ⟨b, rfl⟩ := Int.eq_ofNat_of_zero_le hj
  rw [gI_nat (show a < ws.length by omega), gI_nat (show b < ws.length by omega)]
  exact wp_perm h (swap_perm (by omega) (by omega))
theorem map_erase : ∀ (ws : List Int) (j : Nat), (ws.map PyData.int).eraseIdx j = (ws.eraseIdx j).map PyData.int
  | [], _ => rfl
  | _ :: _, 0 => rfl
  | w :: ws, j + 1 => congrArg (PyData.int w :: ·) (map_erase ws j)
@[irreducible] def ph__law_two : Phi := fun args R => ∃ (m : Nat) (xd : D) (s : Int), args = [ow xd, sh (.int s)] ∧ (Bk m (ow xd)) ∧ (1000 ≤ m) ∧ (1 ≤ s) ∧ (s ≤ 90) ∧ ∀ (ws vs : List Int) (x' : D), (wireOk s ws) → (wireOkP (s + 1) vs) → ((ws.length : Int) ≤ s) → ((vs.length : Int) ≤ s + 1) → (0 < ws.length) → (0 < vs.length) → (Bk (m - 1000) (ow x')) → R (sh (.tuple [.tuple (ws.map .int), .tuple (vs.map .int)])) [ow x']
theorem call__law_two {m : Nat}{xd : D}{s : Int} {R : Cell → List Cell → Prop} (hx : Bk m (ow xd)) (hm : Hold (1000 ≤ m)) (hs : Hold (1 ≤ s)) (hs2 : Hold (s ≤ 90)) (q : ∀ (ws vs : List Int) (x' : D), (wireOk s ws) → (wireOkP (s + 1) vs) → ((ws.length : Int) ≤ s) → ((vs.length : Int) ≤ s + 1) → (0 < ws.length) → (0 < vs.length) → (Bk (m - 1000) (ow x')) → R (sh (.tuple [.tuple (ws.map .int), .tuple (vs.map .int)])) [ow x']) : ph__law_two [ow xd, sh (.int s)] R := by
  unfold ph__law_two
  exact ⟨m, xd, s, rfl, hx, hm.out, hs.out, hs2.out, q⟩
theorem vc__law_two (args R) (h : ph__law_two args R) : b__law_two (startE 7 args) (defK [true, false] R) := by
  unfold ph__law_two at h
  obtain ⟨m, xd, s, rfl, hx, hm, hs, hs2, hR⟩ := h
  (row_room_at pv_go__law_two; row_room_at pv_end)
  all_goals try (refine Hold.mk ?_; simp only [List.length_dropLast, List.length_drop]; omega)
  all_goals try (refine Hold.mk ?_; have hpl := List.Perm.length_eq hes; simp only [List.length_append, List.length_take, List.length_drop, List.length_dropLast] at *; omega)
  · have ok := wp_of hw
    exact hR _ _ _ (by assumption) ok (by assumption) ok.2.1 (by assumption) ok.1 (Bk.le hx' (by omega))
  · refine ⟨_, ixN_nn (by assumption) (by rw [List.length_map]; assumption), ?_⟩
    rw [← List.map_set]
    (row_room_at pv_go__law_two; row_room_at pv_end)
    refine ⟨_, ixN_nn (by assumption) (by rw [List.length_map, List.length_set]; assumption), ?_⟩
    rw [← List.map_set]
    (row_room_at pv_go__law_two; row_room_at pv_end)
    exact hR _ _ _ hw (wp_swap hw (by assumption) (by assumption) (by assumption) (by assumption)) hw2 (by rw [List.length_set, List.length_set]; omega) hw1 (by rw [List.length_set, List.length_set]; exact hw1) (Bk.le hx' (by omega))
  · refine ⟨_, ixN_nn (by assumption) (by rw [List.length_map]; assumption), ?_⟩
    rw [← List.map_set]
    (row_room_at pv_go__law_two; row_room_at pv_end)
    exact hR _ _ _ hw (wp_set hw _) hw2 (by rw [List.length_set]; omega) hw1 (by rw [List.length_set]; exact hw1) (Bk.le hx' (by omega))
  · have h1 : 1 < ws.length := by omega
    refine ⟨_, PyData.int _, six (by assumption) (by rw [List.length_map]; assumption), by rw [List.getElem?_map, List.getElem?_eq_getElem (by omega)]; rfl, ⟨by omega, by omega⟩, ?_⟩
    rw [map_erase]
    (row_room_at pv_go__law_two; row_room_at pv_end)
    exact hR _ _ _ hw (wp_erase hw _ h1) hw2 (wp_erase hw _ h1).2.1 hw1 (wp_erase hw _ h1).1 (Bk.le hx' (by omega))
  · have ok := wp_of hw
    exact hR _ _ _ hw ok hw2 ok.2.1 hw1 ok.1 (Bk.le hx' (by omega))
  · refine ⟨⟨by rw [List.length_map]; exact Nat.lt_of_le_of_lt (show ws.length ≤ 100 by omega) (by decide), by omega, by omega⟩, ?_⟩
    rw [← List.map_take, ← List.map_drop, show [PyData.int (mx ws + 1 + t)] = [mx ws + 1 + t].map PyData.int from rfl, ← List.map_append, ← List.map_append]
    (row_room_at pv_go__law_two; row_room_at pv_end)
    have ok := wp_ins hw (Int.toNat 0) ht0 ht1
    exact hR _ _ _ hw (wp_ins hw _ ht0 ht1) hw2 (wp_ins hw _ ht0 ht1).2.1 hw1 (wp_ins hw _ ht0 ht1).1 (Bk.le hx' (by omega))
  · have ok := wp_perm hw (mid_perm hes)
    exact hR _ _ _ hw ok hw2 ok.2.1 hw1 ok.1 (Bk.le hx' (by simp only [List.length_dropLast, List.length_drop]; omega))
  · have ok := wp_of hw
    exact hR _ _ _ hw ok hw2 ok.2.1 hw1 ok.1 (Bk.le hx' (by omega))

local macro_rules | `(tactic| row_room_at pv_call__law_led) => `(tactic| (refine apP_op (call__law_led (by row_room_at pv_sd) (by row_room_at pv_sd) ?_ ?_ ?_ ?_); (first | (focus row_room_at pv_hs) | rotate_left); (first | (focus row_room_at pv_hs) | rotate_left); (first | (focus row_room_at pv_hs) | rotate_left)))
local macro_rules | `(tactic| row_room_at pv_call__law_alike) => `(tactic| (refine apP_op (call__law_alike (by row_room_at pv_sd) (by row_room_at pv_sd) ?_ ?_ ?_ ?_); (first | (focus row_room_at pv_hs) | rotate_left); (first | (focus row_room_at pv_hs) | rotate_left); (first | (focus row_room_at pv_hs) | rotate_left)))
local macro_rules | `(tactic| row_room_at pv_call__law_begun) => `(tactic| (refine apP_op (call__law_begun  ?_)))
local macro_rules | `(tactic| row_room_at pv_st__law_told_right) => `(tactic| ((try ((with_reducible show toEnv _ _); (first | refine toEnv_go rfl ?_ | refine toEnv_gT rfl rfl ?_); row_room_at pv_cl)); (try (conv => whnf)); first | ((with_reducible show apN (at1 oLenSetL) _ _); (refine v_lenSetL rfl (by row_room_at pv_fl) ?_ ?_; (first | (focus row_room_at pv_hs) | rotate_left)); intro us hus hum) | ((with_reducible show ap2 oIn (.v _ PyData.none) _ _); (refine v_inNon rfl ?_)) | ((with_reducible show ap2 oNotIn (.v _ PyData.none) _ _); (refine v_notNon rfl ?_)) | ((with_reducible show atStr _ _); (with_reducible refine v_atStr ?_)) | ((with_reducible show ap2 oSplit _ _ _); (refine v_split rfl rfl (by decide +kernel) ?_ ?_; (first | (focus row_room_at pv_hs) | rotate_left))) | ((with_reducible show ap2 oPart _ _ _); (refine v_part rfl rfl (by decide +kernel) ?_ ?_; (first | (focus row_room_at pv_hs) | rotate_left))) | ((with_reducible show ap2 oJoin _ _ _); (first | (refine v_joinT rfl rfl (by row_room_at pv_fl) ?_ ?_) | (refine v_joinM rfl rfl (by row_room_at pv_fl) ?_ ?_)); (first | (focus row_room_at pv_hs) | rotate_left)) | ((with_reducible show ap2 (oInS _) _ _ _); first | (refine v_inSg1 rfl rfl ?_) | (refine v_inSg rfl rfl ?_)) | ((with_reducible show apN (at1 oIntS) _ _); (refine v_intS rfl (by with_reducible assumption) ?_ ?_; (first | (focus row_room_at pv_hs) | rotate_left))) | ((with_reducible show _ ∧ _); row_room_at pv_and) | ((with_reducible show ap2 _ _ _ _); row_room_at pv_op2) | ((with_reducible show apN _ _ _); row_room_at pv_opN) | ((with_reducible show ap1 _ _ _); row_room_at pv_op1) | ((with_reducible show ovr _ _); row_room_at pv_ov) | ((with_reducible show ovr2 _ _ _); row_room_at pv_ov2) | ((with_reducible show apP _ _ _); row_room_at pv_cl; first | row_room_at pv_call__law_led | row_room_at pv_call__law_alike | row_room_at pv_call__law_begun) | ((with_reducible show apP _ _ _); row_room_at pv_cl; (first | (rw [sd_l]; first | row_room_at pv_call__law_led | row_room_at pv_call__law_alike | row_room_at pv_call__law_begun) | (rw [sd_r]; first | row_room_at pv_call__law_led | row_room_at pv_call__law_alike | row_room_at pv_call__law_begun))) | row_room_at pv_late))
local macro_rules | `(tactic| row_room_at pv_go__law_told_right) => `(tactic| (repeat' row_room_at pv_st__law_told_right))
local macro_rules | `(tactic| row_room_at pv_gox__law_told_right) => `(tactic| (repeat' ((try ((with_reducible show toEnv _ _); (first | refine toEnv_go rfl ?_ | refine toEnv_gT rfl rfl ?_); row_room_at pv_cl)); (try (conv => whnf)); first | ((with_reducible show apN (at1 oLenSetL) _ _); (refine v_lenSetL rfl (by row_room_at pv_fl) ?_ ?_; (first | (focus row_room_at pv_hs) | rotate_left)); intro us hus hum) | ((with_reducible show ap2 oIn (.v _ PyData.none) _ _); (refine v_inNon rfl ?_)) | ((with_reducible show ap2 oNotIn (.v _ PyData.none) _ _); (refine v_notNon rfl ?_)) | ((with_reducible show atStr _ _); (with_reducible refine v_atStr ?_)) | ((with_reducible show ap2 oSplit _ _ _); (refine v_split rfl rfl (by decide +kernel) ?_ ?_; (first | (focus row_room_at pv_hs) | rotate_left))) | ((with_reducible show ap2 oPart _ _ _); (refine v_part rfl rfl (by decide +kernel) ?_ ?_; (first | (focus row_room_at pv_hs) | rotate_left))) | ((with_reducible show ap2 oJoin _ _ _); (first | (refine v_joinT rfl rfl (by row_room_at pv_fl) ?_ ?_) | (refine v_joinM rfl rfl (by row_room_at pv_fl) ?_ ?_)); (first | (focus row_room_at pv_hs) | rotate_left)) | ((with_reducible show ap2 (oInS _) _ _ _); first | (refine v_inSg1 rfl rfl ?_) | (refine v_inSg rfl rfl ?_)) | ((with_reducible show apN (at1 oIntS) _ _); (refine v_intS rfl (by with_reducible assumption) ?_ ?_; (first | (focus row_room_at pv_hs) | rotate_left))) | ((with_reducible show _ ∧ _); row_room_at pv_and) | ((with_reducible show ap2 _ _ _ _); row_room_at pv_op2) | ((with_reducible show apN _ _ _); row_room_at pv_opN) | ((with_reducible show ap1 _ _ _); row_room_at pv_op1) | ((with_reducible show ovr _ _); row_room_at pv_ov) | ((with_reducible show ovr2 _ _ _); row_room_at pv_ov2) | ((with_reducible show apP _ _ _); row_room_at pv_cl; first | row_room_at pv_call__law_led | row_room_at pv_call__law_alike | row_room_at pv_call__law_begun) | ((with_reducible show apP _ _ _); row_room_at pv_cl; (first | (rw [sd_l]; first | row_room_at pv_call__law_led | row_room_at pv_call__law_alike | row_room_at pv_call__law_begun) | (rw [sd_r]; first | row_room_at pv_call__law_led | row_room_at pv_call__law_alike | row_room_at pv_call__law_begun))) | row_room_at pv_latex)))
local macro_rules | `(tactic| row_room_at pv_gou__law_told_right) => `(tactic| (repeat' (first | (with_reducible refine apF_op ?_) | (with_reducible refine apL_op ?_) | row_room_at pv_st__law_told_right)))

def b__law_told_right : FS := (fSeq (fIfS (fTst (fCall [false, false, false] ph__law_alike (fCons (fVar 0) (fCons (fVar 1) (fCons (fVar 2) fNil))))) (fRet (fOp2 oIsN (fVar 3) (fC .none))) fNext) (fSeq (fIfS (fOr (fNot (fTst (fOp1 (oIsi ["tuple"]) (fVar 3)))) (fOr (fTst (fOp2 oNe (fOpN (at1 oLen) (fCons (fVar 3) fNil)) (fC (.int 3)))) (fNot (fTst (fOp1 (oIsi ["list"]) (fOp2 oIx (fVar 3) (fC (.int 2)))))))) (fRet (fC (.bool false))) fNext) (fSeq (fUnp (gT 3 (gsCons (gN 4) (gsCons (gN 5) (gsCons (gN 6) gsNil)))) (fVar 3)) (fSeq (fIfS (fOr (fNot (fTst (fOp1 (oIsi ["int"]) (fVar 4)))) (fOr (fNot (fTst (fChain oLe oLe (fC (.int 1)) (fVar 4) (fVar 2)))) (fTst (fOp2 oNotIn (fVar 5) (fOpN oTup (fCons (fC (.str "left")) (fCons (fC (.str "right")) fNil))))))) (fRet (fC (.bool false))) fNext) (fSeq (fIfS (fNot (fTst (fOpN (at1 oAll) (fCons (fLc [8] (fSeqI (fVar 6)) (gN 8) fYes (fAndV (fOp1 (oIsi ["tuple"]) (fVar 8)) (fAndV (fOp2 oIn (fOp2 oIx (fVar 8) (fC (.int 0))) (fOpN oTup (fCons (fC (.str "left")) (fCons (fC (.str "right")) fNil)))) (fOp2 oGe (fOp2 oIx (fVar 8) (fC (.int 1))) (fC (.int 1)))))) fNil)))) (fRet (fC (.bool false))) fNext) (fSeq (fAsg 7 (fCall [false, false] ph__law_begun (fCons (fVar 5) (fCons (fVar 4) fNil)))) (fRet (fOp2 oNe (fOp2 oIx (fCall [false, false, false] ph__law_led (fCons (fVar 0) (fCons (fVar 7) (fCons (fVar 6) fNil)))) (fC (.int 1))) (fOp2 oIx (fCall [false, false, false] ph__law_led (fCons (fVar 1) (fCons (fVar 7) (fCons (fVar 6) fNil)))) (fC (.int 1)))))))))))

-- V5
-- USES told_apart
-- USES _law_alike
-- USES _law_led
@[irreducible] def ph__law_told_right : Phi := fun args R => ∃ (d e0 : D) (ws vs : List Int) (m : Nat), args = [sh d, sh e0, sh (.int m), sh (toldD (toldT ws vs m (keysT ws vs)))] ∧ (Ints d ws) ∧ (Ints e0 vs) ∧ (ws.Nodup ∧ vs.Nodup) ∧ ((∀ w ∈ ws, 1 ≤ w) ∧ (∀ w ∈ vs, 1 ≤ w)) ∧ (ws.length ≤ 400) ∧ (vs.length ≤ 400) ∧ (m ≤ 1000) ∧ R (sh (.bool true)) []
theorem call__law_told_right {d e0 : D}{ws vs : List Int}{m : Nat} {R : Cell → List Cell → Prop} (hd : Ints d ws) (he : Ints e0 vs) (hnd : Hold (ws.Nodup ∧ vs.Nodup)) (hp : Hold ((∀ w ∈ ws, 1 ≤ w) ∧ (∀ w ∈ vs, 1 ≤ w))) (hn : Hold (ws.length ≤ 400)) (hm : Hold (vs.length ≤ 400)) (hk : Hold (m ≤ 1000)) (q : R (sh (.bool true)) []) : ph__law_told_right [sh d, sh e0, sh (.int m), sh (toldD (toldT ws vs m (keysT ws vs)))] R := by
  unfold ph__law_told_right
  exact ⟨d, e0, ws, vs, m, rfl, hd, he, hnd.out, hp.out, hn.out, hm.out, hk.out, q⟩
theorem vc__law_told_right (args R) (h : ph__law_told_right args R) : b__law_told_right (startE 9 args) (defK [false, false, false, false] R) := by
  unfold ph__law_told_right at h
  obtain ⟨d, e0, ws, vs, m, rfl, hd, he, hnd, hp, hn, hm, hk, hR⟩ := h
  cases ht : toldT ws vs m (keysT ws vs) with
  | none =>
    (row_room_at pv_go__law_told_right; row_room_at pv_end)
    rw [ht] at hc
    cases hc
  | some r =>
    obtain ⟨k, b, row⟩ := r
    have hth := told_heard hnd.1 hnd.2 ht
    have hrr := rowT_ok ht
    have hk1 : 1 ≤ k := hth.1
    have hk2 : k ≤ m := hth.2.1
    have hrl : row.length ≤ 2 := hrr.1
    (row_room_at pv_go__law_told_right; row_room_at pv_end)
    · rw [ht] at hc
      cases hc
    · refine ⟨by cases b <;> exact dep_shp (n := 0) (by decide +kernel) (by decide), shp_lr, ?_⟩
      rw [inD_lr, decide_eq_true (show sideS b = "left" ∨ sideS b = "right" by cases b <;> simp [sideS])]
      (row_room_at pv_go__law_told_right; row_room_at pv_end)
      have hsz : row.length ≤ sizeLine := Nat.le_trans hrl (by decide)
      refine lc_mp (prW false) (fun _ => PyData.bool true) (fun p acc N hq hl2 hN => ?_) trivial (.mk hsz) ?_
      · have hpos : 1 ≤ p.2 := (hrr.2 p hq).elim (hp.1 _) (hp.2 _)
        obtain ⟨pb, ps⟩ := p
        have e0 : prW false (pb, ps) = .tuple [.str (sideS pb), .int ps] := rfl
        rw [e0]
        (row_room_at pv_go__law_told_right; row_room_at pv_end)
        refine ⟨by cases pb <;> exact dep_shp (n := 0) (by decide +kernel) (by decide), shp_lr, ?_⟩
        rw [inD_lr, decide_eq_true (show sideS pb = "left" ∨ sideS pb = "right" by cases pb <;> simp [sideS])]
        (row_room_at pv_go__law_told_right; row_room_at pv_end)
        rw [decide_eq_true hpos]
        exact hN
      · have hl1 := (heardS_len ws row (inT0 b k))
        have hok : okS ws.length (inT0 b (k : Int)) := inT0_ok (by omega) b
        have hok2 : okS vs.length (inT0 b (k : Int)) := inT0_ok (by omega) b
        have hrl2 : row.length ≤ 2 ^ 20 := by omega
        (row_room_at pv_go__law_told_right; row_room_at pv_end)
        · exfalso
          simp at hc
        · exact .mk (by rw [decide_eq_false hth.2.2]; rfl)

local macro_rules | `(tactic| row_room_at pv_call_told_apart) => `(tactic| (refine apP_op (call_told_apart (by row_room_at pv_sd) (by row_room_at pv_sd) ?_ ?_ ?_ ?_); (first | (focus row_room_at pv_hs) | rotate_left); (first | (focus row_room_at pv_hs) | rotate_left); (first | (focus row_room_at pv_hs) | rotate_left)))
local macro_rules | `(tactic| row_room_at pv_call_shows_apart) => `(tactic| (refine apP_op (call_shows_apart (by row_room_at pv_sd) (by row_room_at pv_sd) ?_ ?_ ?_ ?_); (first | (focus row_room_at pv_hs) | rotate_left); (first | (focus row_room_at pv_hs) | rotate_left); (first | (focus row_room_at pv_hs) | rotate_left)))
local macro_rules | `(tactic| row_room_at pv_call__law_two) => `(tactic| (refine apP_op (call__law_two (by row_room_at pv_sd) ?_ ?_ ?_ (fun ws vs x' hw hv hw2 hv2 hw0 hv0 hx' => ?_)); (first | (focus row_room_at pv_hs) | rotate_left); (first | (focus row_room_at pv_hs) | rotate_left); (first | (focus row_room_at pv_hs) | rotate_left)))
local macro_rules | `(tactic| row_room_at pv_call__law_told_right) => `(tactic| (refine apP_op (call__law_told_right (by row_room_at pv_sd) (by row_room_at pv_sd) ?_ ?_ ?_ ?_ ?_ ?_); (first | (focus row_room_at pv_hs) | rotate_left); (first | (focus row_room_at pv_hs) | rotate_left); (first | (focus row_room_at pv_hs) | rotate_left); (first | (focus row_room_at pv_hs) | rotate_left); (first | (focus row_room_at pv_hs) | rotate_left)))
local macro_rules | `(tactic| row_room_at pv_st__law_right) => `(tactic| ((try ((with_reducible show toEnv _ _); (first | refine toEnv_go rfl ?_ | refine toEnv_gT rfl rfl ?_); row_room_at pv_cl)); (try (conv => whnf)); first | ((with_reducible show ((0 : Int) ≤ _ ∧ _ < _) ∧ _); refine And.intro ⟨by omega, by omega⟩ ?_) | ((with_reducible show ap2 oNe (.v _ (optI _)) (.v _ (.int _)) _); (with_reducible refine v_neOI ?_)) | ((with_reducible show dBO _ _); refine dBO_ob ?_) | ((with_reducible show apN (at1 oAnyO) _ _); (refine v_anyO rfl trivial ?_)) | ((with_reducible show apFl _ _ _ _); first | (with_reducible refine fl_pages ?_) | (with_reducible refine fl_log ?_)) | ((with_reducible show shI _ _ ∧ _); refine And.intro shI_bn ?_) | ((with_reducible show isInsN _ _ _ ∧ _); refine And.intro (ins_bn (by decide +kernel) (by decide +kernel)) ?_) | ((with_reducible show immO _ ∧ _); refine And.intro (by row_room_at pv_immt) ?_) | ((with_reducible show Pv.keptL _ _ _ ∧ _); refine And.intro ?_ ?_; (focus (repeat' row_room_at pv_kept)); row_room_at pv_lends) | ((with_reducible show shr0 _ ∧ _); refine And.intro True.intro ?_) | ((with_reducible show fAppF _ _ _ _ _ _ _); (refine app_log rfl ?_ ?_; (first | (focus row_room_at pv_hs) | rotate_left)); row_room_at pv_lends) | ((with_reducible show onIns _ _ _ ∧ _); refine And.intro (onI_bn (lk_no (by decide +kernel) (by decide +kernel))) ?_) | ((with_reducible show allShr _ ∧ _); refine And.intro True.intro ?_) | ((with_reducible show okX _ ∧ _); refine And.intro (by assumption) ?_) | (with_reducible refine v_cm ?_) | ((with_reducible show _ ∧ _); row_room_at pv_and) | ((with_reducible show ap2 _ _ _ _); row_room_at pv_op2) | ((with_reducible show apN _ _ _); row_room_at pv_opN) | ((with_reducible show ap1 _ _ _); row_room_at pv_op1) | ((with_reducible show ovr _ _); row_room_at pv_ov) | ((with_reducible show ovr2 _ _ _); row_room_at pv_ov2) | ((with_reducible show apP _ _ _); row_room_at pv_cl; first | row_room_at pv_call_told_apart | row_room_at pv_call_shows_apart | row_room_at pv_call__law_take | row_room_at pv_call__law_two | row_room_at pv_call__law_told_right) | ((with_reducible show apP _ _ _); row_room_at pv_cl; (first | (rw [sd_l]; first | row_room_at pv_call_told_apart | row_room_at pv_call_shows_apart | row_room_at pv_call__law_take | row_room_at pv_call__law_two | row_room_at pv_call__law_told_right) | (rw [sd_r]; first | row_room_at pv_call_told_apart | row_room_at pv_call_shows_apart | row_room_at pv_call__law_take | row_room_at pv_call__law_two | row_room_at pv_call__law_told_right))) | row_room_at pv_late))
local macro_rules | `(tactic| row_room_at pv_go__law_right) => `(tactic| (repeat' row_room_at pv_st__law_right))
local macro_rules | `(tactic| row_room_at pv_gox__law_right) => `(tactic| (repeat' ((try ((with_reducible show toEnv _ _); (first | refine toEnv_go rfl ?_ | refine toEnv_gT rfl rfl ?_); row_room_at pv_cl)); (try (conv => whnf)); first | ((with_reducible show ((0 : Int) ≤ _ ∧ _ < _) ∧ _); refine And.intro ⟨by omega, by omega⟩ ?_) | ((with_reducible show ap2 oNe (.v _ (optI _)) (.v _ (.int _)) _); (with_reducible refine v_neOI ?_)) | ((with_reducible show dBO _ _); refine dBO_ob ?_) | ((with_reducible show apN (at1 oAnyO) _ _); (refine v_anyO rfl trivial ?_)) | ((with_reducible show apFl _ _ _ _); first | (with_reducible refine fl_pages ?_) | (with_reducible refine fl_log ?_)) | ((with_reducible show shI _ _ ∧ _); refine And.intro shI_bn ?_) | ((with_reducible show isInsN _ _ _ ∧ _); refine And.intro (ins_bn (by decide +kernel) (by decide +kernel)) ?_) | ((with_reducible show immO _ ∧ _); refine And.intro (by row_room_at pv_immt) ?_) | ((with_reducible show Pv.keptL _ _ _ ∧ _); refine And.intro ?_ ?_; (focus (repeat' row_room_at pv_kept)); row_room_at pv_lends) | ((with_reducible show shr0 _ ∧ _); refine And.intro True.intro ?_) | ((with_reducible show fAppF _ _ _ _ _ _ _); (refine app_log rfl ?_ ?_; (first | (focus row_room_at pv_hs) | rotate_left)); row_room_at pv_lends) | ((with_reducible show onIns _ _ _ ∧ _); refine And.intro (onI_bn (lk_no (by decide +kernel) (by decide +kernel))) ?_) | ((with_reducible show allShr _ ∧ _); refine And.intro True.intro ?_) | ((with_reducible show okX _ ∧ _); refine And.intro (by assumption) ?_) | (with_reducible refine v_cm ?_) | ((with_reducible show _ ∧ _); row_room_at pv_and) | ((with_reducible show ap2 _ _ _ _); row_room_at pv_op2) | ((with_reducible show apN _ _ _); row_room_at pv_opN) | ((with_reducible show ap1 _ _ _); row_room_at pv_op1) | ((with_reducible show ovr _ _); row_room_at pv_ov) | ((with_reducible show ovr2 _ _ _); row_room_at pv_ov2) | ((with_reducible show apP _ _ _); row_room_at pv_cl; first | row_room_at pv_call_told_apart | row_room_at pv_call_shows_apart | row_room_at pv_call__law_take | row_room_at pv_call__law_two | row_room_at pv_call__law_told_right) | ((with_reducible show apP _ _ _); row_room_at pv_cl; (first | (rw [sd_l]; first | row_room_at pv_call_told_apart | row_room_at pv_call_shows_apart | row_room_at pv_call__law_take | row_room_at pv_call__law_two | row_room_at pv_call__law_told_right) | (rw [sd_r]; first | row_room_at pv_call_told_apart | row_room_at pv_call_shows_apart | row_room_at pv_call__law_take | row_room_at pv_call__law_two | row_room_at pv_call__law_told_right))) | row_room_at pv_latex)))
local macro_rules | `(tactic| row_room_at pv_gou__law_right) => `(tactic| (repeat' (first | (with_reducible refine apF_op ?_) | (with_reducible refine apL_op ?_) | row_room_at pv_st__law_right)))

def b__law_right : FS := (fSeq (fFor (fRange1 (fCons (fC (.int 4)) fNil)) (gN 1) (fSeq (fUnp (gT 2 (gsCons (gN 2) (gsCons (gN 3) gsNil))) (fCall [true, false] ph__law_two (fCons (fVar 0) (fCons (fC (.int 7)) fNil)))) (fFor (fSeqI (fOpN oTup (fCons (fC (.int 1)) (fCons (fOp2 oAdd (fC (.int 1)) (fCall [true, false] ph__law_take (fCons (fVar 0) (fCons (fC (.int 9)) fNil)))) fNil)))) (gN 4) (fSeq (fAsgO 5 (fCall [false, false, false] ph_told_apart (fCons (fVar 2) (fCons (fVar 3) (fCons (fVar 4) fNil))))) (fSeq (fIfS (fLend 5 [0] (fNot (fTst (fCall [false, false, false, false] ph__law_told_right (fCons (fVar 2) (fCons (fVar 3) (fCons (fVar 4) (fCons (fFrz (fFz 5)) fNil)))))))) (fRet (fC (.bool false))) fNext) (fSeq (fIfS (fNot (fTst (fCall [false, false, false, false] ph__law_told_right (fCons (fVar 3) (fCons (fVar 2) (fCons (fVar 4) (fCons (fFrz (fCallK 0 3 [2, 1, 0] ph_told_apart fNil (fCons (fVar 4) (fCons (fOpN (at1 oList) (fCons (fVar 2) fNil)) (fCons (fOpN (at1 oList) (fCons (fVar 3) fNil)) fNil))))) fNil))))))) (fRet (fC (.bool false))) fNext) (fSeq (fAsg 6 (fLendE 5 [0] (fOpN (at1 oRepr) (fCons (fFrz (fFz 5)) fNil)))) (fSeq (fIfS (fTst (fOp2 oNotN (fFrz (fCall [false, false, false] ph_told_apart (fCons (fVar 2) (fCons (fVar 3) (fCons (fC (.int 0)) fNil))))) (fC .none))) (fRet (fC (.bool false))) fNext) (fSeq (fIfS (fLend 5 [0] (fAnd (fTst (fOp2 oNotN (fVar 5) (fC .none))) (fTst (fOp2 oNotB (fCall [false, false, false, false] ph_shows_apart (fCons (fVar 2) (fCons (fVar 3) (fCons (fC (.int 0)) (fCons (fFrz (fFz 5)) fNil))))) (fC (.bool false)))))) (fRet (fC (.bool false))) fNext) (fSeq (fIfS (fTst (fOp2 oNotN (fVar 5) (fC .none))) (fDrop (fAppT 5 2)) fNext) (fIfS (fOr (fTst (fOp2 oNe (fOpN (at1 oRepr) (fCons (fFrz (fCall [false, false, false] ph_told_apart (fCons (fVar 2) (fCons (fVar 3) (fCons (fVar 4) fNil))))) fNil)) (fVar 6))) (fTst (fOp2 oNotN (fFrz (fCall [false, false, false] ph_told_apart (fCons (fVar 2) (fCons (fOpN (at1 oList) (fCons (fVar 2) fNil)) (fCons (fVar 4) fNil))))) (fC .none)))) (fRet (fC (.bool false))) fNext))))))))))) (fRet (fC (.bool true))))

-- V0
-- VQ
theorem alike_zero44 {ws vs : List Int} : Alike ws vs 0 := fun b s => by unfold endsL; simp
theorem told_rep44 {ws vs : List Int} {k : Nat} (hn : ws.Nodup) (hv : vs.Nodup) (hk : k ≤ 1000) (h : ∀ w, w ∈ ws ∨ w ∈ vs → w.natAbs < 10 ^ 19) : RepD (toldD (toldT ws vs k (keysT ws vs))) := by
  cases ht : toldT ws vs k (keysT ws vs) with
  | none => exact ⟨rfl, rfl, by decide, by decide +kernel⟩
  | some r =>
    obtain ⟨n, b, row⟩ := r
    obtain ⟨h1, h2⟩ := rowT_ok ht
    have h3 : n ≤ k := (told_heard hn hv ht).2.1
    show RepD (.tuple [.int n, .str (sideS b), .list (row.map (prW false))])
    refine (Rep.tuple (m := 2) (n := 101) fun d hd => ?_).d ⟨_, .inr rfl⟩ (by decide) (show (101 + 2) * 3 + 3 ≤ 10000000 by decide)
    simp only [List.mem_cons, List.not_mem_nil, or_false] at hd
    rcases hd with rfl | rfl | rfl
    · exact (Rep.int (by omega)).mono (by decide) (by decide)
    · exact Rep.side.mono (by decide) (by decide)
    · exact Rep.listM (l := 2) h1 fun p hp => Rep.prW (h _ (h2 p hp))
theorem lend_bxT {m : Nat} {z : D} {e : Pv.Env} (h : Bk m (ow z)) : ∀ j ∈ [0], True ∧ ∃ ns : List Int, (some (ow z) :: e : Pv.Env)[j]? = some (some ⟨1, .list (ns.map .int)⟩) := fun j hj => ⟨trivial, (lend_bx (e' := e) h j hj).2⟩
theorem told0 {R : Cell → List Cell → Prop} {ws vs : List Int} (hn : ws.length ≤ 400) (hm : vs.length ≤ 400) (q : R (toldC (toldT ws vs 0 (keysT ws vs))) []) : ph_told_apart [sh (.tuple (ws.map .int)), sh (.tuple (vs.map .int)), sh (.int 0)] R :=
  call_told_apart (m := 0) (.inr rfl) (.inr rfl) (.mk hn) (.mk hm) (.mk (by omega)) q
theorem toldk {R : Cell → List Cell → Prop} {ws vs : List Int} {k : Nat} (hn : ws.length ≤ 400) (hm : vs.length ≤ 400) (hk : k ≤ 1000) (q : R (toldC (toldT ws vs k (keysT ws vs))) []) : ph_told_apart [sh (.tuple (ws.map .int)), sh (.tuple (vs.map .int)), sh (.int k)] R :=
  call_told_apart (m := k) (.inr rfl) (.inr rfl) (.mk hn) (.mk hm) (.mk hk) q
theorem toldl {R : Cell → List Cell → Prop} {ws vs : List Int} {k : Nat} (hn : ws.length ≤ 400) (hm : vs.length ≤ 400) (hk : k ≤ 1000) (q : R (toldC (toldT ws vs k (keysT ws vs))) []) : ph_told_apart [sh (.tuple (ws.map .int)), sh (.list (vs.map .int)), sh (.int k)] R :=
  call_told_apart (m := k) (.inr rfl) (.inl rfl) (.mk hn) (.mk hm) (.mk hk) q
theorem vc__law_right (args R) (h : ph__law_right args R) : b__law_right (startE 7 args) (defK [true] R) := by
  obtain ⟨x, rfl, hx, hR⟩ := h
  obtain ⟨xd, rfl⟩ := hx.ex
  have hx : Bk (2 ^ 58) (ow xd) := .of hx (by decide)
  (row_room_at pv_go__law_right; row_room_at pv_end)
  refine for_st .int (fun xs E e => ∃ (z : D) (o1 o2 o3 o4 o5 o6 : Option Cell), Bk (2000 * xs.length) (ow z) ∧ e = ((((((E.set 0 (some (ow z))).set 1 o1).set 2 o2).set 3 o3).set 4 o4).set 5 o5).set 6 o6) ⟨_, _, _, _, _, _, _, Bk.le hx (by rw [irange_len]; decide), rfl⟩ (fun i xs e N hI hN => ?_) (fun e hI => ?_)
  · obtain ⟨z, o1, o2, o3, o4, o5, o6, g1, rfl⟩ := hI
    rw [List.length_cons] at g1
    clear hx
    row_room_at pv_cl
    (row_room_at pv_go__law_right; row_room_at pv_end)
    have ht : t = ((t.toNat : Nat) : Int) := by omega
    generalize t.toNat = tn at ht
    subst ht
    rw [show [PyData.int 1, PyData.int (1 + (tn : Int))] = [1, tn + 1].map (fun k : Nat => PyData.int (k : Int)) from by
      show _ = [PyData.int ((1 : Nat) : Int), PyData.int ((tn + 1 : Nat) : Int)]
      rw [show (1 : Int) + tn = ((tn + 1 : Nat) : Int) by omega]; rfl]
    refine for_st (xs0 := [1, tn + 1]) (fun k : Nat => PyData.int (k : Int)) (fun ks E e => ∃ (o4 o5 o6 : Option Cell), (∀ k ∈ ks, 1 ≤ k ∧ k ≤ 10) ∧ e = ((E.set 4 o4).set 5 o5).set 6 o6) ⟨_, _, _, fun k hk => by simp at hk; omega, rfl⟩ (fun k ks e N2 hI2 hN2 => ?_) (fun e hI2 => ?_)
    · obtain ⟨o4, o5, o6, i1, rfl⟩ := hI2
      have hk := i1 k List.mem_cons_self
      have i2 := fun j h => i1 j (List.mem_cons_of_mem _ h)
      have hwn := hw.2.2.1
      have hvn := hv.2.2.1
      have hw1 : ∀ w ∈ ws, 1 ≤ w := fun w h => (hw.2.2.2 w h).1
      have hv1 : ∀ w ∈ vs, 1 ≤ w := fun w h => (hv.2.2.2 w h).1
      have hb : ∀ w, w ∈ ws ∨ w ∈ vs → w.natAbs < 10 ^ 19 := fun w h => by
        rcases h with h | h
        · have := hw.2.2.2 w h; omega
        · have := hv.2.2.2 w h; omega
      have hrp := told_rep44 hwn hvn (show k ≤ 1000 by omega) hb
      have hnn : ws.Nodup ∧ vs.Nodup := ⟨hwn, hvn⟩
      have hnn2 : vs.Nodup ∧ ws.Nodup := ⟨hvn, hwn⟩
      have hpp : (∀ w ∈ ws, 1 ≤ w) ∧ (∀ w ∈ vs, 1 ≤ w) := ⟨hw1, hv1⟩
      have hpp2 : (∀ w ∈ vs, 1 ≤ w) ∧ (∀ w ∈ ws, 1 ≤ w) := ⟨hv1, hw1⟩
      have hC0 : toldC (toldT ws vs 0 (keysT ws vs)) = sh .none := by rw [told_none.mpr alike_zero44]; rfl
      have hCw : toldC (toldT ws ws k (keysT ws ws)) = sh .none := by rw [told_none.mpr fun _ _ => rfl]; rfl
      have hU := told_un (toldT ws vs k (keysT ws vs))
      rcases hto : toldT ws vs k (keysT ws vs) with _ | ⟨n, b, row⟩
      · have hC : toldC (toldT ws vs k (keysT ws vs)) = sh .none := by rw [hto]; rfl
        rw [hC] at hU
        have hU : unO PyData.none = toldD (toldT ws vs k (keysT ws vs)) := hU
        have hrq : RepD (unO PyData.none) := ⟨rfl, rfl, by decide, by decide +kernel⟩
        clear hto
        row_room_at pv_cl
        repeat ((fail_if_success ((try (conv => whnf)); (with_reducible show apP ph_told_apart _ _))); row_room_at pv_st__law_right)
        row_room_at pv_cl
        refine apP_op (toldk (by omega) (by omega) (by omega) ?_)
        rw [hC]
        repeat ((fail_if_success ((try (conv => whnf)); (with_reducible show apP ph__law_told_right _ _))); row_room_at pv_st__law_right)
        row_room_at pv_cl
        rw [hU]
        row_room_at pv_st__law_right
        repeat ((fail_if_success (with_reducible show (∀ j ∈ [0], True ∧ _) ∧ _)); row_room_at pv_st__law_right)
        refine ⟨lend_bxT (by assumption), ?_⟩
        repeat ((fail_if_success ((try (conv => whnf)); (with_reducible show apP ph__law_told_right _ _))); row_room_at pv_st__law_right)
        row_room_at pv_cl
        rw [told_un]
        row_room_at pv_st__law_right
        repeat ((fail_if_success ((try (conv => whnf)); (with_reducible show apP ph_told_apart _ _))); row_room_at pv_st__law_right)
        row_room_at pv_cl
        refine apP_op (told0 (by omega) (by omega) ?_)
        rw [hC0]
        repeat ((fail_if_success ((try (conv => whnf)); (with_reducible show apP ph_told_apart _ _))); row_room_at pv_st__law_right)
        row_room_at pv_cl
        refine apP_op (toldk (by omega) (by omega) (by omega) ?_)
        rw [hC]
        repeat ((fail_if_success ((try (conv => whnf)); (with_reducible show apP ph_told_apart _ _))); row_room_at pv_st__law_right)
        row_room_at pv_cl
        refine apP_op (toldl (by omega) (by omega) (by omega) ?_)
        rw [hCw]
        (row_room_at pv_go__law_right; row_room_at pv_end)
        all_goals first | exact .mk hrq | exact hN2 _ ⟨_, _, _, i2, rfl⟩
      · have hC : toldC (toldT ws vs k (keysT ws vs)) = ⟨2, otpD [.int n, .str (sideS b), .list (row.map (prW false))]⟩ := by rw [hto]; rfl
        rw [hC] at hU
        have hU : unO (otpD [.int n, .str (sideS b), .list (row.map (prW false))]) = toldD (toldT ws vs k (keysT ws vs)) := hU
        have hrq : RepD (unO (otpD [.int n, .str (sideS b), .list (row.map (prW false))])) := by rw [hU]; exact hrp
        have hn1 : 1 ≤ n := (told_heard hwn hvn hto).1
        have hrl : row.length ≤ 2 := (rowT_ok hto).1
        have hsb : showsB ws vs 0 n b row = false := by unfold showsB; rw [decide_eq_false (show ¬ (n : Int) ≤ 0 by omega)]; simp
        have hsz : (row.map (prW false)).length < sizeLine := by rw [List.length_map]; exact Nat.lt_of_le_of_lt hrl (by decide)
        clear hto
        row_room_at pv_cl
        repeat ((fail_if_success ((try (conv => whnf)); (with_reducible show apP ph_told_apart _ _))); row_room_at pv_st__law_right)
        row_room_at pv_cl
        refine apP_op (toldk (by omega) (by omega) (by omega) ?_)
        rw [hC]
        repeat ((fail_if_success ((try (conv => whnf)); (with_reducible show apP ph__law_told_right _ _))); row_room_at pv_st__law_right)
        row_room_at pv_cl
        rw [hU]
        row_room_at pv_st__law_right
        repeat ((fail_if_success ((try (conv => whnf)); (with_reducible show apP ph__law_told_right _ _))); row_room_at pv_st__law_right)
        row_room_at pv_cl
        rw [told_un]
        row_room_at pv_st__law_right
        repeat ((fail_if_success ((try (conv => whnf)); (with_reducible show apP ph_told_apart _ _))); row_room_at pv_st__law_right)
        row_room_at pv_cl
        refine apP_op (told0 (by omega) (by omega) ?_)
        rw [hC0]
        repeat ((fail_if_success ((try (conv => whnf)); (with_reducible show apP ph_shows_apart _ _))); row_room_at pv_st__law_right)
        row_room_at pv_cl
        rw [unO_otp]
        row_room_at pv_st__law_right
        rw [hsb]
        repeat ((fail_if_success ((try (conv => whnf)); (with_reducible show onOtp _ _))); row_room_at pv_st__law_right)
        conv => whnf
        row_room_at pv_cl
        refine ev_onOtp ⟨_, rfl, hsz, ?_⟩
        row_room_at pv_cl
        repeat ((fail_if_success ((try (conv => whnf)); (with_reducible show apP ph_told_apart _ _))); row_room_at pv_st__law_right)
        row_room_at pv_cl
        refine apP_op (toldk (by omega) (by omega) (by omega) ?_)
        rw [hC]
        repeat ((fail_if_success ((try (conv => whnf)); (with_reducible show apP ph_told_apart _ _))); row_room_at pv_st__law_right)
        row_room_at pv_cl
        refine apP_op (toldl (by omega) (by omega) (by omega) ?_)
        rw [hCw]
        (row_room_at pv_go__law_right; row_room_at pv_end)
        all_goals first | exact .mk hrq | exact hN2 _ ⟨_, _, _, i2, rfl⟩
    · obtain ⟨o4, o5, o6, i1, rfl⟩ := hI2
      exact hN _ ⟨_, _, _, _, _, _, _, Bk.le ‹_› (by omega), rfl⟩
  · obtain ⟨z, o1, o2, o3, o4, o5, o6, g1, rfl⟩ := hI
    row_room_at pv_cl
    (row_room_at pv_go__law_right; row_room_at pv_end)

def b_law : FS := (fRet (fOpN (at1 oAll) (fCons (fLc [1] (fRange1 (fCons (fOp2 oAdd (fC (.int 1)) (fOpN (at2 oMin2) (fCons (fC (.int 3)) (fCons (fOpN (at1 oLen) (fCons (fVar 0) fNil)) fNil)))) fNil)) (gN 1) fYes (fCall [true] ph__law_right (fCons (fCall [false, false] ph__law_box (fCons (fVar 0) (fCons (fVar 1) fNil))) fNil))) fNil)))

def ph_law : Phi := fun args R => ∃ ns : List Int, args = [sh (scrD ns)] ∧ ns.length ≤ 63 ∧ R (sh (.bool true)) []
theorem vc_law (args R) (h : ph_law args R) : b_law (startE 2 args) (defK [false] R) := by
  obtain ⟨ns, rfl, hl, hR⟩ := h
  have hz : (2 : Nat) ^ 20 < sizeLine := by decide
  have hsl : ((ns.map fun n => (PyData.none, PyData.int n)).length : Nat) = ns.length := List.length_map _
  (row_room_at pv_ev; row_room_at pv_cl)
  refine ⟨by rw [hsl]; omega, ?_⟩
  (row_room_at pv_ev; row_room_at pv_cl)
  rw [rng_eq]
  refine lc_inv (fun i : Nat => PyData.int (0 + (i : Int))) (fun (xs : List Nat) acc e => ∃ (i k : Nat), xs = List.range' i k ∧ i + k ≤ 100 ∧ acc = (List.replicate i true).map .bool ∧ e = [some (sh (scrD ns)), none]) ?_ (fun i xs acc e N hI hN => ?_) (fun acc e hI => ?_) _ _ _
    ⟨0, _, rfl, ?_, rfl, rfl⟩
  · exact fun _ _ _ _ => trivial
  · obtain ⟨j, k, ex, hjk, rfl, rfl⟩ := hI
    match k, ex with
    | k + 1, ex =>
      rw [List.range'_succ] at ex
      obtain ⟨rfl, rfl⟩ := List.cons.inj ex
      (row_room_at pv_ev; row_room_at pv_cl)
      refine ⟨ns, _, rfl, by omega, by omega, fun x hx => ?_⟩
      obtain ⟨xd, rfl⟩ := hx.ex
      (row_room_at pv_ev; row_room_at pv_cl)
      refine ⟨_, rfl, hx, fun x' => ?_⟩
      (row_room_at pv_ev; row_room_at pv_cl)
      refine ⟨by show ((List.replicate i true).map PyData.bool).length < sizeLine; rw [List.length_map, List.length_replicate]; omega, hN _ _ ⟨i + 1, k, rfl, by omega, ?_, rfl⟩⟩
      rw [List.replicate_succ', List.map_append]
      rfl
  · obtain ⟨j, k, ex, hjk, rfl, rfl⟩ := hI
    (row_room_at pv_ev; row_room_at pv_cl)
    first | refine ⟨trivial, List.replicate j true, rfl, ?_⟩ | refine ⟨List.replicate j true, rfl, ?_⟩
    rw [all_true]
    (row_room_at pv_ev; row_room_at pv_cl)
    exact hR
  · rw [hsl]; omega
theorem law_sp {K : Fg} {H : Hp} {a : Addr} {ns : List Int} {Q : VK} {E : XK} (hS : SqL K H a (ns.map V.int)) (hl : ns.length ≤ 63) (hq : ∀ H', Q (.bl true) H') (hT : Tab0 K H := by first | exact Lw.tab0_no (by kernel_rfl) | assumption) : spOf K [false] ph_law [.ref a] H Q E := sp_of_script hS ⟨ns, rfl, hl, rfl⟩ hq hT

structure Txt (K : PySem.W.Frag) (mg : Str → Option Value) : Prop where
  b_abs : mg "abs" = none
  b_all : mg "all" = none
  b_any : mg "any" = none
  b_bool : mg "bool" = none
  b_enumerate : mg "enumerate" = none
  b_int : mg "int" = none
  b_isinstance : mg "isinstance" = none
  b_len : mg "len" = none
  b_list : mg "list" = none
  b_max : mg "max" = none
  b_min : mg "min" = none
  b_range : mg "range" = none
  b_repr : mg "repr" = none
  b_sorted : mg "sorted" = none
  b_str : mg "str" = none
  b_tuple : mg "tuple" = none
  g_RIGHT : ∃ t, mg "RIGHT" = some (.str "right" t)
  g_SIDES : ∃ u, mg "SIDES" = some u ∧ KD K u (.tuple [.str "left", .str "right"])

section
variable {P : Program} {w : World} {K : PySem.W.Frag} {mg : Str → Option Value} {base : Heap}
abbrev s_is_number : Stmt := topS 4
theorem sc_is_number : FnScope ["thing"] ["thing"] (defScope s_is_number) := ⟨rfl, rfl, rfl, by decide +kernel, rfl, by decide +kernel, by decide +kernel⟩
theorem ok_is_number {f : Addr} {fd : FuncData} (F : Fun K "is_number" "is_number" s_is_number f fd) (T : Txt K mg) : FnG P w K mg base CX0 (1) f fd ["thing"] (spOf K [false] ph_is_number) := by
  refine fnok_mk (k := 0) F sc_is_number (b_is_number) (fun cdv A outer s H E hr hG => ?_) (fun args R h => vc_is_number args R h)
  have HN : (["thing"] : List Str).Nodup := sc_is_number.nd
  exact (ss_one (ss_ret (se_and (se_isi "int" T.b_isinstance T.b_int (se_var 0)) (se_one (se_not (se_isi "bool" T.b_isinstance T.b_bool (se_var 0)))))))

abbrev s_is_side : Stmt := topS 5
theorem sc_is_side : FnScope ["thing"] ["thing"] (defScope s_is_side) := ⟨rfl, rfl, rfl, by decide +kernel, rfl, by decide +kernel, by decide +kernel⟩
theorem ok_is_side {f : Addr} {fd : FuncData} (F : Fun K "is_side" "is_side" s_is_side f fd) (T : Txt K mg) : FnG P w K mg base CX0 (1) f fd ["thing"] (spOf K [false] ph_is_side) := by
  refine fnok_mk (k := 0) F sc_is_side (b_is_side) (fun cdv A outer s H E hr hG => ?_) (fun args R h => vc_is_side args R h)
  have HN : (["thing"] : List Str).Nodup := sc_is_side.nd
  exact (ss_one (ss_ret (se_and (se_isi "str" T.b_isinstance T.b_str (se_var 0)) (se_one (se_in hr (se_var 0) (se_gk T.g_SIDES))))))

abbrev s_turned_channel : Stmt := topS 7
theorem sc_turned_channel : FnScope ["channel"] ["channel"] (defScope s_turned_channel) := ⟨rfl, rfl, rfl, by decide +kernel, rfl, by decide +kernel, by decide +kernel⟩
theorem ok_turned_channel {f : Addr} {fd : FuncData} (F : Fun K "turned_channel" "turned_channel" s_turned_channel f fd) (T : Txt K mg) : FnG P w K mg base CX0 (1) f fd ["channel"] (spOf K [false] ph_turned_channel) := by
  refine fnok_mk (k := 0) F sc_turned_channel (b_turned_channel) (fun cdv A outer s H E hr hG => ?_) (fun args R h => vc_turned_channel args R h)
  have HN : (["channel"] : List Str).Nodup := sc_turned_channel.nd
  exact (ss_one (ss_ret (se_tuple T.b_tuple (sa_cons (se_stp (se_var 0) (sp_some (se_neg se_int))) sa_nil))))

abbrev s_turned_lot : Stmt := topS 8
theorem sc_turned_lot : FnScope ["channel", "lot", "pit"] ["channel", "lot"] (defScope s_turned_lot) := ⟨rfl, rfl, rfl, by decide +kernel, rfl, by decide +kernel, by decide +kernel⟩
theorem ok_turned_lot {f : Addr} {fd : FuncData} (F : Fun K "turned_lot" "turned_lot" s_turned_lot f fd) (T : Txt K mg) : FnG P w K mg base CX0 (1) f fd ["channel", "lot"] (spOf K [false, false] ph_turned_lot) := by
  refine fnok_mk (k := 0) F sc_turned_lot (b_turned_lot) (fun cdv A outer s H E hr hG => ?_) (fun args R h => vc_turned_lot args R h)
  have HN : (["channel", "lot", "pit"] : List Str).Nodup := sc_turned_lot.nd
  exact (ss_one (ss_ret (se_tuple T.b_tuple (sa_cons (se_stp (se_lc (own := [("pit", 2)]) rfl HN (si_seq (se_var 1)) (by exact blkOk_by (N := ["channel", "lot", "pit"]) (sc := defScope s_turned_lot) (own := [("pit", 2)]) (by decide +kernel)) (fun _ _ _ _ _ => (sg_name 2 HN)) (fun _ _ _ _ _ => sf_nil) (fun _ _ _ _ _ => (se_sub (se_sub (se_len T.b_len (sa_cons (se_var 0) sa_nil)) se_int) (se_var 2)))) (sp_some (se_neg se_int))) sa_nil))))

abbrev s_turned : Stmt := topS 9
theorem sc_turned : FnScope ["channel", "standing", "left", "lot", "right"] ["channel", "standing"] (defScope s_turned) := ⟨rfl, rfl, rfl, by decide +kernel, rfl, by decide +kernel, by decide +kernel⟩
theorem ok_turned {f : Addr} {fd : FuncData} (F : Fun K "turned" "turned" s_turned f fd) (T : Txt K mg) (c_turned_lot : Fnc P w K mg base 1 "turned_lot" [false, false] ph_turned_lot) : FnG P w K mg base CX0 (2) f fd ["channel", "standing"] (spOf K [false, false] ph_turned) := by
  refine fnok_mk (k := 1) F sc_turned (b_turned) (fun cdv A outer s H E hr hG => ?_) (fun args R h => vc_turned args R h)
  have HN : (["channel", "standing", "left", "lot", "right"] : List Str).Nodup := sc_turned.nd
  exact (ss_cons (ss_unp (se_var 1) (sg_tup rfl (sgs_cons (sg_name 2 HN) (sgs_cons (sg_name 3 HN) (sgs_cons (sg_name 4 HN) sgs_nil))))) (ss_one (ss_ret (se_tup (sa_cons (se_var 4) (sa_cons (se_call c_turned_lot hr hG (sa_cons (se_var 0) (sa_cons (se_var 3) sa_nil))) (sa_cons (se_var 2) sa_nil)))))))

abbrev s_is_tilt : Stmt := topS 11
theorem sc_is_tilt : FnScope ["thing"] ["thing"] (defScope s_is_tilt) := ⟨rfl, rfl, rfl, by decide +kernel, rfl, by decide +kernel, by decide +kernel⟩
theorem ok_is_tilt {f : Addr} {fd : FuncData} (F : Fun K "is_tilt" "is_tilt" s_is_tilt f fd) (T : Txt K mg) (c_is_number : Fnc P w K mg base 1 "is_number" [false] ph_is_number) (c_is_side : Fnc P w K mg base 1 "is_side" [false] ph_is_side) : FnG P w K mg base CX0 (2) f fd ["thing"] (spOf K [false] ph_is_tilt) := by
  refine fnok_mk (k := 1) F sc_is_tilt (b_is_tilt) (fun cdv A outer s H E hr hG => ?_) (fun args R h => vc_is_tilt args R h)
  have HN : (["thing"] : List Str).Nodup := sc_is_tilt.nd
  exact (ss_cons (ss_if (st_of (st_or (st_not (st_val (se_isi "tuple" T.b_isinstance T.b_tuple (se_var 0)))) (st_or1 (st_ne hr (se_len T.b_len (sa_cons (se_var 0) sa_nil)) se_int)))) (ss_one (ss_ret se_bl)) ss_nil) (ss_one (ss_ret (se_and (se_call c_is_side hr hG (sa_cons (se_ix (se_var 0) se_int) sa_nil)) (se_and (se_call c_is_number hr hG (sa_cons (se_ix (se_var 0) se_int) sa_nil)) (se_one (se_gt (se_ix (se_var 0) se_int) se_int)))))))

abbrev s_is_row : Stmt := topS 12
theorem sc_is_row : FnScope ["thing", "tilt"] ["thing"] (defScope s_is_row) := ⟨rfl, rfl, rfl, by decide +kernel, rfl, by decide +kernel, by decide +kernel⟩
theorem ok_is_row {f : Addr} {fd : FuncData} (F : Fun K "is_row" "is_row" s_is_row f fd) (T : Txt K mg) (c_is_tilt : Fnc P w K mg base 2 "is_tilt" [false] ph_is_tilt) : FnG P w K mg base CX0 (3) f fd ["thing"] (spOf K [false] ph_is_row) := by
  refine fnok_mk (k := 2) F sc_is_row (b_is_row) (fun cdv A outer s H E hr hG => ?_) (fun args R h => vc_is_row args R h)
  have HN : (["thing", "tilt"] : List Str).Nodup := sc_is_row.nd
  exact (ss_one (ss_ret (se_and (se_isi "list" T.b_isinstance T.b_list (se_var 0)) (se_one (se_all rfl T.b_all (sa_cons (se_lc (own := [("tilt", 1)]) rfl HN (si_seq (se_var 0)) (by exact blkOk_by (N := ["thing", "tilt"]) (sc := defScope s_is_row) (own := [("tilt", 1)]) (by decide +kernel)) (fun _ _ _ _ _ => (sg_name 1 HN)) (fun _ _ _ _ _ => sf_nil) (fun _ _ _ _ _ => (se_call c_is_tilt hr hG (sa_cons (se_var 1) sa_nil)))) sa_nil))))))

abbrev s_to_the_right : Stmt := topS 13
theorem sc_to_the_right : FnScope ["channel", "standing", "strength", "rolling", "lot", "right", "found", "pit", "depth"] ["channel", "standing", "strength"] (defScope s_to_the_right) := ⟨rfl, rfl, rfl, by decide +kernel, rfl, by decide +kernel, by decide +kernel⟩
theorem ok_to_the_right {f : Addr} {fd : FuncData} (F : Fun K "to_the_right" "to_the_right" s_to_the_right f fd) (T : Txt K mg) : FnG P w K mg base CX0 (1) f fd ["channel", "standing", "strength"] (spOf K [false, false, false] ph_to_the_right) := by
  refine fnok_mk (k := 0) F sc_to_the_right (b_to_the_right) (fun cdv A outer s H E hr hG => ?_) (fun args R h => vc_to_the_right args R h)
  have HN : (["channel", "standing", "strength", "rolling", "lot", "right", "found", "pit", "depth"] : List Str).Nodup := sc_to_the_right.nd
  exact (ss_cons (ss_unp (se_var 1) (sg_tup rfl (sgs_cons (sg_name 3 HN) (sgs_cons (sg_name 4 HN) (sgs_cons (sg_name 5 HN) sgs_nil))))) (ss_cons (ss_setO 6 HN (se_lst sa_nil)) (ss_cons (ss_for PassesOwn.never rfl (si_enum T.b_enumerate (sa_cons (se_var 0) sa_nil)) (sg_tup rfl (sgs_cons (sg_name 7 HN) (sgs_cons (sg_name 8 HN) sgs_nil))) (ss_one (ss_if (st_lt (se_var 8) (se_var 2)) (ss_one (ss_augAdd 3 HN (se_toInt T.b_int (sa_cons (se_in hr (se_var 7) (se_var 4)) sa_nil)))) (ss_one (ss_if (st_in hr (se_var 7) (se_var 4)) (ss_one (ss_expr (se_append 6 (sa_cons (se_var 7) sa_nil)))) (ss_one (ss_if (st_gt (se_var 3) se_int) (ss_cons (ss_expr (se_append 6 (sa_cons (se_var 7) sa_nil))) (ss_one (ss_augSub 3 HN se_int))) ss_nil))))))) (ss_one (ss_ret (se_tup (sa_cons (se_tup (sa_cons se_int (sa_cons (se_tuple T.b_tuple (sa_cons (se_var 6) sa_nil)) (sa_cons (se_add (se_var 5) (se_var 3)) sa_nil)))) (sa_cons (se_var 3) sa_nil))))))))

abbrev s_tilt_of : Stmt := topS 14
theorem sc_tilt_of : FnScope ["channel", "standing", "side", "strength", "behind", "came"] ["channel", "standing", "side", "strength"] (defScope s_tilt_of) := ⟨rfl, rfl, rfl, by decide +kernel, rfl, by decide +kernel, by decide +kernel⟩
theorem ok_tilt_of {f : Addr} {fd : FuncData} (F : Fun K "tilt_of" "tilt_of" s_tilt_of f fd) (T : Txt K mg) (c_turned_channel : Fnc P w K mg base 1 "turned_channel" [false] ph_turned_channel) (c_turned : Fnc P w K mg base 2 "turned" [false, false] ph_turned) (c_to_the_right : Fnc P w K mg base 1 "to_the_right" [false, false, false] ph_to_the_right) : FnG P w K mg base CX0 (3) f fd ["channel", "standing", "side", "strength"] (spOf K [false, false, false, false] ph_tilt_of) := by
  refine fnok_mk (k := 2) F sc_tilt_of (b_tilt_of) (fun cdv A outer s H E hr hG => ?_) (fun args R h => vc_tilt_of args R h)
  have HN : (["channel", "standing", "side", "strength", "behind", "came"] : List Str).Nodup := sc_tilt_of.nd
  exact (ss_cons (ss_if (st_eq hr (se_var 2) (se_gstr T.g_RIGHT)) (ss_one (ss_ret (se_call c_to_the_right hr hG (sa_cons (se_var 0) (sa_cons (se_var 1) (sa_cons (se_var 3) sa_nil)))))) ss_nil) (ss_cons (ss_unp (se_call c_to_the_right hr hG (sa_cons (se_call c_turned_channel hr hG (sa_cons (se_var 0) sa_nil)) (sa_cons (se_call c_turned hr hG (sa_cons (se_var 0) (sa_cons (se_var 1) sa_nil))) (sa_cons (se_var 3) sa_nil)))) (sg_tup rfl (sgs_cons (sg_name 4 HN) (sgs_cons (sg_name 5 HN) sgs_nil)))) (ss_one (ss_ret (se_tup (sa_cons (se_call c_turned hr hG (sa_cons (se_var 0) (sa_cons (se_var 4) sa_nil))) (sa_cons (se_var 5) sa_nil)))))))

abbrev s_heard : Stmt := topS 15
theorem sc_heard : FnScope ["channel", "standing", "row", "found", "side", "strength", "came"] ["channel", "standing", "row"] (defScope s_heard) := ⟨rfl, rfl, rfl, by decide +kernel, rfl, by decide +kernel, by decide +kernel⟩
theorem ok_heard {f : Addr} {fd : FuncData} (F : Fun K "heard" "heard" s_heard f fd) (T : Txt K mg) (c_tilt_of : Fnc P w K mg base 3 "tilt_of" [false, false, false, false] ph_tilt_of) : FnG P w K mg base CX0 (4) f fd ["channel", "standing", "row"] (spOf K [false, false, false] ph_heard) := by
  refine fnok_mk (k := 3) F sc_heard (b_heard) (fun cdv A outer s H E hr hG => ?_) (fun args R h => vc_heard args R h)
  have HN : (["channel", "standing", "row", "found", "side", "strength", "came"] : List Str).Nodup := sc_heard.nd
  exact (ss_cons (ss_setO 3 HN (se_lst sa_nil)) (ss_cons (ss_for PassesOwn.never rfl (si_seq (se_var 2)) (sg_tup rfl (sgs_cons (sg_name 4 HN) (sgs_cons (sg_name 5 HN) sgs_nil))) (ss_cons (ss_unp (se_call c_tilt_of hr hG (sa_cons (se_var 0) (sa_cons (se_var 1) (sa_cons (se_var 4) (sa_cons (se_var 5) sa_nil))))) (sg_tup rfl (sgs_cons (sg_name 1 HN) (sgs_cons (sg_name 6 HN) sgs_nil)))) (ss_one (ss_expr (se_append 3 (sa_cons (se_var 6) sa_nil)))))) (ss_one (ss_ret (se_mv 3)))))

abbrev s_ends : Stmt := topS 17
theorem sc_ends : FnScope ["channel", "side", "strength", "many", "found", "depth"] ["channel", "side", "strength", "many"] (defScope s_ends) := ⟨rfl, rfl, rfl, by decide +kernel, rfl, by decide +kernel, by decide +kernel⟩
theorem ok_ends {f : Addr} {fd : FuncData} (F : Fun K "ends" "ends" s_ends f fd) (T : Txt K mg) : FnG P w K mg base CX0 (1) f fd ["channel", "side", "strength", "many"] (spOf K [false, false, false, false] ph_ends) := by
  refine fnok_mk (k := 0) F sc_ends (b_ends) (fun cdv A outer s H E hr hG => ?_) (fun args R h => vc_ends args R h)
  have HN : (["channel", "side", "strength", "many", "found", "depth"] : List Str).Nodup := sc_ends.nd
  exact (ss_cons (ss_setLc (own := [("depth", 5)]) 4 rfl HN (sw_true rfl rfl rfl (by decide +kernel)) (si_seq (se_var 0)) (by exact blkOk_by (N := ["channel", "side", "strength", "many", "found", "depth"]) (sc := defScope s_ends) (own := [("depth", 5)]) (by decide +kernel)) (fun _ _ _ _ _ => (sg_name 5 HN)) (fun _ _ _ _ _ => (sf_one (st_ge (se_var 5) (se_var 2)))) (fun _ _ _ _ _ => (se_var 5))) (ss_one (ss_ret (se_sl (se_if (st_eq hr (se_var 1) (se_gstr T.g_RIGHT)) (se_stp (se_var 4) (sp_some (se_neg se_int))) (se_var 4)) sp_none (sp_some (se_var 3))))))

abbrev s_contrary : Stmt := topS 18
theorem sc_contrary : FnScope ["side"] ["side"] (defScope s_contrary) := ⟨rfl, rfl, rfl, by decide +kernel, rfl, by decide +kernel, by decide +kernel⟩
theorem ok_contrary {f : Addr} {fd : FuncData} (F : Fun K "contrary" "contrary" s_contrary f fd) (T : Txt K mg) : FnG P w K mg base CX0 (1) f fd ["side"] (spOf K [false] ph_contrary) := by
  refine fnok_mk (k := 0) F sc_contrary (b_contrary) (fun cdv A outer s H E hr hG => ?_) (fun args R h => vc_contrary args R h)
  have HN : (["side"] : List Str).Nodup := sc_contrary.nd
  exact (ss_one (ss_ret (se_if (st_eq hr (se_var 0) (se_ix (se_gk T.g_SIDES) se_int)) (se_ix (se_gk T.g_SIDES) se_int) (se_ix (se_gk T.g_SIDES) se_int))))

abbrev s_first_unlike : Stmt := topS 19
theorem sc_first_unlike : FnScope ["one", "other", "at"] ["one", "other"] (defScope s_first_unlike) := ⟨rfl, rfl, rfl, by decide +kernel, rfl, by decide +kernel, by decide +kernel⟩
theorem ok_first_unlike {f : Addr} {fd : FuncData} (F : Fun K "first_unlike" "first_unlike" s_first_unlike f fd) (T : Txt K mg) : FnG P w K mg base CX0 (1) f fd ["one", "other"] (spOf K [false, false] ph_first_unlike) := by
  refine fnok_mk (k := 0) F sc_first_unlike (b_first_unlike) (fun cdv A outer s H E hr hG => ?_) (fun args R h => vc_first_unlike args R h)
  have HN : (["one", "other", "at"] : List Str).Nodup := sc_first_unlike.nd
  exact (ss_cons (ss_for PassesOwn.never rfl (si_range1 T.b_range (sa_cons (se_max2 rfl T.b_max (sa_cons (se_len T.b_len (sa_cons (se_var 0) sa_nil)) (sa_cons (se_len T.b_len (sa_cons (se_var 1) sa_nil)) sa_nil))) sa_nil)) (sg_name 2 HN) (ss_one (ss_if (st_ne hr (se_sl (se_var 0) (sp_some (se_var 2)) (sp_some (se_add (se_var 2) se_int))) (se_sl (se_var 1) (sp_some (se_var 2)) (sp_some (se_add (se_var 2) se_int)))) (ss_one (ss_ret (se_var 2))) ss_nil))) (ss_one (ss_ret se_non)))

abbrev s_row_for : Stmt := topS 20
theorem sc_row_for : FnScope ["side", "strength", "one", "other", "found"] ["side", "strength", "one", "other"] (defScope s_row_for) := ⟨rfl, rfl, rfl, by decide +kernel, rfl, by decide +kernel, by decide +kernel⟩
theorem ok_row_for {f : Addr} {fd : FuncData} (F : Fun K "row_for" "row_for" s_row_for f fd) (T : Txt K mg) (c_contrary : Fnc P w K mg base 1 "contrary" [false] ph_contrary) : FnG P w K mg base CX0 (2) f fd ["side", "strength", "one", "other"] (spOf K [false, false, false, false] ph_row_for) := by
  refine fnok_mk (k := 1) F sc_row_for (b_row_for) (fun cdv A outer s H E hr hG => ?_) (fun args R h => vc_row_for args R h)
  have HN : (["side", "strength", "one", "other", "found"] : List Str).Nodup := sc_row_for.nd
  exact (ss_cons (ss_setO 4 HN (se_lst (sa_cons (se_tup (sa_cons (se_call c_contrary hr hG (sa_cons (se_var 0) sa_nil)) (sa_cons (se_var 1) sa_nil))) sa_nil))) (ss_one (ss_ret (se_if (st_eq hr (se_len T.b_len (sa_cons (se_var 2) sa_nil)) (se_len T.b_len (sa_cons (se_var 3) sa_nil))) (se_add (se_var 4) (se_lst (sa_cons (se_tup (sa_cons (se_var 0) (sa_cons (se_max2 rfl T.b_max (sa_cons (se_ix (se_var 2) (se_neg se_int)) (sa_cons (se_ix (se_var 3) (se_neg se_int)) sa_nil))) sa_nil))) sa_nil))) (se_mv 4)))))

abbrev s_told_apart : Stmt := topS 21
theorem sc_told_apart : FnScope ["one", "other", "most", "side", "strength", "mine", "its", "at"] ["one", "other", "most"] (defScope s_told_apart) := ⟨rfl, rfl, rfl, by decide +kernel, rfl, by decide +kernel, by decide +kernel⟩
theorem ok_told_apart {f : Addr} {fd : FuncData} (F : Fun K "told_apart" "told_apart" s_told_apart f fd) (T : Txt K mg) (c_ends : Fnc P w K mg base 1 "ends" [false, false, false, false] ph_ends) (c_first_unlike : Fnc P w K mg base 1 "first_unlike" [false, false] ph_first_unlike) (c_row_for : Fnc P w K mg base 2 "row_for" [false, false, false, false] ph_row_for) : FnG P w K mg base CX0 (3) f fd ["one", "other", "most"] (spOf K [false, false, false] ph_told_apart) := by
  refine fnok_mk (k := 2) F sc_told_apart (b_told_apart) (fun cdv A outer s H E hr hG => ?_) (fun args R h => vc_told_apart args R h)
  have HN : (["one", "other", "most", "side", "strength", "mine", "its", "at"] : List Str).Nodup := sc_told_apart.nd
  exact (ss_cons (ss_for PassesOwn.never rfl (si_seq (se_gk T.g_SIDES)) (sg_name 3 HN) (ss_one (ss_for PassesOwn.never rfl (si_seq (se_sorted T.b_sorted (sa_cons (se_add (se_list T.b_list (sa_cons (se_var 0) sa_nil)) (se_list T.b_list (sa_cons (se_var 1) sa_nil))) sa_nil))) (sg_name 4 HN) (ss_cons (ss_par2 5 6 [false, false] rfl HN (sa_cons (se_call c_ends hr hG (sa_cons (se_var 0) (sa_cons (se_var 3) (sa_cons (se_var 4) (sa_cons (se_var 2) sa_nil))))) (sa_cons (se_call c_ends hr hG (sa_cons (se_var 1) (sa_cons (se_var 3) (sa_cons (se_var 4) (sa_cons (se_var 2) sa_nil))))) sa_nil)) (by rfl)) (ss_cons (ss_set 7 HN (se_call c_first_unlike hr hG (sa_cons (se_var 5) (sa_cons (se_var 6) sa_nil)))) (ss_one (ss_if (st_notN (se_var 7) se_non) (ss_one (ss_ret (se_tupO (sa_cons (se_add (se_var 7) se_int) (sa_cons (se_fz 3) (sa_cons (se_call c_row_for hr hG (sa_cons (se_var 3) (sa_cons (se_var 4) (sa_cons (se_sl (se_var 5) sp_none (sp_some (se_add (se_var 7) se_int))) (sa_cons (se_sl (se_var 6) sp_none (sp_some (se_add (se_var 7) se_int))) sa_nil))))) sa_nil)))))) ss_nil))))))) (ss_one (ss_ret se_non)))

abbrev s_from_tray : Stmt := topS 22
theorem sc_from_tray : FnScope ["side", "many"] ["side", "many"] (defScope s_from_tray) := ⟨rfl, rfl, rfl, by decide +kernel, rfl, by decide +kernel, by decide +kernel⟩
theorem ok_from_tray {f : Addr} {fd : FuncData} (F : Fun K "from_tray" "from_tray" s_from_tray f fd) (T : Txt K mg) : FnG P w K mg base CX0 (1) f fd ["side", "many"] (spOf K [false, false] ph_from_tray) := by
  refine fnok_mk (k := 0) F sc_from_tray (b_from_tray) (fun cdv A outer s H E hr hG => ?_) (fun args R h => vc_from_tray args R h)
  have HN : (["side", "many"] : List Str).Nodup := sc_from_tray.nd
  exact (ss_one (ss_ret (se_if (st_eq hr (se_var 0) (se_gstr T.g_RIGHT)) (se_tup (sa_cons se_int (sa_cons (se_tup sa_nil) (sa_cons (se_var 1) sa_nil)))) (se_tup (sa_cons (se_var 1) (sa_cons (se_tup sa_nil) (sa_cons se_int sa_nil)))))))

abbrev s_shows_apart : Stmt := topS 23
theorem sc_shows_apart : FnScope ["one", "other", "most", "thing", "many", "side", "row", "begun"] ["one", "other", "most", "thing"] (defScope s_shows_apart) := ⟨rfl, rfl, rfl, by decide +kernel, rfl, by decide +kernel, by decide +kernel⟩
theorem ok_shows_apart {f : Addr} {fd : FuncData} (F : Fun K "shows_apart" "shows_apart" s_shows_apart f fd) (T : Txt K mg) (c_is_number : Fnc P w K mg base 1 "is_number" [false] ph_is_number) (c_is_side : Fnc P w K mg base 1 "is_side" [false] ph_is_side) (c_is_row : Fnc P w K mg base 3 "is_row" [false] ph_is_row) (c_heard : Fnc P w K mg base 4 "heard" [false, false, false] ph_heard) (c_from_tray : Fnc P w K mg base 1 "from_tray" [false, false] ph_from_tray) : FnG P w K mg base CX0 (5) f fd ["one", "other", "most", "thing"] (spOf K [false, false, false, false] ph_shows_apart) := by
  refine fnok_mk (k := 4) F sc_shows_apart (b_shows_apart) (fun cdv A outer s H E hr hG => ?_) (fun args R h => vc_shows_apart args R h)
  have HN : (["one", "other", "most", "thing", "many", "side", "row", "begun"] : List Str).Nodup := sc_shows_apart.nd
  exact (ss_cons (ss_if (st_of (st_or (st_not (st_val (se_isi "tuple" T.b_isinstance T.b_tuple (se_var 3)))) (st_or (st_ne hr (se_len T.b_len (sa_cons (se_var 3) sa_nil)) se_int) (st_or (st_not (st_val (se_call c_is_number hr hG (sa_cons (se_ix (se_var 3) se_int) sa_nil)))) (st_or1 (st_not (st_val (se_call c_is_side hr hG (sa_cons (se_ix (se_var 3) se_int) sa_nil))))))))) (ss_one (ss_ret se_bl)) ss_nil) (ss_cons (ss_unp (se_var 3) (sg_tup rfl (sgs_cons (sg_name 4 HN) (sgs_cons (sg_name 5 HN) (sgs_cons (sg_name 6 HN) sgs_nil))))) (ss_cons (ss_if (st_of (st_or (st_not (st_chain op_le so_bl0 op_le so_bl0 se_int (se_var 4) (se_var 2))) (st_or1 (st_not (st_val (se_call c_is_row hr hG (sa_cons (se_var 6) sa_nil))))))) (ss_one (ss_ret se_bl)) ss_nil) (ss_cons (ss_set 7 HN (se_call c_from_tray hr hG (sa_cons (se_var 5) (sa_cons (se_var 4) sa_nil)))) (ss_one (ss_ret (se_ne hr (se_call c_heard hr hG (sa_cons (se_var 0) (sa_cons (se_var 7) (sa_cons (se_var 6) sa_nil)))) (se_call c_heard hr hG (sa_cons (se_var 1) (sa_cons (se_var 7) (sa_cons (se_var 6) sa_nil)))))))))))

abbrev s__law_cell_at : Stmt := topS 25
theorem sc__law_cell_at : FnScope ["_law_script", "_law_k"] ["_law_script", "_law_k"] (defScope s__law_cell_at) := ⟨rfl, rfl, rfl, by decide +kernel, rfl, by decide +kernel, by decide +kernel⟩
theorem ok__law_cell_at {f : Addr} {fd : FuncData} (F : Fun K "_law_cell_at" "_law_cell_at" s__law_cell_at f fd) (T : Txt K mg) : FnG P w K mg base CX0 (1) f fd ["_law_script", "_law_k"] (spOf K [false, false] ph__law_cell_at) := by
  refine fnok_mk (k := 0) F sc__law_cell_at (b__law_cell_at) (fun cdv A outer s H E hr hG => ?_) (fun args R h => vc__law_cell_at args R h)
  have HN : (["_law_script", "_law_k"] : List Str).Nodup := sc__law_cell_at.nd
  exact (ss_cons (ss_if (st_lt (se_var 1) (se_len T.b_len (sa_cons (se_var 0) sa_nil))) (ss_one (ss_ret (se_ix (se_var 0) (se_var 1)))) ss_nil) (ss_one (ss_ret se_int)))

abbrev s__law_box : Stmt := topS 26
theorem sc__law_box : FnScope ["_law_script", "_law_k", "_law_core"] ["_law_script", "_law_k"] (defScope s__law_box) := ⟨rfl, rfl, rfl, by decide +kernel, rfl, by decide +kernel, by decide +kernel⟩
theorem ok__law_box {f : Addr} {fd : FuncData} (F : Fun K "_law_box" "_law_box" s__law_box f fd) (T : Txt K mg) (c__law_cell_at : Fnc P w K mg base 1 "_law_cell_at" [false, false] ph__law_cell_at) : FnG P w K mg base CX0 (2) f fd ["_law_script", "_law_k"] (spOf K [false, false] ph__law_box) := by
  refine fnok_mk (k := 1) F sc__law_box (b__law_box) (fun cdv A outer s H E hr hG => ?_) (fun args R h => vc__law_box args R h)
  have HN : (["_law_script", "_law_k", "_law_core"] : List Str).Nodup := sc__law_box.nd
  exact (ss_cons (ss_set 2 HN (se_call c__law_cell_at hr hG (sa_cons (se_var 0) (sa_cons (se_var 1) sa_nil)))) (ss_one (ss_ret (se_lst (sa_cons (se_mulA (se_abs T.b_abs (sa_cons (se_var 2) sa_nil)) (se_toInt T.b_int (sa_cons (se_ge (se_abs T.b_abs (sa_cons (se_var 2) sa_nil)) (se_pow se_int se_int)) sa_nil))) (sa_cons (se_add (se_add (se_mod (se_var 2) se_int) (se_mulA se_int (se_var 1))) se_int) (sa_cons se_int sa_nil)))))))

abbrev s__law_take : Stmt := topS 27
theorem sc__law_take : FnScope ["_law_box_here", "_law_span", "_law_found", "_law_once", "_law_twice"] ["_law_box_here", "_law_span"] (defScope s__law_take) := ⟨rfl, rfl, rfl, by decide +kernel, rfl, by decide +kernel, by decide +kernel⟩
theorem ok__law_take {f : Addr} {fd : FuncData} (F : Fun K "_law_take" "_law_take" s__law_take f fd) (T : Txt K mg) : FnG P w K mg base CX0 (1) f fd ["_law_box_here", "_law_span"] (spOf K [true, false] ph__law_take) := by
  refine fnok_mk (k := 0) F sc__law_take (b__law_take) (fun cdv A outer s H E hr hG => ?_) (fun args R h => vc__law_take args R h)
  have HN : (["_law_box_here", "_law_span", "_law_found", "_law_once", "_law_twice"] : List Str).Nodup := sc__law_take.nd
  exact (ss_cons (ss_if (st_gt (se_ix (se_var 0) se_int) se_int) (ss_cons (ss_set 2 HN (se_mod (se_ix (se_var 0) se_int) (se_var 1))) (ss_cons (ss_setIx 0 (se_div (se_ix (se_var 0) se_int) (se_var 1)) se_int) (ss_one (ss_ret (se_var 2))))) ss_nil) (ss_cons (ss_setIx 0 (se_add (se_ix (se_var 0) se_int) se_int) se_int) (ss_cons (ss_set 3 HN (se_mod (se_mulA (se_add (se_ix (se_var 0) se_int) (se_mulA se_int (se_ix (se_var 0) se_int))) (se_add se_int (se_ix (se_var 0) se_int))) se_int)) (ss_cons (ss_set 4 HN (se_mod (se_mulA (se_add (se_add (se_var 3) (se_ix (se_var 0) se_int)) (se_div (se_ix (se_var 0) se_int) se_int)) (se_add (se_mod (se_var 3) se_int) se_int)) se_int)) (ss_one (ss_ret (se_mod (se_div (se_mod (se_add (se_mulA (se_var 4) se_int) (se_var 3)) se_int) se_int) (se_var 1))))))))

abbrev s__law_of : Stmt := topS 28
theorem sc__law_of : FnScope ["_law_box_here", "_law_some"] ["_law_box_here", "_law_some"] (defScope s__law_of) := ⟨rfl, rfl, rfl, by decide +kernel, rfl, by decide +kernel, by decide +kernel⟩
theorem ok__law_of {f : Addr} {fd : FuncData} (F : Fun K "_law_of" "_law_of" s__law_of f fd) (T : Txt K mg) (c__law_take : Fnc P w K mg base 1 "_law_take" [true, false] ph__law_take) : FnG P w K mg base CX0 (2) f fd ["_law_box_here", "_law_some"] (spOf K [true, false] ph__law_of) := by
  refine fnok_mk (k := 1) F sc__law_of (b__law_of) (fun cdv A outer s H E hr hG => ?_) (fun args R h => vc__law_of args R h)
  have HN : (["_law_box_here", "_law_some"] : List Str).Nodup := sc__law_of.nd
  exact (ss_one (ss_ret (se_ix (se_var 1) (se_call c__law_take hr hG (sa_cons (se_var 0) (sa_cons (se_len T.b_len (sa_cons (se_var 1) sa_nil)) sa_nil))))))

abbrev s__law_strewn : Stmt := topS 29
theorem sc__law_strewn : FnScope ["_law_box_here", "_law_some", "_law_left", "_law_found"] ["_law_box_here", "_law_some"] (defScope s__law_strewn) := ⟨rfl, rfl, rfl, by decide +kernel, rfl, by decide +kernel, by decide +kernel⟩
theorem ok__law_strewn {f : Addr} {fd : FuncData} (F : Fun K "_law_strewn" "_law_strewn" s__law_strewn f fd) (T : Txt K mg) (c__law_take : Fnc P w K mg base 1 "_law_take" [true, false] ph__law_take) : FnG P w K mg base CX0 (2) f fd ["_law_box_here", "_law_some"] (spOf K [true, false] ph__law_strewn) := by
  refine fnok_mk (k := 1) F sc__law_strewn (b__law_strewn) (fun cdv A outer s H E hr hG => ?_) (fun args R h => vc__law_strewn args R h)
  have HN : (["_law_box_here", "_law_some", "_law_left", "_law_found"] : List Str).Nodup := sc__law_strewn.nd
  exact (ss_cons (ss_par2 2 3 [true, true] rfl HN (sa_cons (se_list T.b_list (sa_cons (se_var 1) sa_nil)) (sa_cons (se_lst sa_nil) sa_nil)) (by rfl)) (ss_cons (ss_while PassesOwn.never (st_ne hr (se_var 2) (se_lst sa_nil)) (ss_one (ss_expr (se_append 3 (sa_cons (se_popAt 2 (sa_cons (se_call c__law_take hr hG (sa_cons (se_var 0) (sa_cons (se_len T.b_len (sa_cons (se_var 2) sa_nil)) sa_nil))) sa_nil)) sa_nil))))) (ss_one (ss_ret (se_mv 3)))))

abbrev s__law_wire : Stmt := topS 30
theorem sc__law_wire : FnScope ["_law_box_here", "_law_size", "_law_count", "_law_gap", "_law_deep", "_law_depths", "_law_rank", "_law_sort"] ["_law_box_here", "_law_size"] (defScope s__law_wire) := ⟨rfl, rfl, rfl, by decide +kernel, rfl, by decide +kernel, by decide +kernel⟩
theorem ok__law_wire {f : Addr} {fd : FuncData} (F : Fun K "_law_wire" "_law_wire" s__law_wire f fd) (T : Txt K mg) (c__law_take : Fnc P w K mg base 1 "_law_take" [true, false] ph__law_take) (c__law_of : Fnc P w K mg base 2 "_law_of" [true, false] ph__law_of) (c__law_strewn : Fnc P w K mg base 2 "_law_strewn" [true, false] ph__law_strewn) : FnG P w K mg base CX0 (3) f fd ["_law_box_here", "_law_size"] (spOf K [true, false] ph__law_wire) := by
  refine fnok_mk (k := 2) F sc__law_wire (b__law_wire) (fun cdv A outer s H E hr hG => ?_) (fun args R h => vc__law_wire args R h)
  have HN : (["_law_box_here", "_law_size", "_law_count", "_law_gap", "_law_deep", "_law_depths", "_law_rank", "_law_sort"] : List Str).Nodup := sc__law_wire.nd
  exact (ss_cons (ss_par2 2 3 [false, false] rfl HN (sa_cons (se_add se_int (se_call c__law_take hr hG (sa_cons (se_var 0) (sa_cons (se_var 1) sa_nil)))) (sa_cons (se_call c__law_of hr hG (sa_cons (se_var 0) (sa_cons (se_lst (sa_cons se_int (sa_cons se_int (sa_cons se_int (sa_cons (se_pow se_int se_int) (sa_cons (se_pow se_int se_int) sa_nil)))))) sa_nil))) sa_nil)) (by rfl)) (ss_cons (ss_par2 4 5 [false, true] rfl HN (sa_cons (se_call c__law_of hr hG (sa_cons (se_var 0) (sa_cons (se_lst (sa_cons se_int (sa_cons se_int (sa_cons se_int (sa_cons (se_pow se_int se_int) sa_nil))))) sa_nil))) (sa_cons (se_lst sa_nil) sa_nil)) (by rfl)) (ss_cons (ss_for PassesOwn.never rfl (si_range1 T.b_range (sa_cons (se_var 2) sa_nil)) (sg_name 6 HN) (ss_cons (ss_set 4 HN (se_add (se_add (se_var 4) se_int) (se_call c__law_take hr hG (sa_cons (se_var 0) (sa_cons (se_var 3) sa_nil))))) (ss_one (ss_expr (se_append 5 (sa_cons (se_var 4) sa_nil)))))) (ss_cons (ss_set 7 HN (se_call c__law_take hr hG (sa_cons (se_var 0) (sa_cons se_int sa_nil)))) (ss_cons (ss_if (st_lt (se_var 7) se_int) (ss_one (ss_ret (se_tuple T.b_tuple (sa_cons (se_stp (se_var 5) (sp_some (se_ix (se_lst (sa_cons se_int (sa_cons (se_neg se_int) sa_nil))) (se_var 7)))) sa_nil)))) ss_nil) (ss_one (ss_ret (se_tuple T.b_tuple (sa_cons (se_call c__law_strewn hr hG (sa_cons (se_var 0) (sa_cons (se_fz 5) sa_nil))) sa_nil)))))))))

abbrev s__law_tilted : Stmt := topS 31
theorem sc__law_tilted : FnScope ["_law_wire_here", "_law_held", "_law_way", "_law_power", "_law_left", "_law_lie", "_law_right_here", "_law_rolling", "_law_full", "_law_hole", "_law_lot_then"] ["_law_wire_here", "_law_held", "_law_way", "_law_power"] (defScope s__law_tilted) := ⟨rfl, rfl, rfl, by decide +kernel, rfl, by decide +kernel, by decide +kernel⟩
theorem ok__law_tilted {f : Addr} {fd : FuncData} (F : Fun K "_law_tilted" "_law_tilted" s__law_tilted f fd) (T : Txt K mg) : FnG P w K mg base CX0 (1) f fd ["_law_wire_here", "_law_held", "_law_way", "_law_power"] (spOf K [false, false, false, false] ph__law_tilted) := by
  refine fnok_mk (k := 0) F sc__law_tilted (b__law_tilted) (fun cdv A outer s H E hr hG => ?_) (fun args R h => vc__law_tilted args R h)
  have HN : (["_law_wire_here", "_law_held", "_law_way", "_law_power", "_law_left", "_law_lie", "_law_right_here", "_law_rolling", "_law_full", "_law_hole", "_law_lot_then"] : List Str).Nodup := sc__law_tilted.nd
  exact (ss_cons (ss_unp (se_var 1) (sg_tup rfl (sgs_cons (sg_name 4 HN) (sgs_cons (sg_name 5 HN) (sgs_cons (sg_name 6 HN) sgs_nil))))) (ss_cons (ss_par2 7 8 [false, true] rfl HN (sa_cons (se_if (st_eq hr (se_var 2) se_str) (se_var 4) (se_var 6)) (sa_cons (se_lst sa_nil) sa_nil)) (by rfl)) (ss_cons (ss_for PassesOwn.never rfl (si_seq (se_stp (se_rngL1 T.b_list T.b_range (se_len T.b_len (sa_cons (se_var 0) sa_nil))) (sp_some (se_if (st_eq hr (se_var 2) se_str) se_int (se_neg se_int))))) (sg_name 9 HN) (ss_one (ss_if (st_lt (se_ix (se_var 0) (se_var 9)) (se_var 3)) (ss_one (ss_set 7 HN (se_add (se_var 7) (se_toInt T.b_int (sa_cons (se_in hr (se_var 9) (se_var 5)) sa_nil))))) (ss_one (ss_if (st_of (st_or (st_in hr (se_var 9) (se_var 5)) (st_or1 (st_gt (se_var 7) se_int)))) (ss_cons (ss_set 7 HN (se_sub (se_var 7) (se_toInt T.b_int (sa_cons (se_notIn hr (se_var 9) (se_var 5)) sa_nil)))) (ss_one (ss_expr (se_append 8 (sa_cons (se_var 9) sa_nil))))) ss_nil))))) (ss_cons (ss_set 10 HN (se_tuple T.b_tuple (sa_cons (se_sorted T.b_sorted (sa_cons (se_var 8) sa_nil)) sa_nil))) (ss_one (ss_ret (se_tup (sa_cons (se_if (st_eq hr (se_var 2) se_str) (se_tup (sa_cons se_int (sa_cons (se_var 10) (sa_cons (se_add (se_var 6) (se_var 7)) sa_nil)))) (se_tup (sa_cons (se_add (se_var 4) (se_var 7)) (sa_cons (se_var 10) (sa_cons se_int sa_nil))))) (sa_cons (se_var 7) sa_nil)))))))))

abbrev s__law_led : Stmt := topS 32
theorem sc__law_led : FnScope ["_law_wire_here", "_law_held", "_law_tour", "_law_told", "_law_way", "_law_power", "_law_came"] ["_law_wire_here", "_law_held", "_law_tour"] (defScope s__law_led) := ⟨rfl, rfl, rfl, by decide +kernel, rfl, by decide +kernel, by decide +kernel⟩
theorem ok__law_led {f : Addr} {fd : FuncData} (F : Fun K "_law_led" "_law_led" s__law_led f fd) (T : Txt K mg) (c__law_tilted : Fnc P w K mg base 1 "_law_tilted" [false, false, false, false] ph__law_tilted) : FnG P w K mg base CX0 (2) f fd ["_law_wire_here", "_law_held", "_law_tour"] (spOf K [false, false, false] ph__law_led) := by
  refine fnok_mk (k := 1) F sc__law_led (b__law_led) (fun cdv A outer s H E hr hG => ?_) (fun args R h => vc__law_led args R h)
  have HN : (["_law_wire_here", "_law_held", "_law_tour", "_law_told", "_law_way", "_law_power", "_law_came"] : List Str).Nodup := sc__law_led.nd
  exact (ss_cons (ss_setO 3 HN (se_lst sa_nil)) (ss_cons (ss_for PassesOwn.never rfl (si_seq (se_var 2)) (sg_tup rfl (sgs_cons (sg_name 4 HN) (sgs_cons (sg_name 5 HN) sgs_nil))) (ss_cons (ss_unp (se_call c__law_tilted hr hG (sa_cons (se_var 0) (sa_cons (se_var 1) (sa_cons (se_var 4) (sa_cons (se_var 5) sa_nil))))) (sg_tup rfl (sgs_cons (sg_name 1 HN) (sgs_cons (sg_name 6 HN) sgs_nil)))) (ss_one (ss_expr (se_append 3 (sa_cons (se_var 6) sa_nil)))))) (ss_one (ss_ret (se_tup (sa_cons (se_var 1) (sa_cons (se_fz 3) sa_nil)))))))

abbrev s__law_ends : Stmt := topS 33
theorem sc__law_ends : FnScope ["_law_wire_here", "_law_way", "_law_power", "_law_count", "_law_found", "_law_deep"] ["_law_wire_here", "_law_way", "_law_power", "_law_count"] (defScope s__law_ends) := ⟨rfl, rfl, rfl, by decide +kernel, rfl, by decide +kernel, by decide +kernel⟩
theorem ok__law_ends {f : Addr} {fd : FuncData} (F : Fun K "_law_ends" "_law_ends" s__law_ends f fd) (T : Txt K mg) : FnG P w K mg base CX0 (1) f fd ["_law_wire_here", "_law_way", "_law_power", "_law_count"] (spOf K [false, false, false, false] ph__law_ends) := by
  refine fnok_mk (k := 0) F sc__law_ends (b__law_ends) (fun cdv A outer s H E hr hG => ?_) (fun args R h => vc__law_ends args R h)
  have HN : (["_law_wire_here", "_law_way", "_law_power", "_law_count", "_law_found", "_law_deep"] : List Str).Nodup := sc__law_ends.nd
  exact (ss_cons (ss_setO 4 HN (se_lst sa_nil)) (ss_cons (ss_for PassesOwn.never rfl (si_seq (se_stp (se_var 0) (sp_some (se_if (st_eq hr (se_var 1) se_str) (se_neg se_int) se_int)))) (sg_name 5 HN) (ss_one (ss_if (st_of (st_and (st_ge (se_var 5) (se_var 2)) (st_and1 (st_lt (se_len T.b_len (sa_cons (se_var 4) sa_nil)) (se_var 3))))) (ss_one (ss_expr (se_append 4 (sa_cons (se_var 5) sa_nil)))) ss_nil))) (ss_one (ss_ret (se_mv 4)))))

abbrev s__law_alike : Stmt := topS 34
theorem sc__law_alike : FnScope ["_law_wire_here", "_law_its", "_law_count", "_law_powers", "_law_way", "_law_power"] ["_law_wire_here", "_law_its", "_law_count"] (defScope s__law_alike) := ⟨rfl, rfl, rfl, by decide +kernel, rfl, by decide +kernel, by decide +kernel⟩
theorem ok__law_alike {f : Addr} {fd : FuncData} (F : Fun K "_law_alike" "_law_alike" s__law_alike f fd) (T : Txt K mg) (c__law_ends : Fnc P w K mg base 1 "_law_ends" [false, false, false, false] ph__law_ends) : FnG P w K mg base CX0 (2) f fd ["_law_wire_here", "_law_its", "_law_count"] (spOf K [false, false, false] ph__law_alike) := by
  refine fnok_mk (k := 1) F sc__law_alike (b__law_alike) (fun cdv A outer s H E hr hG => ?_) (fun args R h => vc__law_alike args R h)
  have HN : (["_law_wire_here", "_law_its", "_law_count", "_law_powers", "_law_way", "_law_power"] : List Str).Nodup := sc__law_alike.nd
  exact (ss_cons (ss_set 3 HN (se_add (se_list T.b_list (sa_cons (se_var 0) sa_nil)) (se_list T.b_list (sa_cons (se_var 1) sa_nil)))) (ss_cons (ss_for PassesOwn.never rfl (si_seq (se_tup (sa_cons se_str (sa_cons se_str sa_nil)))) (sg_name 4 HN) (ss_one (ss_if (st_val (se_any rfl T.b_any (sa_cons (se_lc (own := [("_law_power", 5)]) rfl HN (si_seq (se_var 3)) (by exact blkOk_by (N := ["_law_wire_here", "_law_its", "_law_count", "_law_powers", "_law_way", "_law_power"]) (sc := defScope s__law_alike) (own := [("_law_power", 5)]) (by decide +kernel)) (fun _ _ _ _ _ => (sg_name 5 HN)) (fun _ _ _ _ _ => sf_nil) (fun _ _ _ _ _ => (se_ne hr (se_call c__law_ends hr hG (sa_cons (se_var 0) (sa_cons (se_var 4) (sa_cons (se_var 5) (sa_cons (se_var 2) sa_nil))))) (se_call c__law_ends hr hG (sa_cons (se_var 1) (sa_cons (se_var 4) (sa_cons (se_var 5) (sa_cons (se_var 2) sa_nil)))))))) sa_nil))) (ss_one (ss_ret se_bl)) ss_nil))) (ss_one (ss_ret se_bl))))

abbrev s__law_begun : Stmt := topS 35
theorem sc__law_begun : FnScope ["_law_way", "_law_count"] ["_law_way", "_law_count"] (defScope s__law_begun) := ⟨rfl, rfl, rfl, by decide +kernel, rfl, by decide +kernel, by decide +kernel⟩
theorem ok__law_begun {f : Addr} {fd : FuncData} (F : Fun K "_law_begun" "_law_begun" s__law_begun f fd) (T : Txt K mg) : FnG P w K mg base CX0 (1) f fd ["_law_way", "_law_count"] (spOf K [false, false] ph__law_begun) := by
  refine fnok_mk (k := 0) F sc__law_begun (b__law_begun) (fun cdv A outer s H E hr hG => ?_) (fun args R h => vc__law_begun args R h)
  have HN : (["_law_way", "_law_count"] : List Str).Nodup := sc__law_begun.nd
  exact (ss_one (ss_ret (se_if (st_eq hr (se_var 0) se_str) (se_tup (sa_cons se_int (sa_cons (se_tup sa_nil) (sa_cons (se_var 1) sa_nil)))) (se_tup (sa_cons (se_var 1) (sa_cons (se_tup sa_nil) (sa_cons se_int sa_nil)))))))

abbrev s__law_two : Stmt := topS 36
theorem sc__law_two : FnScope ["_law_box_here", "_law_size", "_law_wire_here", "_law_its", "_law_at", "_law_sort", "_law_hole"] ["_law_box_here", "_law_size"] (defScope s__law_two) := ⟨rfl, rfl, rfl, by decide +kernel, rfl, by decide +kernel, by decide +kernel⟩
theorem ok__law_two {f : Addr} {fd : FuncData} (F : Fun K "_law_two" "_law_two" s__law_two f fd) (T : Txt K mg) (c__law_take : Fnc P w K mg base 1 "_law_take" [true, false] ph__law_take) (c__law_strewn : Fnc P w K mg base 2 "_law_strewn" [true, false] ph__law_strewn) (c__law_wire : Fnc P w K mg base 3 "_law_wire" [true, false] ph__law_wire) : FnG P w K mg base CX0 (4) f fd ["_law_box_here", "_law_size"] (spOf K [true, false] ph__law_two) := by
  refine fnok_mk (k := 3) F sc__law_two (b__law_two) (fun cdv A outer s H E hr hG => ?_) (fun args R h => vc__law_two args R h)
  have HN : (["_law_box_here", "_law_size", "_law_wire_here", "_law_its", "_law_at", "_law_sort", "_law_hole"] : List Str).Nodup := sc__law_two.nd
  exact (ss_cons (ss_set 2 HN (se_call c__law_wire hr hG (sa_cons (se_var 0) (sa_cons (se_var 1) sa_nil)))) (ss_cons (ss_par2 3 4 [true, false] rfl HN (sa_cons (se_list T.b_list (sa_cons (se_var 2) sa_nil)) (sa_cons (se_call c__law_take hr hG (sa_cons (se_var 0) (sa_cons (se_len T.b_len (sa_cons (se_var 2) sa_nil)) sa_nil))) sa_nil)) (by rfl)) (ss_cons (ss_par2 5 6 [false, false] rfl HN (sa_cons (se_call c__law_take hr hG (sa_cons (se_var 0) (sa_cons se_int sa_nil))) (sa_cons (se_call c__law_take hr hG (sa_cons (se_var 0) (sa_cons (se_len T.b_len (sa_cons (se_var 2) sa_nil)) sa_nil))) sa_nil)) (by rfl)) (ss_cons (ss_if (st_eq hr (se_var 5) se_int) (ss_one (ss_ret (se_tup (sa_cons (se_var 2) (sa_cons (se_call c__law_wire hr hG (sa_cons (se_var 0) (sa_cons (se_var 1) sa_nil))) sa_nil))))) ss_nil) (ss_cons (ss_if (st_eq hr (se_var 5) se_int) (ss_one (ss_swp 3 rfl (sa_cons (se_ix (se_var 3) (se_var 6)) (sa_cons (se_ix (se_var 3) (se_var 4)) sa_nil)) (se_var 4) (se_var 6))) (ss_one (ss_if (st_eq hr (se_var 5) se_int) (ss_one (ss_setIx 3 (se_add (se_max rfl hr T.b_max (sa_cons (se_var 3) sa_nil)) se_int) (se_var 4))) (ss_one (ss_if (st_of (st_and (st_eq hr (se_var 5) se_int) (st_and1 (st_gt (se_len T.b_len (sa_cons (se_var 3) sa_nil)) se_int)))) (ss_one (ss_expr (se_popAt 3 (sa_cons (se_var 4) sa_nil)))) (ss_one (ss_if (st_eq hr (se_var 5) se_int) (ss_one (ss_expr (se_mth1 3 PySem.F.slot_list_insert PySem.F.type_list_insert mt_insert sm_insert (sa_cons (se_var 4) (sa_cons (se_add (se_add (se_max rfl hr T.b_max (sa_cons (se_var 3) sa_nil)) se_int) (se_call c__law_take hr hG (sa_cons (se_var 0) (sa_cons se_int sa_nil)))) sa_nil))))) (ss_one (ss_if (st_eq hr (se_var 5) se_int) (ss_one (ss_setO 3 HN (se_add (se_add (se_sl (se_var 3) sp_none (sp_some se_int)) (se_call c__law_strewn hr hG (sa_cons (se_var 0) (sa_cons (se_sl (se_var 3) (sp_some se_int) (sp_some (se_neg se_int))) sa_nil)))) (se_sl (se_sl (se_var 3) (sp_some se_int) sp_none) (sp_some (se_neg se_int)) sp_none)))) ss_nil))))))))) (ss_one (ss_ret (se_tup (sa_cons (se_var 2) (sa_cons (se_tuple T.b_tuple (sa_cons (se_var 3) sa_nil)) sa_nil))))))))))

abbrev s__law_told_right : Stmt := topS 37
theorem sc__law_told_right : FnScope ["_law_wire_here", "_law_its", "_law_count", "_law_found", "_law_few", "_law_way", "_law_tour", "_law_held", "_law_tilt"] ["_law_wire_here", "_law_its", "_law_count", "_law_found"] (defScope s__law_told_right) := ⟨rfl, rfl, rfl, by decide +kernel, rfl, by decide +kernel, by decide +kernel⟩
theorem ok__law_told_right {f : Addr} {fd : FuncData} (F : Fun K "_law_told_right" "_law_told_right" s__law_told_right f fd) (T : Txt K mg) (c__law_led : Fnc P w K mg base 2 "_law_led" [false, false, false] ph__law_led) (c__law_alike : Fnc P w K mg base 2 "_law_alike" [false, false, false] ph__law_alike) (c__law_begun : Fnc P w K mg base 1 "_law_begun" [false, false] ph__law_begun) : FnG P w K mg base CX0 (3) f fd ["_law_wire_here", "_law_its", "_law_count", "_law_found"] (spOf K [false, false, false, false] ph__law_told_right) := by
  refine fnok_mk (k := 2) F sc__law_told_right (b__law_told_right) (fun cdv A outer s H E hr hG => ?_) (fun args R h => vc__law_told_right args R h)
  have HN : (["_law_wire_here", "_law_its", "_law_count", "_law_found", "_law_few", "_law_way", "_law_tour", "_law_held", "_law_tilt"] : List Str).Nodup := sc__law_told_right.nd
  exact (ss_cons (ss_if (st_val (se_call c__law_alike hr hG (sa_cons (se_var 0) (sa_cons (se_var 1) (sa_cons (se_var 2) sa_nil))))) (ss_one (ss_ret (se_isN (se_var 3) se_non))) ss_nil) (ss_cons (ss_if (st_of (st_or (st_not (st_val (se_isi "tuple" T.b_isinstance T.b_tuple (se_var 3)))) (st_or (st_ne hr (se_len T.b_len (sa_cons (se_var 3) sa_nil)) se_int) (st_or1 (st_not (st_val (se_isi "list" T.b_isinstance T.b_list (se_ix (se_var 3) se_int)))))))) (ss_one (ss_ret se_bl)) ss_nil) (ss_cons (ss_unp (se_var 3) (sg_tup rfl (sgs_cons (sg_name 4 HN) (sgs_cons (sg_name 5 HN) (sgs_cons (sg_name 6 HN) sgs_nil))))) (ss_cons (ss_if (st_of (st_or (st_not (st_val (se_isi "int" T.b_isinstance T.b_int (se_var 4)))) (st_or (st_not (st_chain op_le so_bl0 op_le so_bl0 se_int (se_var 4) (se_var 2))) (st_or1 (st_notIn hr (se_var 5) (se_tup (sa_cons se_str (sa_cons se_str sa_nil)))))))) (ss_one (ss_ret se_bl)) ss_nil) (ss_cons (ss_if (st_not (st_val (se_all rfl T.b_all (sa_cons (se_lc (own := [("_law_tilt", 8)]) rfl HN (si_seq (se_var 6)) (by exact blkOk_by (N := ["_law_wire_here", "_law_its", "_law_count", "_law_found", "_law_few", "_law_way", "_law_tour", "_law_held", "_law_tilt"]) (sc := defScope s__law_told_right) (own := [("_law_tilt", 8)]) (by decide +kernel)) (fun _ _ _ _ _ => (sg_name 8 HN)) (fun _ _ _ _ _ => sf_nil) (fun _ _ _ _ _ => (se_and (se_isi "tuple" T.b_isinstance T.b_tuple (se_var 8)) (se_and (se_in hr (se_ix (se_var 8) se_int) (se_tup (sa_cons se_str (sa_cons se_str sa_nil)))) (se_one (se_ge (se_ix (se_var 8) se_int) se_int)))))) sa_nil)))) (ss_one (ss_ret se_bl)) ss_nil) (ss_cons (ss_set 7 HN (se_call c__law_begun hr hG (sa_cons (se_var 5) (sa_cons (se_var 4) sa_nil)))) (ss_one (ss_ret (se_ne hr (se_ix (se_call c__law_led hr hG (sa_cons (se_var 0) (sa_cons (se_var 7) (sa_cons (se_var 6) sa_nil)))) se_int) (se_ix (se_call c__law_led hr hG (sa_cons (se_var 1) (sa_cons (se_var 7) (sa_cons (se_var 6) sa_nil)))) se_int))))))))))

abbrev s__law_right : Stmt := topS 38
theorem sc__law_right : FnScope ["_law_box_here", "_law_turn", "_law_wire_here", "_law_its", "_law_count", "_law_found", "_law_kept"] ["_law_box_here"] (defScope s__law_right) := ⟨rfl, rfl, rfl, by decide +kernel, rfl, by decide +kernel, by decide +kernel⟩
theorem ok__law_right {f : Addr} {fd : FuncData} (F : Fun K "_law_right" "_law_right" s__law_right f fd) (T : Txt K mg) (c_told_apart : Fnc P w K mg base 3 "told_apart" [false, false, false] ph_told_apart) (c_shows_apart : Fnc P w K mg base 5 "shows_apart" [false, false, false, false] ph_shows_apart) (c__law_take : Fnc P w K mg base 1 "_law_take" [true, false] ph__law_take) (c__law_two : Fnc P w K mg base 4 "_law_two" [true, false] ph__law_two) (c__law_told_right : Fnc P w K mg base 3 "_law_told_right" [false, false, false, false] ph__law_told_right) (k_told_apart_2_1_0_0 : FncK P w K mg base 3 "told_apart" 3 0 ["most", "other", "one"] [2, 1, 0] ph_told_apart) : FnG P w K mg base CX0 (6) f fd ["_law_box_here"] (spOf K [true] ph__law_right) := by
  refine fnok_mk (k := 5) F sc__law_right (b__law_right) (fun cdv A outer s H E hr hG => ?_) (fun args R h => vc__law_right args R h)
  have HN : (["_law_box_here", "_law_turn", "_law_wire_here", "_law_its", "_law_count", "_law_found", "_law_kept"] : List Str).Nodup := sc__law_right.nd
  exact (ss_cons (ss_for PassesOwn.never rfl (si_range1 T.b_range (sa_cons se_int sa_nil)) (sg_name 1 HN) (ss_cons (ss_unp (se_call c__law_two hr hG (sa_cons (se_var 0) (sa_cons se_int sa_nil))) (sg_tup rfl (sgs_cons (sg_name 2 HN) (sgs_cons (sg_name 3 HN) sgs_nil)))) (ss_one (ss_for PassesOwn.never rfl (si_seq (se_tup (sa_cons se_int (sa_cons (se_add se_int (se_call c__law_take hr hG (sa_cons (se_var 0) (sa_cons se_int sa_nil)))) sa_nil)))) (sg_name 4 HN) (ss_cons (ss_setO 5 HN (se_call c_told_apart hr hG (sa_cons (se_var 2) (sa_cons (se_var 3) (sa_cons (se_var 4) sa_nil))))) (ss_cons (ss_if (st_lend 5 [0] (st_not (st_val (se_call c__law_told_right hr hG (sa_cons (se_var 2) (sa_cons (se_var 3) (sa_cons (se_var 4) (sa_cons (se_frz (se_fz 5)) sa_nil)))))))) (ss_one (ss_ret se_bl)) ss_nil) (ss_cons (ss_if (st_not (st_val (se_call c__law_told_right hr hG (sa_cons (se_var 3) (sa_cons (se_var 2) (sa_cons (se_var 4) (sa_cons (se_frz (se_callK0 k_told_apart_2_1_0_0 hr hG (sk_cons (se_var 4) (sk_cons (se_list T.b_list (sa_cons (se_var 2) sa_nil)) (sk_cons (se_list T.b_list (sa_cons (se_var 3) sa_nil)) sk_nil))))) sa_nil))))))) (ss_one (ss_ret se_bl)) ss_nil) (ss_cons (ss_set 6 HN (se_lend 5 [0] (se_repr hr hG T.b_repr (sa_cons (se_frz (se_fz 5)) sa_nil)))) (ss_cons (ss_if (st_notN (se_frz (se_call c_told_apart hr hG (sa_cons (se_var 2) (sa_cons (se_var 3) (sa_cons se_int sa_nil))))) se_non) (ss_one (ss_ret se_bl)) ss_nil) (ss_cons (ss_if (st_lend 5 [0] (st_of (st_and (st_notN (se_var 5) se_non) (st_and1 (st_notB (se_call c_shows_apart hr hG (sa_cons (se_var 2) (sa_cons (se_var 3) (sa_cons se_int (sa_cons (se_frz (se_fz 5)) sa_nil))))) se_bl))))) (ss_one (ss_ret se_bl)) ss_nil) (ss_cons (ss_if (st_notN (se_var 5) se_non) (ss_one (ss_expr (se_appT 5 2))) ss_nil) (ss_one (ss_if (st_of (st_or (st_ne hr (se_repr hr hG T.b_repr (sa_cons (se_frz (se_call c_told_apart hr hG (sa_cons (se_var 2) (sa_cons (se_var 3) (sa_cons (se_var 4) sa_nil))))) sa_nil)) (se_var 6)) (st_or1 (st_notN (se_frz (se_call c_told_apart hr hG (sa_cons (se_var 2) (sa_cons (se_list T.b_list (sa_cons (se_var 2) sa_nil)) (sa_cons (se_var 4) sa_nil))))) se_non)))) (ss_one (ss_ret se_bl)) ss_nil))))))))))))) (ss_one (ss_ret se_bl)))

abbrev s_law : Stmt := topS 39
theorem sc_law : FnScope ["_law_script", "_law_k"] ["_law_script"] (defScope s_law) := ⟨rfl, rfl, rfl, by decide +kernel, rfl, by decide +kernel, by decide +kernel⟩
theorem ok_law {f : Addr} {fd : FuncData} (F : Fun K "law" "law" s_law f fd) (T : Txt K mg) (c__law_box : Fnc P w K mg base 2 "_law_box" [false, false] ph__law_box) (c__law_right : Fnc P w K mg base 6 "_law_right" [true] ph__law_right) : FnG P w K mg base CX0 (7) f fd ["_law_script"] (spOf K [false] ph_law) := by
  refine fnok_mk (k := 6) F sc_law (b_law) (fun cdv A outer s H E hr hG => ?_) (fun args R h => vc_law args R h)
  have HN : (["_law_script", "_law_k"] : List Str).Nodup := sc_law.nd
  exact (ss_one (ss_ret (se_all rfl T.b_all (sa_cons (se_lc (own := [("_law_k", 1)]) rfl HN (si_range1 T.b_range (sa_cons (se_add se_int (se_min2 rfl T.b_min (sa_cons se_int (sa_cons (se_len T.b_len (sa_cons (se_var 0) sa_nil)) sa_nil)))) sa_nil)) (by exact blkOk_by (N := ["_law_script", "_law_k"]) (sc := defScope s_law) (own := [("_law_k", 1)]) (by decide +kernel)) (fun _ _ _ _ _ => (sg_name 1 HN)) (fun _ _ _ _ _ => sf_nil) (fun _ _ _ _ _ => (se_call c__law_right hr hG (sa_cons (se_call c__law_box hr hG (sa_cons (se_var 0) (sa_cons (se_var 1) sa_nil))) sa_nil)))) sa_nil))))

end
theorem all_mk {l : PySem.W.OpenLaw} {w : World} {K : PySem.W.Frag} {h : Heap} {mg : Str → Option Value} {fa : Addr} (X : K.In h) (G : h.Ns mainGlobals mg) (hfa : mg "law" = some (.ref fa))
    {f0 : Addr} {od0 an0 : Option Addr} {sl0 : Array (Option Value)} {oc0 kV0 dc0 pm0 cd0 ct0 : Value}
    (a0 : PySem.W.nsIn K mainGlobals "is_number" = some (some (.ref f0))) (l0 : K.lookup f0 = some ⟨oc0, od0, .func (PySem.W.fnOf "is_number" "is_number" (defArgs s_is_number) (defBody s_is_number) (defScope s_is_number) .none kV0 dc0 pm0 an0 cd0 ct0), sl0⟩) (c0 : PySem.W.codeIn K cd0 "is_number" = true) (k0 : PySem.W.keepIn K (.ref f0) = true)
    {f1 : Addr} {od1 an1 : Option Addr} {sl1 : Array (Option Value)} {oc1 kV1 dc1 pm1 cd1 ct1 : Value}
    (a1 : PySem.W.nsIn K mainGlobals "is_side" = some (some (.ref f1))) (l1 : K.lookup f1 = some ⟨oc1, od1, .func (PySem.W.fnOf "is_side" "is_side" (defArgs s_is_side) (defBody s_is_side) (defScope s_is_side) .none kV1 dc1 pm1 an1 cd1 ct1), sl1⟩) (c1 : PySem.W.codeIn K cd1 "is_side" = true) (k1 : PySem.W.keepIn K (.ref f1) = true)
    {f2 : Addr} {od2 an2 : Option Addr} {sl2 : Array (Option Value)} {oc2 kV2 dc2 pm2 cd2 ct2 : Value}
    (a2 : PySem.W.nsIn K mainGlobals "turned_channel" = some (some (.ref f2))) (l2 : K.lookup f2 = some ⟨oc2, od2, .func (PySem.W.fnOf "turned_channel" "turned_channel" (defArgs s_turned_channel) (defBody s_turned_channel) (defScope s_turned_channel) .none kV2 dc2 pm2 an2 cd2 ct2), sl2⟩) (c2 : PySem.W.codeIn K cd2 "turned_channel" = true) (k2 : PySem.W.keepIn K (.ref f2) = true)
    {f3 : Addr} {od3 an3 : Option Addr} {sl3 : Array (Option Value)} {oc3 kV3 dc3 pm3 cd3 ct3 : Value}
    (a3 : PySem.W.nsIn K mainGlobals "turned_lot" = some (some (.ref f3))) (l3 : K.lookup f3 = some ⟨oc3, od3, .func (PySem.W.fnOf "turned_lot" "turned_lot" (defArgs s_turned_lot) (defBody s_turned_lot) (defScope s_turned_lot) .none kV3 dc3 pm3 an3 cd3 ct3), sl3⟩) (c3 : PySem.W.codeIn K cd3 "turned_lot" = true) (k3 : PySem.W.keepIn K (.ref f3) = true)
    {f4 : Addr} {od4 an4 : Option Addr} {sl4 : Array (Option Value)} {oc4 kV4 dc4 pm4 cd4 ct4 : Value}
    (a4 : PySem.W.nsIn K mainGlobals "turned" = some (some (.ref f4))) (l4 : K.lookup f4 = some ⟨oc4, od4, .func (PySem.W.fnOf "turned" "turned" (defArgs s_turned) (defBody s_turned) (defScope s_turned) .none kV4 dc4 pm4 an4 cd4 ct4), sl4⟩) (c4 : PySem.W.codeIn K cd4 "turned" = true) (k4 : PySem.W.keepIn K (.ref f4) = true)
    {f5 : Addr} {od5 an5 : Option Addr} {sl5 : Array (Option Value)} {oc5 kV5 dc5 pm5 cd5 ct5 : Value}
    (a5 : PySem.W.nsIn K mainGlobals "is_tilt" = some (some (.ref f5))) (l5 : K.lookup f5 = some ⟨oc5, od5, .func (PySem.W.fnOf "is_tilt" "is_tilt" (defArgs s_is_tilt) (defBody s_is_tilt) (defScope s_is_tilt) .none kV5 dc5 pm5 an5 cd5 ct5), sl5⟩) (c5 : PySem.W.codeIn K cd5 "is_tilt" = true) (k5 : PySem.W.keepIn K (.ref f5) = true)
    {f6 : Addr} {od6 an6 : Option Addr} {sl6 : Array (Option Value)} {oc6 kV6 dc6 pm6 cd6 ct6 : Value}
    (a6 : PySem.W.nsIn K mainGlobals "is_row" = some (some (.ref f6))) (l6 : K.lookup f6 = some ⟨oc6, od6, .func (PySem.W.fnOf "is_row" "is_row" (defArgs s_is_row) (defBody s_is_row) (defScope s_is_row) .none kV6 dc6 pm6 an6 cd6 ct6), sl6⟩) (c6 : PySem.W.codeIn K cd6 "is_row" = true) (k6 : PySem.W.keepIn K (.ref f6) = true)
    {f7 : Addr} {od7 an7 : Option Addr} {sl7 : Array (Option Value)} {oc7 kV7 dc7 pm7 cd7 ct7 : Value}
    (a7 : PySem.W.nsIn K mainGlobals "to_the_right" = some (some (.ref f7))) (l7 : K.lookup f7 = some ⟨oc7, od7, .func (PySem.W.fnOf "to_the_right" "to_the_right" (defArgs s_to_the_right) (defBody s_to_the_right) (defScope s_to_the_right) .none kV7 dc7 pm7 an7 cd7 ct7), sl7⟩) (c7 : PySem.W.codeIn K cd7 "to_the_right" = true) (k7 : PySem.W.keepIn K (.ref f7) = true)
    {f8 : Addr} {od8 an8 : Option Addr} {sl8 : Array (Option Value)} {oc8 kV8 dc8 pm8 cd8 ct8 : Value}
    (a8 : PySem.W.nsIn K mainGlobals "tilt_of" = some (some (.ref f8))) (l8 : K.lookup f8 = some ⟨oc8, od8, .func (PySem.W.fnOf "tilt_of" "tilt_of" (defArgs s_tilt_of) (defBody s_tilt_of) (defScope s_tilt_of) .none kV8 dc8 pm8 an8 cd8 ct8), sl8⟩) (c8 : PySem.W.codeIn K cd8 "tilt_of" = true) (k8 : PySem.W.keepIn K (.ref f8) = true)
    {f9 : Addr} {od9 an9 : Option Addr} {sl9 : Array (Option Value)} {oc9 kV9 dc9 pm9 cd9 ct9 : Value}
    (a9 : PySem.W.nsIn K mainGlobals "heard" = some (some (.ref f9))) (l9 : K.lookup f9 = some ⟨oc9, od9, .func (PySem.W.fnOf "heard" "heard" (defArgs s_heard) (defBody s_heard) (defScope s_heard) .none kV9 dc9 pm9 an9 cd9 ct9), sl9⟩) (c9 : PySem.W.codeIn K cd9 "heard" = true) (k9 : PySem.W.keepIn K (.ref f9) = true)
    {f10 : Addr} {od10 an10 : Option Addr} {sl10 : Array (Option Value)} {oc10 kV10 dc10 pm10 cd10 ct10 : Value}
    (a10 : PySem.W.nsIn K mainGlobals "ends" = some (some (.ref f10))) (l10 : K.lookup f10 = some ⟨oc10, od10, .func (PySem.W.fnOf "ends" "ends" (defArgs s_ends) (defBody s_ends) (defScope s_ends) .none kV10 dc10 pm10 an10 cd10 ct10), sl10⟩) (c10 : PySem.W.codeIn K cd10 "ends" = true) (k10 : PySem.W.keepIn K (.ref f10) = true)
    {f11 : Addr} {od11 an11 : Option Addr} {sl11 : Array (Option Value)} {oc11 kV11 dc11 pm11 cd11 ct11 : Value}
    (a11 : PySem.W.nsIn K mainGlobals "contrary" = some (some (.ref f11))) (l11 : K.lookup f11 = some ⟨oc11, od11, .func (PySem.W.fnOf "contrary" "contrary" (defArgs s_contrary) (defBody s_contrary) (defScope s_contrary) .none kV11 dc11 pm11 an11 cd11 ct11), sl11⟩) (c11 : PySem.W.codeIn K cd11 "contrary" = true) (k11 : PySem.W.keepIn K (.ref f11) = true)
    {f12 : Addr} {od12 an12 : Option Addr} {sl12 : Array (Option Value)} {oc12 kV12 dc12 pm12 cd12 ct12 : Value}
    (a12 : PySem.W.nsIn K mainGlobals "first_unlike" = some (some (.ref f12))) (l12 : K.lookup f12 = some ⟨oc12, od12, .func (PySem.W.fnOf "first_unlike" "first_unlike" (defArgs s_first_unlike) (defBody s_first_unlike) (defScope s_first_unlike) .none kV12 dc12 pm12 an12 cd12 ct12), sl12⟩) (c12 : PySem.W.codeIn K cd12 "first_unlike" = true) (k12 : PySem.W.keepIn K (.ref f12) = true)
    {f13 : Addr} {od13 an13 : Option Addr} {sl13 : Array (Option Value)} {oc13 kV13 dc13 pm13 cd13 ct13 : Value}
    (a13 : PySem.W.nsIn K mainGlobals "row_for" = some (some (.ref f13))) (l13 : K.lookup f13 = some ⟨oc13, od13, .func (PySem.W.fnOf "row_for" "row_for" (defArgs s_row_for) (defBody s_row_for) (defScope s_row_for) .none kV13 dc13 pm13 an13 cd13 ct13), sl13⟩) (c13 : PySem.W.codeIn K cd13 "row_for" = true) (k13 : PySem.W.keepIn K (.ref f13) = true)
    {f14 : Addr} {od14 an14 : Option Addr} {sl14 : Array (Option Value)} {oc14 kV14 dc14 pm14 cd14 ct14 : Value}
    (a14 : PySem.W.nsIn K mainGlobals "told_apart" = some (some (.ref f14))) (l14 : K.lookup f14 = some ⟨oc14, od14, .func (PySem.W.fnOf "told_apart" "told_apart" (defArgs s_told_apart) (defBody s_told_apart) (defScope s_told_apart) .none kV14 dc14 pm14 an14 cd14 ct14), sl14⟩) (c14 : PySem.W.codeIn K cd14 "told_apart" = true) (k14 : PySem.W.keepIn K (.ref f14) = true)
    {f15 : Addr} {od15 an15 : Option Addr} {sl15 : Array (Option Value)} {oc15 kV15 dc15 pm15 cd15 ct15 : Value}
    (a15 : PySem.W.nsIn K mainGlobals "from_tray" = some (some (.ref f15))) (l15 : K.lookup f15 = some ⟨oc15, od15, .func (PySem.W.fnOf "from_tray" "from_tray" (defArgs s_from_tray) (defBody s_from_tray) (defScope s_from_tray) .none kV15 dc15 pm15 an15 cd15 ct15), sl15⟩) (c15 : PySem.W.codeIn K cd15 "from_tray" = true) (k15 : PySem.W.keepIn K (.ref f15) = true)
    {f16 : Addr} {od16 an16 : Option Addr} {sl16 : Array (Option Value)} {oc16 kV16 dc16 pm16 cd16 ct16 : Value}
    (a16 : PySem.W.nsIn K mainGlobals "shows_apart" = some (some (.ref f16))) (l16 : K.lookup f16 = some ⟨oc16, od16, .func (PySem.W.fnOf "shows_apart" "shows_apart" (defArgs s_shows_apart) (defBody s_shows_apart) (defScope s_shows_apart) .none kV16 dc16 pm16 an16 cd16 ct16), sl16⟩) (c16 : PySem.W.codeIn K cd16 "shows_apart" = true) (k16 : PySem.W.keepIn K (.ref f16) = true)
    {f17 : Addr} {od17 an17 : Option Addr} {sl17 : Array (Option Value)} {oc17 kV17 dc17 pm17 cd17 ct17 : Value}
    (a17 : PySem.W.nsIn K mainGlobals "_law_cell_at" = some (some (.ref f17))) (l17 : K.lookup f17 = some ⟨oc17, od17, .func (PySem.W.fnOf "_law_cell_at" "_law_cell_at" (defArgs s__law_cell_at) (defBody s__law_cell_at) (defScope s__law_cell_at) .none kV17 dc17 pm17 an17 cd17 ct17), sl17⟩) (c17 : PySem.W.codeIn K cd17 "_law_cell_at" = true) (k17 : PySem.W.keepIn K (.ref f17) = true)
    {f18 : Addr} {od18 an18 : Option Addr} {sl18 : Array (Option Value)} {oc18 kV18 dc18 pm18 cd18 ct18 : Value}
    (a18 : PySem.W.nsIn K mainGlobals "_law_box" = some (some (.ref f18))) (l18 : K.lookup f18 = some ⟨oc18, od18, .func (PySem.W.fnOf "_law_box" "_law_box" (defArgs s__law_box) (defBody s__law_box) (defScope s__law_box) .none kV18 dc18 pm18 an18 cd18 ct18), sl18⟩) (c18 : PySem.W.codeIn K cd18 "_law_box" = true) (k18 : PySem.W.keepIn K (.ref f18) = true)
    {f19 : Addr} {od19 an19 : Option Addr} {sl19 : Array (Option Value)} {oc19 kV19 dc19 pm19 cd19 ct19 : Value}
    (a19 : PySem.W.nsIn K mainGlobals "_law_take" = some (some (.ref f19))) (l19 : K.lookup f19 = some ⟨oc19, od19, .func (PySem.W.fnOf "_law_take" "_law_take" (defArgs s__law_take) (defBody s__law_take) (defScope s__law_take) .none kV19 dc19 pm19 an19 cd19 ct19), sl19⟩) (c19 : PySem.W.codeIn K cd19 "_law_take" = true) (k19 : PySem.W.keepIn K (.ref f19) = true)
    {f20 : Addr} {od20 an20 : Option Addr} {sl20 : Array (Option Value)} {oc20 kV20 dc20 pm20 cd20 ct20 : Value}
    (a20 : PySem.W.nsIn K mainGlobals "_law_of" = some (some (.ref f20))) (l20 : K.lookup f20 = some ⟨oc20, od20, .func (PySem.W.fnOf "_law_of" "_law_of" (defArgs s__law_of) (defBody s__law_of) (defScope s__law_of) .none kV20 dc20 pm20 an20 cd20 ct20), sl20⟩) (c20 : PySem.W.codeIn K cd20 "_law_of" = true) (k20 : PySem.W.keepIn K (.ref f20) = true)
    {f21 : Addr} {od21 an21 : Option Addr} {sl21 : Array (Option Value)} {oc21 kV21 dc21 pm21 cd21 ct21 : Value}
    (a21 : PySem.W.nsIn K mainGlobals "_law_strewn" = some (some (.ref f21))) (l21 : K.lookup f21 = some ⟨oc21, od21, .func (PySem.W.fnOf "_law_strewn" "_law_strewn" (defArgs s__law_strewn) (defBody s__law_strewn) (defScope s__law_strewn) .none kV21 dc21 pm21 an21 cd21 ct21), sl21⟩) (c21 : PySem.W.codeIn K cd21 "_law_strewn" = true) (k21 : PySem.W.keepIn K (.ref f21) = true)
    {f22 : Addr} {od22 an22 : Option Addr} {sl22 : Array (Option Value)} {oc22 kV22 dc22 pm22 cd22 ct22 : Value}
    (a22 : PySem.W.nsIn K mainGlobals "_law_wire" = some (some (.ref f22))) (l22 : K.lookup f22 = some ⟨oc22, od22, .func (PySem.W.fnOf "_law_wire" "_law_wire" (defArgs s__law_wire) (defBody s__law_wire) (defScope s__law_wire) .none kV22 dc22 pm22 an22 cd22 ct22), sl22⟩) (c22 : PySem.W.codeIn K cd22 "_law_wire" = true) (k22 : PySem.W.keepIn K (.ref f22) = true)
    {f23 : Addr} {od23 an23 : Option Addr} {sl23 : Array (Option Value)} {oc23 kV23 dc23 pm23 cd23 ct23 : Value}
    (a23 : PySem.W.nsIn K mainGlobals "_law_tilted" = some (some (.ref f23))) (l23 : K.lookup f23 = some ⟨oc23, od23, .func (PySem.W.fnOf "_law_tilted" "_law_tilted" (defArgs s__law_tilted) (defBody s__law_tilted) (defScope s__law_tilted) .none kV23 dc23 pm23 an23 cd23 ct23), sl23⟩) (c23 : PySem.W.codeIn K cd23 "_law_tilted" = true) (k23 : PySem.W.keepIn K (.ref f23) = true)
    {f24 : Addr} {od24 an24 : Option Addr} {sl24 : Array (Option Value)} {oc24 kV24 dc24 pm24 cd24 ct24 : Value}
    (a24 : PySem.W.nsIn K mainGlobals "_law_led" = some (some (.ref f24))) (l24 : K.lookup f24 = some ⟨oc24, od24, .func (PySem.W.fnOf "_law_led" "_law_led" (defArgs s__law_led) (defBody s__law_led) (defScope s__law_led) .none kV24 dc24 pm24 an24 cd24 ct24), sl24⟩) (c24 : PySem.W.codeIn K cd24 "_law_led" = true) (k24 : PySem.W.keepIn K (.ref f24) = true)
    {f25 : Addr} {od25 an25 : Option Addr} {sl25 : Array (Option Value)} {oc25 kV25 dc25 pm25 cd25 ct25 : Value}
    (a25 : PySem.W.nsIn K mainGlobals "_law_ends" = some (some (.ref f25))) (l25 : K.lookup f25 = some ⟨oc25, od25, .func (PySem.W.fnOf "_law_ends" "_law_ends" (defArgs s__law_ends) (defBody s__law_ends) (defScope s__law_ends) .none kV25 dc25 pm25 an25 cd25 ct25), sl25⟩) (c25 : PySem.W.codeIn K cd25 "_law_ends" = true) (k25 : PySem.W.keepIn K (.ref f25) = true)
    {f26 : Addr} {od26 an26 : Option Addr} {sl26 : Array (Option Value)} {oc26 kV26 dc26 pm26 cd26 ct26 : Value}
    (a26 : PySem.W.nsIn K mainGlobals "_law_alike" = some (some (.ref f26))) (l26 : K.lookup f26 = some ⟨oc26, od26, .func (PySem.W.fnOf "_law_alike" "_law_alike" (defArgs s__law_alike) (defBody s__law_alike) (defScope s__law_alike) .none kV26 dc26 pm26 an26 cd26 ct26), sl26⟩) (c26 : PySem.W.codeIn K cd26 "_law_alike" = true) (k26 : PySem.W.keepIn K (.ref f26) = true)
    {f27 : Addr} {od27 an27 : Option Addr} {sl27 : Array (Option Value)} {oc27 kV27 dc27 pm27 cd27 ct27 : Value}
    (a27 : PySem.W.nsIn K mainGlobals "_law_begun" = some (some (.ref f27))) (l27 : K.lookup f27 = some ⟨oc27, od27, .func (PySem.W.fnOf "_law_begun" "_law_begun" (defArgs s__law_begun) (defBody s__law_begun) (defScope s__law_begun) .none kV27 dc27 pm27 an27 cd27 ct27), sl27⟩) (c27 : PySem.W.codeIn K cd27 "_law_begun" = true) (k27 : PySem.W.keepIn K (.ref f27) = true)
    {f28 : Addr} {od28 an28 : Option Addr} {sl28 : Array (Option Value)} {oc28 kV28 dc28 pm28 cd28 ct28 : Value}
    (a28 : PySem.W.nsIn K mainGlobals "_law_two" = some (some (.ref f28))) (l28 : K.lookup f28 = some ⟨oc28, od28, .func (PySem.W.fnOf "_law_two" "_law_two" (defArgs s__law_two) (defBody s__law_two) (defScope s__law_two) .none kV28 dc28 pm28 an28 cd28 ct28), sl28⟩) (c28 : PySem.W.codeIn K cd28 "_law_two" = true) (k28 : PySem.W.keepIn K (.ref f28) = true)
    {f29 : Addr} {od29 an29 : Option Addr} {sl29 : Array (Option Value)} {oc29 kV29 dc29 pm29 cd29 ct29 : Value}
    (a29 : PySem.W.nsIn K mainGlobals "_law_told_right" = some (some (.ref f29))) (l29 : K.lookup f29 = some ⟨oc29, od29, .func (PySem.W.fnOf "_law_told_right" "_law_told_right" (defArgs s__law_told_right) (defBody s__law_told_right) (defScope s__law_told_right) .none kV29 dc29 pm29 an29 cd29 ct29), sl29⟩) (c29 : PySem.W.codeIn K cd29 "_law_told_right" = true) (k29 : PySem.W.keepIn K (.ref f29) = true)
    {f30 : Addr} {od30 an30 : Option Addr} {sl30 : Array (Option Value)} {oc30 kV30 dc30 pm30 cd30 ct30 : Value}
    (a30 : PySem.W.nsIn K mainGlobals "_law_right" = some (some (.ref f30))) (l30 : K.lookup f30 = some ⟨oc30, od30, .func (PySem.W.fnOf "_law_right" "_law_right" (defArgs s__law_right) (defBody s__law_right) (defScope s__law_right) .none kV30 dc30 pm30 an30 cd30 ct30), sl30⟩) (c30 : PySem.W.codeIn K cd30 "_law_right" = true) (k30 : PySem.W.keepIn K (.ref f30) = true)
    {f31 : Addr} {od31 an31 : Option Addr} {sl31 : Array (Option Value)} {oc31 kV31 dc31 pm31 cd31 ct31 : Value}
    (a31 : PySem.W.nsIn K mainGlobals "law" = some (some (.ref f31))) (l31 : K.lookup f31 = some ⟨oc31, od31, .func (PySem.W.fnOf "law" "law" (defArgs s_law) (defBody s_law) (defScope s_law) .none kV31 dc31 pm31 an31 cd31 ct31), sl31⟩) (c31 : PySem.W.codeIn K cd31 "law" = true) (k31 : PySem.W.keepIn K (.ref f31) = true)
    (z_abs : PySem.W.nsIn K mainGlobals "abs" = some none)
    (z_all : PySem.W.nsIn K mainGlobals "all" = some none)
    (z_any : PySem.W.nsIn K mainGlobals "any" = some none)
    (z_bool : PySem.W.nsIn K mainGlobals "bool" = some none)
    (z_enumerate : PySem.W.nsIn K mainGlobals "enumerate" = some none)
    (z_int : PySem.W.nsIn K mainGlobals "int" = some none)
    (z_isinstance : PySem.W.nsIn K mainGlobals "isinstance" = some none)
    (z_len : PySem.W.nsIn K mainGlobals "len" = some none)
    (z_list : PySem.W.nsIn K mainGlobals "list" = some none)
    (z_max : PySem.W.nsIn K mainGlobals "max" = some none)
    (z_min : PySem.W.nsIn K mainGlobals "min" = some none)
    (z_range : PySem.W.nsIn K mainGlobals "range" = some none)
    (z_repr : PySem.W.nsIn K mainGlobals "repr" = some none)
    (z_sorted : PySem.W.nsIn K mainGlobals "sorted" = some none)
    (z_str : PySem.W.nsIn K mainGlobals "str" = some none)
    (z_tuple : PySem.W.nsIn K mainGlobals "tuple" = some none)
    {t_RIGHT : Tok} (g_RIGHT : PySem.W.nsIn K mainGlobals "RIGHT" = some (some (.str "right" t_RIGHT)))
    {s_SIDES : Addr} {od_SIDES : Option Addr} {n_SIDES : Nat} {sl_SIDES : Array (Option Value)} {t_SIDES0 t_SIDES1 : Tok} (g_SIDES : PySem.W.nsIn K mainGlobals "SIDES" = some (some (.ref s_SIDES))) (l_SIDES : K.lookup s_SIDES = some ⟨.type "tuple", od_SIDES, .seq #[.str "left" t_SIDES0, .str "right" t_SIDES1] n_SIDES, sl_SIDES⟩)
    : ∃ fd : FuncData, (∀ (s : Shared) (v : Value), BindsTo s fd ⟨[v], []⟩ [("_law_script", v)]) ∧ ∀ base : Heap, K.In base → base.Ns mainGlobals mg → FnG l.prog w K mg base CX0 7 fa fd ["_law_script"] (spOf K [false] ph_law) := by
  have e := hfa.symm.trans (PySem.W.mg_of X G a31)
  cases e
  have T : Txt K mg := ⟨PySem.W.mg_none_of X G z_abs, PySem.W.mg_none_of X G z_all, PySem.W.mg_none_of X G z_any, PySem.W.mg_none_of X G z_bool, PySem.W.mg_none_of X G z_enumerate, PySem.W.mg_none_of X G z_int, PySem.W.mg_none_of X G z_isinstance, PySem.W.mg_none_of X G z_len, PySem.W.mg_none_of X G z_list, PySem.W.mg_none_of X G z_max, PySem.W.mg_none_of X G z_min, PySem.W.mg_none_of X G z_range, PySem.W.mg_none_of X G z_repr, PySem.W.mg_none_of X G z_sorted, PySem.W.mg_none_of X G z_str, PySem.W.mg_none_of X G z_tuple, ⟨_, PySem.W.mg_of X G g_RIGHT⟩, ⟨_, PySem.W.mg_of X G g_SIDES, kd_tupS ["left", "right"] l_SIDES (.cons ⟨_, rfl⟩ (.cons ⟨_, rfl⟩ .nil)) (show 2 ≤ sizeLine by decide)⟩⟩
  have F0 := fun_mk (st := s_is_number) l0 c0 k0
  have m0 := PySem.W.mg_of X G a0
  have b0 := F0.binds (ps := ["thing"]) fun _ _ _ _ _ _ us hl => match us, hl with | [_], _ => rfl
  have F1 := fun_mk (st := s_is_side) l1 c1 k1
  have m1 := PySem.W.mg_of X G a1
  have b1 := F1.binds (ps := ["thing"]) fun _ _ _ _ _ _ us hl => match us, hl with | [_], _ => rfl
  have F2 := fun_mk (st := s_turned_channel) l2 c2 k2
  have m2 := PySem.W.mg_of X G a2
  have b2 := F2.binds (ps := ["channel"]) fun _ _ _ _ _ _ us hl => match us, hl with | [_], _ => rfl
  have F3 := fun_mk (st := s_turned_lot) l3 c3 k3
  have m3 := PySem.W.mg_of X G a3
  have b3 := F3.binds (ps := ["channel", "lot"]) fun _ _ _ _ _ _ us hl => match us, hl with | [_, _], _ => rfl
  have F4 := fun_mk (st := s_turned) l4 c4 k4
  have m4 := PySem.W.mg_of X G a4
  have b4 := F4.binds (ps := ["channel", "standing"]) fun _ _ _ _ _ _ us hl => match us, hl with | [_, _], _ => rfl
  have F5 := fun_mk (st := s_is_tilt) l5 c5 k5
  have m5 := PySem.W.mg_of X G a5
  have b5 := F5.binds (ps := ["thing"]) fun _ _ _ _ _ _ us hl => match us, hl with | [_], _ => rfl
  have F6 := fun_mk (st := s_is_row) l6 c6 k6
  have m6 := PySem.W.mg_of X G a6
  have b6 := F6.binds (ps := ["thing"]) fun _ _ _ _ _ _ us hl => match us, hl with | [_], _ => rfl
  have F7 := fun_mk (st := s_to_the_right) l7 c7 k7
  have m7 := PySem.W.mg_of X G a7
  have b7 := F7.binds (ps := ["channel", "standing", "strength"]) fun _ _ _ _ _ _ us hl => match us, hl with | [_, _, _], _ => rfl
  have F8 := fun_mk (st := s_tilt_of) l8 c8 k8
  have m8 := PySem.W.mg_of X G a8
  have b8 := F8.binds (ps := ["channel", "standing", "side", "strength"]) fun _ _ _ _ _ _ us hl => match us, hl with | [_, _, _, _], _ => rfl
  have F9 := fun_mk (st := s_heard) l9 c9 k9
  have m9 := PySem.W.mg_of X G a9
  have b9 := F9.binds (ps := ["channel", "standing", "row"]) fun _ _ _ _ _ _ us hl => match us, hl with | [_, _, _], _ => rfl
  have F10 := fun_mk (st := s_ends) l10 c10 k10
  have m10 := PySem.W.mg_of X G a10
  have b10 := F10.binds (ps := ["channel", "side", "strength", "many"]) fun _ _ _ _ _ _ us hl => match us, hl with | [_, _, _, _], _ => rfl
  have F11 := fun_mk (st := s_contrary) l11 c11 k11
  have m11 := PySem.W.mg_of X G a11
  have b11 := F11.binds (ps := ["side"]) fun _ _ _ _ _ _ us hl => match us, hl with | [_], _ => rfl
  have F12 := fun_mk (st := s_first_unlike) l12 c12 k12
  have m12 := PySem.W.mg_of X G a12
  have b12 := F12.binds (ps := ["one", "other"]) fun _ _ _ _ _ _ us hl => match us, hl with | [_, _], _ => rfl
  have F13 := fun_mk (st := s_row_for) l13 c13 k13
  have m13 := PySem.W.mg_of X G a13
  have b13 := F13.binds (ps := ["side", "strength", "one", "other"]) fun _ _ _ _ _ _ us hl => match us, hl with | [_, _, _, _], _ => rfl
  have F14 := fun_mk (st := s_told_apart) l14 c14 k14
  have m14 := PySem.W.mg_of X G a14
  have b14 := F14.binds (ps := ["one", "other", "most"]) fun _ _ _ _ _ _ us hl => match us, hl with | [_, _, _], _ => rfl
  have F15 := fun_mk (st := s_from_tray) l15 c15 k15
  have m15 := PySem.W.mg_of X G a15
  have b15 := F15.binds (ps := ["side", "many"]) fun _ _ _ _ _ _ us hl => match us, hl with | [_, _], _ => rfl
  have F16 := fun_mk (st := s_shows_apart) l16 c16 k16
  have m16 := PySem.W.mg_of X G a16
  have b16 := F16.binds (ps := ["one", "other", "most", "thing"]) fun _ _ _ _ _ _ us hl => match us, hl with | [_, _, _, _], _ => rfl
  have F17 := fun_mk (st := s__law_cell_at) l17 c17 k17
  have m17 := PySem.W.mg_of X G a17
  have b17 := F17.binds (ps := ["_law_script", "_law_k"]) fun _ _ _ _ _ _ us hl => match us, hl with | [_, _], _ => rfl
  have F18 := fun_mk (st := s__law_box) l18 c18 k18
  have m18 := PySem.W.mg_of X G a18
  have b18 := F18.binds (ps := ["_law_script", "_law_k"]) fun _ _ _ _ _ _ us hl => match us, hl with | [_, _], _ => rfl
  have F19 := fun_mk (st := s__law_take) l19 c19 k19
  have m19 := PySem.W.mg_of X G a19
  have b19 := F19.binds (ps := ["_law_box_here", "_law_span"]) fun _ _ _ _ _ _ us hl => match us, hl with | [_, _], _ => rfl
  have F20 := fun_mk (st := s__law_of) l20 c20 k20
  have m20 := PySem.W.mg_of X G a20
  have b20 := F20.binds (ps := ["_law_box_here", "_law_some"]) fun _ _ _ _ _ _ us hl => match us, hl with | [_, _], _ => rfl
  have F21 := fun_mk (st := s__law_strewn) l21 c21 k21
  have m21 := PySem.W.mg_of X G a21
  have b21 := F21.binds (ps := ["_law_box_here", "_law_some"]) fun _ _ _ _ _ _ us hl => match us, hl with | [_, _], _ => rfl
  have F22 := fun_mk (st := s__law_wire) l22 c22 k22
  have m22 := PySem.W.mg_of X G a22
  have b22 := F22.binds (ps := ["_law_box_here", "_law_size"]) fun _ _ _ _ _ _ us hl => match us, hl with | [_, _], _ => rfl
  have F23 := fun_mk (st := s__law_tilted) l23 c23 k23
  have m23 := PySem.W.mg_of X G a23
  have b23 := F23.binds (ps := ["_law_wire_here", "_law_held", "_law_way", "_law_power"]) fun _ _ _ _ _ _ us hl => match us, hl with | [_, _, _, _], _ => rfl
  have F24 := fun_mk (st := s__law_led) l24 c24 k24
  have m24 := PySem.W.mg_of X G a24
  have b24 := F24.binds (ps := ["_law_wire_here", "_law_held", "_law_tour"]) fun _ _ _ _ _ _ us hl => match us, hl with | [_, _, _], _ => rfl
  have F25 := fun_mk (st := s__law_ends) l25 c25 k25
  have m25 := PySem.W.mg_of X G a25
  have b25 := F25.binds (ps := ["_law_wire_here", "_law_way", "_law_power", "_law_count"]) fun _ _ _ _ _ _ us hl => match us, hl with | [_, _, _, _], _ => rfl
  have F26 := fun_mk (st := s__law_alike) l26 c26 k26
  have m26 := PySem.W.mg_of X G a26
  have b26 := F26.binds (ps := ["_law_wire_here", "_law_its", "_law_count"]) fun _ _ _ _ _ _ us hl => match us, hl with | [_, _, _], _ => rfl
  have F27 := fun_mk (st := s__law_begun) l27 c27 k27
  have m27 := PySem.W.mg_of X G a27
  have b27 := F27.binds (ps := ["_law_way", "_law_count"]) fun _ _ _ _ _ _ us hl => match us, hl with | [_, _], _ => rfl
  have F28 := fun_mk (st := s__law_two) l28 c28 k28
  have m28 := PySem.W.mg_of X G a28
  have b28 := F28.binds (ps := ["_law_box_here", "_law_size"]) fun _ _ _ _ _ _ us hl => match us, hl with | [_, _], _ => rfl
  have F29 := fun_mk (st := s__law_told_right) l29 c29 k29
  have m29 := PySem.W.mg_of X G a29
  have b29 := F29.binds (ps := ["_law_wire_here", "_law_its", "_law_count", "_law_found"]) fun _ _ _ _ _ _ us hl => match us, hl with | [_, _, _, _], _ => rfl
  have F30 := fun_mk (st := s__law_right) l30 c30 k30
  have m30 := PySem.W.mg_of X G a30
  have b30 := F30.binds (ps := ["_law_box_here"]) fun _ _ _ _ _ _ us hl => match us, hl with | [_], _ => rfl
  have F31 := fun_mk (st := s_law) l31 c31 k31
  have m31 := PySem.W.mg_of X G a31
  have b31 := F31.binds (ps := ["_law_script"]) fun _ _ _ _ _ _ us hl => match us, hl with | [_], _ => rfl
  refine ⟨PySem.W.fnOf "law" "law" (defArgs s_law) (defBody s_law) (defScope s_law) .none kV31 dc31 pm31 an31 cd31 ct31, fun s v => .of_eq rfl, fun base _ _ => ?_⟩
  have O0 := ok_is_number (P := l.prog) (w := w) (base := base) F0 T  
  have C0 : Fnc l.prog w K mg base 1 "is_number" [false] ph_is_number := ⟨_, _, _, O0, m0, F0.kp, b0⟩
  have O1 := ok_is_side (P := l.prog) (w := w) (base := base) F1 T  
  have C1 : Fnc l.prog w K mg base 1 "is_side" [false] ph_is_side := ⟨_, _, _, O1, m1, F1.kp, b1⟩
  have O2 := ok_turned_channel (P := l.prog) (w := w) (base := base) F2 T  
  have C2 : Fnc l.prog w K mg base 1 "turned_channel" [false] ph_turned_channel := ⟨_, _, _, O2, m2, F2.kp, b2⟩
  have O3 := ok_turned_lot (P := l.prog) (w := w) (base := base) F3 T  
  have C3 : Fnc l.prog w K mg base 1 "turned_lot" [false, false] ph_turned_lot := ⟨_, _, _, O3, m3, F3.kp, b3⟩
  have O4 := ok_turned (P := l.prog) (w := w) (base := base) F4 T C3 
  have C4 : Fnc l.prog w K mg base 2 "turned" [false, false] ph_turned := ⟨_, _, _, O4, m4, F4.kp, b4⟩
  have O5 := ok_is_tilt (P := l.prog) (w := w) (base := base) F5 T C0 C1 
  have C5 : Fnc l.prog w K mg base 2 "is_tilt" [false] ph_is_tilt := ⟨_, _, _, O5, m5, F5.kp, b5⟩
  have O6 := ok_is_row (P := l.prog) (w := w) (base := base) F6 T C5 
  have C6 : Fnc l.prog w K mg base 3 "is_row" [false] ph_is_row := ⟨_, _, _, O6, m6, F6.kp, b6⟩
  have O7 := ok_to_the_right (P := l.prog) (w := w) (base := base) F7 T  
  have C7 : Fnc l.prog w K mg base 1 "to_the_right" [false, false, false] ph_to_the_right := ⟨_, _, _, O7, m7, F7.kp, b7⟩
  have O8 := ok_tilt_of (P := l.prog) (w := w) (base := base) F8 T C2 C4 C7 
  have C8 : Fnc l.prog w K mg base 3 "tilt_of" [false, false, false, false] ph_tilt_of := ⟨_, _, _, O8, m8, F8.kp, b8⟩
  have O9 := ok_heard (P := l.prog) (w := w) (base := base) F9 T C8 
  have C9 : Fnc l.prog w K mg base 4 "heard" [false, false, false] ph_heard := ⟨_, _, _, O9, m9, F9.kp, b9⟩
  have O10 := ok_ends (P := l.prog) (w := w) (base := base) F10 T  
  have C10 : Fnc l.prog w K mg base 1 "ends" [false, false, false, false] ph_ends := ⟨_, _, _, O10, m10, F10.kp, b10⟩
  have O11 := ok_contrary (P := l.prog) (w := w) (base := base) F11 T  
  have C11 : Fnc l.prog w K mg base 1 "contrary" [false] ph_contrary := ⟨_, _, _, O11, m11, F11.kp, b11⟩
  have O12 := ok_first_unlike (P := l.prog) (w := w) (base := base) F12 T  
  have C12 : Fnc l.prog w K mg base 1 "first_unlike" [false, false] ph_first_unlike := ⟨_, _, _, O12, m12, F12.kp, b12⟩
  have O13 := ok_row_for (P := l.prog) (w := w) (base := base) F13 T C11 
  have C13 : Fnc l.prog w K mg base 2 "row_for" [false, false, false, false] ph_row_for := ⟨_, _, _, O13, m13, F13.kp, b13⟩
  have O14 := ok_told_apart (P := l.prog) (w := w) (base := base) F14 T C10 C12 C13 
  have C14 : Fnc l.prog w K mg base 3 "told_apart" [false, false, false] ph_told_apart := ⟨_, _, _, O14, m14, F14.kp, b14⟩
  have k_told_apart_2_1_0_0 : FncK l.prog w K mg base 3 "told_apart" 3 0 ["most", "other", "one"] [2, 1, 0] ph_told_apart := ⟨_, _, _, O14, m14, F14.kp, kwb_of F14 fun _ _ _ _ _ _ us ws h1 h2 => match us, ws, h1, h2 with | [], [_, _, _], _, _ => rfl⟩
  have O15 := ok_from_tray (P := l.prog) (w := w) (base := base) F15 T  
  have C15 : Fnc l.prog w K mg base 1 "from_tray" [false, false] ph_from_tray := ⟨_, _, _, O15, m15, F15.kp, b15⟩
  have O16 := ok_shows_apart (P := l.prog) (w := w) (base := base) F16 T C0 C1 C6 C9 C15 
  have C16 : Fnc l.prog w K mg base 5 "shows_apart" [false, false, false, false] ph_shows_apart := ⟨_, _, _, O16, m16, F16.kp, b16⟩
  have O17 := ok__law_cell_at (P := l.prog) (w := w) (base := base) F17 T  
  have C17 : Fnc l.prog w K mg base 1 "_law_cell_at" [false, false] ph__law_cell_at := ⟨_, _, _, O17, m17, F17.kp, b17⟩
  have O18 := ok__law_box (P := l.prog) (w := w) (base := base) F18 T C17 
  have C18 : Fnc l.prog w K mg base 2 "_law_box" [false, false] ph__law_box := ⟨_, _, _, O18, m18, F18.kp, b18⟩
  have O19 := ok__law_take (P := l.prog) (w := w) (base := base) F19 T  
  have C19 : Fnc l.prog w K mg base 1 "_law_take" [true, false] ph__law_take := ⟨_, _, _, O19, m19, F19.kp, b19⟩
  have O20 := ok__law_of (P := l.prog) (w := w) (base := base) F20 T C19 
  have C20 : Fnc l.prog w K mg base 2 "_law_of" [true, false] ph__law_of := ⟨_, _, _, O20, m20, F20.kp, b20⟩
  have O21 := ok__law_strewn (P := l.prog) (w := w) (base := base) F21 T C19 
  have C21 : Fnc l.prog w K mg base 2 "_law_strewn" [true, false] ph__law_strewn := ⟨_, _, _, O21, m21, F21.kp, b21⟩
  have O22 := ok__law_wire (P := l.prog) (w := w) (base := base) F22 T C19 C20 C21 
  have C22 : Fnc l.prog w K mg base 3 "_law_wire" [true, false] ph__law_wire := ⟨_, _, _, O22, m22, F22.kp, b22⟩
  have O23 := ok__law_tilted (P := l.prog) (w := w) (base := base) F23 T  
  have C23 : Fnc l.prog w K mg base 1 "_law_tilted" [false, false, false, false] ph__law_tilted := ⟨_, _, _, O23, m23, F23.kp, b23⟩
  have O24 := ok__law_led (P := l.prog) (w := w) (base := base) F24 T C23 
  have C24 : Fnc l.prog w K mg base 2 "_law_led" [false, false, false] ph__law_led := ⟨_, _, _, O24, m24, F24.kp, b24⟩
  have O25 := ok__law_ends (P := l.prog) (w := w) (base := base) F25 T  
  have C25 : Fnc l.prog w K mg base 1 "_law_ends" [false, false, false, false] ph__law_ends := ⟨_, _, _, O25, m25, F25.kp, b25⟩
  have O26 := ok__law_alike (P := l.prog) (w := w) (base := base) F26 T C25 
  have C26 : Fnc l.prog w K mg base 2 "_law_alike" [false, false, false] ph__law_alike := ⟨_, _, _, O26, m26, F26.kp, b26⟩
  have O27 := ok__law_begun (P := l.prog) (w := w) (base := base) F27 T  
  have C27 : Fnc l.prog w K mg base 1 "_law_begun" [false, false] ph__law_begun := ⟨_, _, _, O27, m27, F27.kp, b27⟩
  have O28 := ok__law_two (P := l.prog) (w := w) (base := base) F28 T C19 C21 C22 
  have C28 : Fnc l.prog w K mg base 4 "_law_two" [true, false] ph__law_two := ⟨_, _, _, O28, m28, F28.kp, b28⟩
  have O29 := ok__law_told_right (P := l.prog) (w := w) (base := base) F29 T C24 C26 C27 
  have C29 : Fnc l.prog w K mg base 3 "_law_told_right" [false, false, false, false] ph__law_told_right := ⟨_, _, _, O29, m29, F29.kp, b29⟩
  have O30 := ok__law_right (P := l.prog) (w := w) (base := base) F30 T C14 C16 C19 C28 C29 k_told_apart_2_1_0_0
  have C30 : Fnc l.prog w K mg base 6 "_law_right" [true] ph__law_right := ⟨_, _, _, O30, m30, F30.kp, b30⟩
  exact ok_law F31 T C18 C30 
end Lw
open PySem PySem.W PyProof.Rows in
set_option maxRecDepth 100000 in
set_option maxHeartbeats 0 in
theorem PySem.Challenge.cw_tiltpits_k44_channels_told_apart_holds : PySem.Challenge.rw_tiltpits_k44_channels_told_apart.Holds := by
  w_on; o_law; k_head; (case hw => w_witness2)
  k_fill
  refine Pv.walk_g (l := PySem.Challenge.rw_tiltpits_k44_channels_told_apart) (n := 63) (k := 7) (x := "_law_script") (spw := fun w => Pv.spOf _ [false] Lw.ph_law) rfl (by decide) rfl ⟨rfl, by decide, by decide⟩ (fun w h Y => PySem.W.kIn_of Y) ?F (fun _ _ a ns hl _ hS => Lw.law_sp hS hl fun _ => rfl)
  case F =>
    intro w mg fa h KX G hmg
    refine' Lw.all_mk KX G hmg ?a0 ?l0 ?c0 ?k0 ?a1 ?l1 ?c1 ?k1 ?a2 ?l2 ?c2 ?k2 ?a3 ?l3 ?c3 ?k3 ?a4 ?l4 ?c4 ?k4 ?a5 ?l5 ?c5 ?k5 ?a6 ?l6 ?c6 ?k6 ?a7 ?l7 ?c7 ?k7 ?a8 ?l8 ?c8 ?k8 ?a9 ?l9 ?c9 ?k9 ?a10 ?l10 ?c10 ?k10 ?a11 ?l11 ?c11 ?k11 ?a12 ?l12 ?c12 ?k12 ?a13 ?l13 ?c13 ?k13 ?a14 ?l14 ?c14 ?k14 ?a15 ?l15 ?c15 ?k15 ?a16 ?l16 ?c16 ?k16 ?a17 ?l17 ?c17 ?k17 ?a18 ?l18 ?c18 ?k18 ?a19 ?l19 ?c19 ?k19 ?a20 ?l20 ?c20 ?k20 ?a21 ?l21 ?c21 ?k21 ?a22 ?l22 ?c22 ?k22 ?a23 ?l23 ?c23 ?k23 ?a24 ?l24 ?c24 ?k24 ?a25 ?l25 ?c25 ?k25 ?a26 ?l26 ?c26 ?k26 ?a27 ?l27 ?c27 ?k27 ?a28 ?l28 ?c28 ?k28 ?a29 ?l29 ?c29 ?k29 ?a30 ?l30 ?c30 ?k30 ?a31 ?l31 ?c31 ?k31 ?z_abs ?z_all ?z_any ?z_bool ?z_enumerate ?z_int ?z_isinstance ?z_len ?z_list ?z_max ?z_min ?z_range ?z_repr ?z_sorted ?z_str ?z_tuple ?g_RIGHT ?g_SIDES ?l_SIDES
    (case a0 => k_is)
    (case l0 => k_is)
    (case c0 => k_is)
    (case k0 => k_is)
    (case a1 => k_is)
    (case l1 => k_is)
    (case c1 => k_is)
    (case k1 => k_is)
    (case a2 => k_is)
    (case l2 => k_is)
    (case c2 => k_is)
    (case k2 => k_is)
    (case a3 => k_is)
    (case l3 => k_is)
    (case c3 => k_is)
    (case k3 => k_is)
    (case a4 => k_is)
    (case l4 => k_is)
    (case c4 => k_is)
    (case k4 => k_is)
    (case a5 => k_is)
    (case l5 => k_is)
    (case c5 => k_is)
    (case k5 => k_is)
    (case a6 => k_is)
    (case l6 => k_is)
    (case c6 => k_is)
    (case k6 => k_is)
    (case a7 => k_is)
    (case l7 => k_is)
    (case c7 => k_is)
    (case k7 => k_is)
    (case a8 => k_is)
    (case l8 => k_is)
    (case c8 => k_is)
    (case k8 => k_is)
    (case a9 => k_is)
    (case l9 => k_is)
    (case c9 => k_is)
    (case k9 => k_is)
    (case a10 => k_is)
    (case l10 => k_is)
    (case c10 => k_is)
    (case k10 => k_is)
    (case a11 => k_is)
    (case l11 => k_is)
    (case c11 => k_is)
    (case k11 => k_is)
    (case a12 => k_is)
    (case l12 => k_is)
    (case c12 => k_is)
    (case k12 => k_is)
    (case a13 => k_is)
    (case l13 => k_is)
    (case c13 => k_is)
    (case k13 => k_is)
    (case a14 => k_is)
    (case l14 => k_is)
    (case c14 => k_is)
    (case k14 => k_is)
    (case a15 => k_is)
    (case l15 => k_is)
    (case c15 => k_is)
    (case k15 => k_is)
    (case a16 => k_is)
    (case l16 => k_is)
    (case c16 => k_is)
    (case k16 => k_is)
    (case a17 => k_is)
    (case l17 => k_is)
    (case c17 => k_is)
    (case k17 => k_is)
    (case a18 => k_is)
    (case l18 => k_is)
    (case c18 => k_is)
    (case k18 => k_is)
    (case a19 => k_is)
    (case l19 => k_is)
    (case c19 => k_is)
    (case k19 => k_is)
    (case a20 => k_is)
    (case l20 => k_is)
    (case c20 => k_is)
    (case k20 => k_is)
    (case a21 => k_is)
    (case l21 => k_is)
    (case c21 => k_is)
    (case k21 => k_is)
    (case a22 => k_is)
    (case l22 => k_is)
    (case c22 => k_is)
    (case k22 => k_is)
    (case a23 => k_is)
    (case l23 => k_is)
    (case c23 => k_is)
    (case k23 => k_is)
    (case a24 => k_is)
    (case l24 => k_is)
    (case c24 => k_is)
    (case k24 => k_is)
    (case a25 => k_is)
    (case l25 => k_is)
    (case c25 => k_is)
    (case k25 => k_is)
    (case a26 => k_is)
    (case l26 => k_is)
    (case c26 => k_is)
    (case k26 => k_is)
    (case a27 => k_is)
    (case l27 => k_is)
    (case c27 => k_is)
    (case k27 => k_is)
    (case a28 => k_is)
    (case l28 => k_is)
    (case c28 => k_is)
    (case k28 => k_is)
    (case a29 => k_is)
    (case l29 => k_is)
    (case c29 => k_is)
    (case k29 => k_is)
    (case a30 => k_is)
    (case l30 => k_is)
    (case c30 => k_is)
    (case k30 => k_is)
    (case a31 => k_is)
    (case l31 => k_is)
    (case c31 => k_is)
    (case k31 => k_is)
    (case z_abs => k_is)
    (case z_all => k_is)
    (case z_any => k_is)
    (case z_bool => k_is)
    (case z_enumerate => k_is)
    (case z_int => k_is)
    (case z_isinstance => k_is)
    (case z_len => k_is)
    (case z_list => k_is)
    (case z_max => k_is)
    (case z_min => k_is)
    (case z_range => k_is)
    (case z_repr => k_is)
    (case z_sorted => k_is)
    (case z_str => k_is)
    (case z_tuple => k_is)
    (case g_RIGHT => k_is)
    (case g_SIDES => k_is)
    (case l_SIDES => k_is)
#print axioms PySem.Challenge.cw_tiltpits_k44_channels_told_apart_holds
