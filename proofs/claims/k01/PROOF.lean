import PyProof.Rows.All
import Wide.All
import OpenK.AllK
import Wide.FinOn
import HandS.ForMost
import HandS.Exc
import HandS.Lambda
import KE.KDictKeyed
import KE.KeyNested
import HandS.TupAny
import HandS.TupMul
import HandS.Zip
import HandS.Text
import HandS.Wide
import HandS.Style
import KE.KRevSl
import HandS.Defaults
import HandS.Words
import HandS.Ends
import HandS.NoneIn
import HandS.Iter
import HandS.IsInst
import HandS.Deep
import HandS.SortInts
import HandS.Sort
import KE.DataMinMax
import KE.GoesEnum
import HandS.Conv
import HandS.More
import KE.DatumOrd
import HandS.SortKw
import HandS.DictComp
import HandS.Small
import KE.KDictLaws
import HandS.SetFor
import HandS.Strs
import PyProof.Rows.SetFrom
import PyProof.SetRoads
import KE.DataFind
import KE.KUnpackStar
import PyProof.Rows.RegBound
import PySem.Challenge.RW_tiltpits_k01_channels_lots_standings_or
set_option autoImplicit false
set_option hygiene false
set_option Elab.async false
set_option linter.all false
set_option maxRecDepth 100000
set_option maxHeartbeats 8000000
/-! Pv1: data over the abstract heap with owners. -/
namespace Pv
open PySem PySem.Spec PyProof.Rows L2

abbrev D := PyData
abbrev Fg := PySem.W.Frag
abbrev Sg := L2.St
/-- who may write at an address: nobody (it is read alone), somebody beyond this frame, the slot i (at a place of its tree), the t-th value in hand -/
inductive Ow where
  | shr | far | own (i : Nat) (p : List Nat) | tmp (t : Nat) (p : List Nat) | tab
  deriving DecidableEq
abbrev Om := Addr → Ow

def KL (K : Fg) (a : Addr) (xs : List V) : Prop :=
  ∃ (o : Obj) (its : Array Value) (n : Nat), K.lookup a = some o ∧ o.cls = .type "list" ∧ o.dict = none ∧ o.data = .seq its n ∧ its.size ≤ sizeLine ∧ Vals xs its.toList
def KT (K : Fg) (a : Addr) (xs : List V) : Prop :=
  ∃ (o : Obj) (its : Array Value) (n : Nat), K.lookup a = some o ∧ o.cls = .type "tuple" ∧ o.dict = none ∧ o.data = .seq its n ∧ its.size ≤ sizeLine ∧ Vals xs its.toList
def SL (ω : Om) (H : Hp) (a : Addr) (xs : List V) : Prop := H a = some (.lst xs) ∧ ω a = .shr
/-- a tuple without a dict of its own: a method of it is its type's -/
def SU (K : Fg) (ω : Om) (H : Hp) (a : Addr) (xs : List V) : Prop := (∃ o : Obj, H a = some (.frz o (.tup xs)) ∧ o.dict = none ∧ ω a = .shr) ∨ KT K a xs
/-- the script: a list that is known, not tracked as a plain one; as data it's told by a form of its own -/
def SC (K : Fg) (ω : Om) (H : Hp) (a : Addr) (xs : List V) : Prop := (Rd H a (.lst xs) ∧ ω a = .shr) ∨ KL K a xs
def scrD (ns : List Int) : D := .dict (ns.map fun n => (PyData.none, PyData.int n))
def isScr (kvs : List (D × D)) : Bool := match kvs with
  | (.bool _, _) :: _ => false
  | _ => true
theorem isScr_map (ns : List Int) : isScr (ns.map fun n => (PyData.none, PyData.int n)) = true := by cases ns <;> rfl
/-- a dict whose keys are ints, told by a form of its own -/
def dctD (es : List (Int × D)) : D := .dict ((.bool true, .none) :: es.map fun p => (.int p.1, p.2))
/-- its values -/
inductive DVal (ω : Om) (H : Hp) : V → D → Prop
  | bl (b : Bool) : DVal ω H (.bl b) (.bool b)
  | int (i : Int) : DVal ω H (.int i) (.int i)
  | il {a : Addr} {ns : List Int} : SL ω H a (ns.map V.int) → DVal ω H (.ref a) (.list (ns.map PyData.int))
inductive DPs (ω : Om) (H : Hp) : List (Key × V) → List (Int × D) → Prop
  | nil : DPs ω H [] []
  | cons {i : Int} {v : V} {d : D} {kvs : List (Key × V)} {es : List (Int × D)} : DVal ω H v d → DPs ω H kvs es → DPs ω H ((.inl i, v) :: kvs) ((i, d) :: es)
/-! dicts whose keys are tuples of ints, None, such tuples -/
mutual
/-- a key as data -/
def kyD : NestedKey → D
  | .none => .none
  | .num i => .int i
  | .text x => .str x
  | .tup ks => .tuple (kyDs ks)
def kyDs : List NestedKey → List D
  | [] => []
  | k :: ks => kyD k :: kyDs ks
end
mutual
inductive KyR (K : Fg) (ω : Om) (H : Hp) : V → NestedKey → Prop
  | non : KyR K ω H .non .none
  | int (i : Int) : KyR K ω H (.int i) (.num i)
  | tup {a : Addr} {xs : List V} {ks : List NestedKey} : SU K ω H a xs → KyAll K ω H xs ks → KyR K ω H (.ref a) (.tup ks)
inductive KyAll (K : Fg) (ω : Om) (H : Hp) : List V → List NestedKey → Prop
  | nil : KyAll K ω H [] []
  | cons {v : V} {vs : List V} {k : NestedKey} {ks : List NestedKey} : KyR K ω H v k → KyAll K ω H vs ks → KyAll K ω H (v :: vs) (k :: ks)
end
def TV (x : NestedKey × Addr × V) (y : NestedKey × Addr × Value) : Prop := x.1 = y.1 ∧ x.2.1 = y.2.1 ∧ RelV x.2.2 y.2.2
/-- such a dict: its keys, where their tuples stand, its values (ints, truths) -/
def DtP (a : Addr) (xs : List (NestedKey × Addr × V)) (h : Heap) : Prop := (a == sysModules) = false ∧ ∃ (o : Obj) (es : Array DictEntry) (ep : Nat) (ys : List (NestedKey × Addr × Value)),
  Paired TV xs ys ∧ h.get? a = some o ∧ o.ExactDict ∧ o.data = .dict es ep ∧ (∀ w : World, es.toList = ys.map fun y => ⟨y.1.hash w, .ref y.2.1, y.2.2⟩) ∧ (ys.map (·.1)).Nodup ∧ (∀ y ∈ ys, y.1.depth ≤ 8) ∧ ys.length ≤ sizeLine
def DtO (a : Addr) (xs : List (NestedKey × Addr × V)) : HO := .ext (DtP a xs)
inductive TVal : V → D → Prop
  | bl (b : Bool) : TVal (.bl b) (.bool b)
  | int (i : Int) : TVal (.int i) (.int i)
inductive TPs (K : Fg) (ω : Om) (H : Hp) : List (NestedKey × Addr × V) → List (NestedKey × D) → Prop
  | nil : TPs K ω H [] []
  | cons {k : NestedKey} {b : Addr} {v : V} {d : D} {xs : List (NestedKey × Addr × V)} {es : List (NestedKey × D)} : KyR K ω H (.ref b) k → TVal v d → TPs K ω H xs es → TPs K ω H ((k, b, v) :: xs) ((k, d) :: es)
/-- a dict of either kind: what stands there, what it's told by -/
inductive DcR (K : Fg) (ω : Om) (H : Hp) (a : Addr) : HO → D × List (D × D) → Prop
  | int {kvs : List (Key × V)} {es : List (Int × D)} : DPs ω H kvs es → DcR K ω H a (.dK kvs) (.none, es.map fun p => (.int p.1, p.2))
  | tup {xs : List (NestedKey × Addr × V)} {es : List (NestedKey × D)} : TPs K ω H xs es → DcR K ω H a (DtO a xs) (.bool true, es.map fun p => (kyD p.1, p.2))
def dcD (q : D × List (D × D)) : D := .dict ((.bool true, q.1) :: q.2)
/-- a dict whose keys are tuples, told by a form of its own -/
def dtpD (es : List (NestedKey × D)) : D := dcD (.bool true, es.map fun p => (kyD p.1, p.2))
theorem dcD_int (es : List (Int × D)) : dctD es = dcD (.none, es.map fun p => (.int p.1, p.2)) := rfl
theorem SL.seq {K : Fg} {ω : Om} {H : Hp} {a : Addr} {xs : List V} (h : SL ω H a xs) : SqL K H a xs := .inl (.inl h.1)
theorem SU.seq {K : Fg} {ω : Om} {H : Hp} {a : Addr} {xs : List V} (h : SU K ω H a xs) : SqT K H a xs := h.elim (fun ⟨o, h, _⟩ => .inl (.inr ⟨o, h⟩)) fun ⟨o, its, n, h1, h2, _, h3⟩ => .inr ⟨o, its, n, h1, h2, h3⟩
theorem SC.seq {K : Fg} {ω : Om} {H : Hp} {a : Addr} {xs : List V} (h : SC K ω H a xs) : SqL K H a xs := h.elim (fun h => .inl h.1) .inr

/-- an instance of an own class, its class's name, its fields; an exception -/
def insD (nm : Str) (fs : List (Str × D)) : D := .dict ((.bool false, .str nm) :: fs.map fun p => (.str p.1, p.2))
def excD (nm : Str) (fs : List (Str × D)) : D := .dict ((.bool false, .none) :: (.str nm, .none) :: fs.map fun p => (.str p.1, p.2))
/-- the class that a module's name stands for -/
def NmC (K : Fg) (nm : Str) (C : Addr) : Prop := PySem.W.nsIn K mainGlobals nm = some (some (.ref C))
theorem NmC.uniq {K : Fg} {nm : Str} {C C' : Addr} (h : NmC K nm C) (h' : NmC K nm C') : C = C' := by
  unfold NmC at h h'
  rw [h] at h'
  exact Value.ref.inj (Option.some.inj (Option.some.inj h'))
/-- an exception's object -/
def ExT (cls : Value) (d : Option Addr) (a : Addr) : HO := .ext fun h => ∃ (oe : Obj) (vs : Array Value), h.get? a = some oe ∧ L2.Zc cls d oe ∧ oe.data = .fields vs
/-- its fields: none, or one that is an int or a text -/
inductive XVal : V → D → Prop
  | int (i : Int) : XVal (.int i) (.int i)
  | str (x : Str) : XVal (.str x) (.str x)
def XFs (ω : Om) (H : Hp) (dd : Option Addr) (fs : List (Str × D)) : Prop := (fs = [] ∧ dd = none) ∨ ∃ (dx : Addr) (f : Str) (x : V) (d : D), dd = some dx ∧ fs = [(f, d)] ∧ H dx = some (.xd [(f, x)]) ∧ ω dx = .shr ∧ XVal x d
/-- a tuple with a list in it that may be written at, told by a form of its own -/
def otpD (ds : List D) : D := .dict ((.bool false, .bool true) :: ds.map fun d => (.none, d))
mutual
inductive Rp (K : Fg) (ω : Om) (H : Hp) : V → D → Prop
  | non : Rp K ω H .non .none
  | bl (b : Bool) : Rp K ω H (.bl b) (.bool b)
  | int (i : Int) : Rp K ω H (.int i) (.int i)
  | str (x : Str) : Rp K ω H (.str x) (.str x)
  | lst {a : Addr} {xs : List V} {ds : List D} : SL ω H a xs → RpAll K ω H xs ds → Rp K ω H (.ref a) (.list ds)
  | tup {a : Addr} {xs : List V} {ds : List D} : SU K ω H a xs → RpAll K ω H xs ds → Rp K ω H (.ref a) (.tuple ds)
  | scr {a : Addr} {ns : List Int} : SC K ω H a (ns.map V.int) → Rp K ω H (.ref a) (scrD ns)
  | dct {a : Addr} {u : HO} {q : D × List (D × D)} : H a = some u → ω a = .shr → DcR K ω H a u q → Rp K ω H (.ref a) (dcD q)
  | ins {a C dx : Addr} {gs : List (Str × V)} {nm : Str} {fs : List (Str × D)} : H a = some (.ins C dx gs) → ω a = .shr → H dx = some (.own a) → ω dx = .shr → NmC K nm C → RpFs K ω H gs fs → Rp K ω H (.ref a) (insD nm fs)
  | exc {a C : Addr} {dd : Option Addr} {nm : Str} {fs : List (Str × D)} : H a = some (ExT (.ref C) dd a) → ω a = .shr → NmC K nm C → XFs ω H dd fs → Rp K ω H (.ref a) (excD nm fs)
  | otp {a : Addr} {xs : List V} {ds : List D} : SU K ω H a xs → RpAll K ω H xs ds → Rp K ω H (.ref a) (otpD ds)
inductive RpAll (K : Fg) (ω : Om) (H : Hp) : List V → List D → Prop
  | nil : RpAll K ω H [] []
  | cons {v : V} {vs : List V} {d : D} {ds : List D} : Rp K ω H v d → RpAll K ω H vs ds → RpAll K ω H (v :: vs) (d :: ds)
inductive RpFs (K : Fg) (ω : Om) (H : Hp) : List (Str × V) → List (Str × D) → Prop
  | nil : RpFs K ω H [] []
  | cons {f : Str} {v : V} {gs : List (Str × V)} {d : D} {fs : List (Str × D)} : Rp K ω H v d → RpFs K ω H gs fs → RpFs K ω H ((f, v) :: gs) ((f, d) :: fs)
end
/-- the head of a dict's data tells its kind -/
def headD : D → Option (D × D)
  | .dict kvs => kvs.head?
  | _ => none
theorem head_ins {nm : Str} {fs : List (Str × D)} : headD (insD nm fs) = some (.bool false, .str nm) := rfl
theorem head_exc {nm : Str} {fs : List (Str × D)} : headD (excD nm fs) = some (.bool false, .none) := rfl
theorem head_otp {ds : List D} : headD (otpD ds) = some (.bool false, .bool true) := rfl
theorem head_dct {q : D × List (D × D)} : headD (dcD q) = some (.bool true, q.1) := rfl
theorem dct_not_ins {q : D × List (D × D)} {nm : Str} {fs : List (Str × D)} (e : dcD q = insD nm fs) : False := by
  have := congrArg headD e
  rw [head_dct, head_ins] at this; cases this
theorem dct_not_otp {q : D × List (D × D)} {ds : List D} (e : dcD q = otpD ds) : False := by
  have := congrArg headD e
  rw [head_dct, head_otp] at this; cases this
theorem ins_not_otp {nm : Str} {fs : List (Str × D)} {ds : List D} (e : insD nm fs = otpD ds) : False := by
  have := congrArg headD e
  rw [head_ins, head_otp] at this; cases this
theorem exc_not_otp {nm : Str} {fs : List (Str × D)} {ds : List D} (e : excD nm fs = otpD ds) : False := by
  have := congrArg headD e
  rw [head_exc, head_otp] at this; cases this

/-- all that is tracked and no slot's own is kept (but the tables of code objects) -/
def Step (ω : Om) (H : Hp) (ω' : Om) (H' : Hp) : Prop := ∀ a o, H a = some o → ω a ≠ .tab → (∃ i p, ω a = .own i p) ∨ (H' a = some o ∧ ω' a = ω a)
/-- all that is tracked is kept -/
def Grow (ω : Om) (H : Hp) (ω' : Om) (H' : Hp) : Prop := ∀ a o, H a = some o → H' a = some o ∧ ω' a = ω a
/-- .. as far as it is read -/
def Sh (ω : Om) (H : Hp) (ω' : Om) (H' : Hp) : Prop := ∀ a o, H a = some o → ω a = .shr → H' a = some o ∧ ω' a = .shr
def Free (ω : Om) (T : Nat) : Prop := ∀ a t p, ω a = .tmp t p → t < T

theorem Step.refl {ω : Om} {H : Hp} : Step ω H ω H := fun _ _ h _ => .inr ⟨h, rfl⟩
theorem Grow.refl {ω : Om} {H : Hp} : Grow ω H ω H := fun _ _ h => ⟨h, rfl⟩
theorem Grow.step {ω ω' : Om} {H H' : Hp} (g : Grow ω H ω' H') : Step ω H ω' H' := fun a o h _ => .inr (g a o h)
theorem Step.sh {ω ω' : Om} {H H' : Hp} (g : Step ω H ω' H') : Sh ω H ω' H' := fun a o h e => by
  rcases g a o h (by rw [e]; exact nofun) with ⟨i, p, q⟩ | ⟨q, z⟩
  · rw [e] at q; cases q
  · exact ⟨q, z.trans e⟩
theorem Step.trans {ω ω1 ω2 : Om} {H H1 H2 : Hp} (a : Step ω H ω1 H1) (b : Step ω1 H1 ω2 H2) : Step ω H ω2 H2 := fun c o h n => by
  rcases a c o h n with q | ⟨q, z⟩
  · exact .inl q
  · rcases b c o q (by rw [z]; exact n) with ⟨i, p, r⟩ | ⟨r, y⟩
    · exact .inl ⟨i, p, z ▸ r⟩
    · exact .inr ⟨r, y.trans z⟩
theorem Grow.trans {ω ω1 ω2 : Om} {H H1 H2 : Hp} (a : Grow ω H ω1 H1) (b : Grow ω1 H1 ω2 H2) : Grow ω H ω2 H2 := fun c o h => by
  obtain ⟨q, z⟩ := a c o h
  obtain ⟨r, y⟩ := b c o q
  exact ⟨r, y.trans z⟩

section
variable {K : Fg} {ω ω' : Om} {H H' : Hp}
theorem SL.sh {a : Addr} {xs : List V} (h : SL ω H a xs) (g : Sh ω H ω' H') : SL ω' H' a xs := g a _ h.1 h.2
theorem SU.sh {a : Addr} {xs : List V} (h : SU K ω H a xs) (g : Sh ω H ω' H') : SU K ω' H' a xs := by
  rcases h with ⟨o, h, d, e⟩ | h
  · obtain ⟨q, z⟩ := g a _ h e
    exact .inl ⟨o, q, d, z⟩
  · exact .inr h
theorem SC.sh {a : Addr} {xs : List V} (h : SC K ω H a xs) (g : Sh ω H ω' H') : SC K ω' H' a xs := by
  rcases h with ⟨h | ⟨o, h⟩, e⟩ | h
  · obtain ⟨q, z⟩ := g a _ h e
    exact .inl ⟨.inl q, z⟩
  · obtain ⟨q, z⟩ := g a _ h e
    exact .inl ⟨.inr ⟨o, q⟩, z⟩
  · exact .inr h
theorem DVal.sh (g : Sh ω H ω' H') {v : V} {d : D} (h : DVal ω H v d) : DVal ω' H' v d := by
  cases h with
  | bl b => exact .bl b
  | int i => exact .int i
  | il h => exact .il (h.sh g)
theorem DPs.sh (g : Sh ω H ω' H') : ∀ {kvs : List (Key × V)} {es : List (Int × D)}, DPs ω H kvs es → DPs ω' H' kvs es
  | _, _, .nil => .nil
  | _, _, .cons h t => .cons (h.sh g) (DPs.sh g t)
mutual
theorem KyR.sh (g : Sh ω H ω' H') : ∀ {v : V} {k : NestedKey}, KyR K ω H v k → KyR K ω' H' v k
  | _, _, .non => .non
  | _, _, .int i => .int i
  | _, _, .tup h t => .tup (h.sh g) (KyAll.sh g t)
theorem KyAll.sh (g : Sh ω H ω' H') : ∀ {vs : List V} {ks : List NestedKey}, KyAll K ω H vs ks → KyAll K ω' H' vs ks
  | _, _, .nil => .nil
  | _, _, .cons h t => .cons (KyR.sh g h) (KyAll.sh g t)
end
theorem TPs.sh (g : Sh ω H ω' H') : ∀ {xs : List (NestedKey × Addr × V)} {es : List (NestedKey × D)}, TPs K ω H xs es → TPs K ω' H' xs es
  | _, _, .nil => .nil
  | _, _, .cons h v t => .cons (h.sh g) v (TPs.sh g t)
theorem DcR.sh (g : Sh ω H ω' H') {a : Addr} {u : HO} {q : D × List (D × D)} (h : DcR K ω H a u q) : DcR K ω' H' a u q := by
  cases h with
  | int h => exact .int (h.sh g)
  | tup h => exact .tup (h.sh g)
theorem XFs.sh (g : Sh ω H ω' H') {dd : Option Addr} {fs : List (Str × D)} (h : XFs ω H dd fs) : XFs ω' H' dd fs := by
  rcases h with h | ⟨dx, f, x, d, e1, e2, h1, h2, h3⟩
  · exact .inl h
  · obtain ⟨q1, q2⟩ := g _ _ h1 h2
    exact .inr ⟨dx, f, x, d, e1, e2, q1, q2, h3⟩
mutual
theorem Rp.shI (g : Sh ω H ω' H') : ∀ {v : V} {d : D}, Rp K ω H v d → Rp K ω' H' v d
  | _, _, .non => .non
  | _, _, .bl b => .bl b
  | _, _, .int i => .int i
  | _, _, .str x => .str x
  | _, _, .lst hs ha => .lst (hs.sh g) (RpAll.shI g ha)
  | _, _, .tup hs ha => .tup (hs.sh g) (RpAll.shI g ha)
  | _, _, .scr hs => .scr (hs.sh g)
  | _, _, .dct h1 h2 h3 => .dct (g _ _ h1 h2).1 (g _ _ h1 h2).2 (h3.sh g)
  | _, _, .ins h1 h2 h3 h4 h5 h6 => .ins (g _ _ h1 h2).1 (g _ _ h1 h2).2 (g _ _ h3 h4).1 (g _ _ h3 h4).2 h5 (RpFs.shI g h6)
  | _, _, .exc h1 h2 h3 h4 => .exc (g _ _ h1 h2).1 (g _ _ h1 h2).2 h3 (h4.sh g)
  | _, _, .otp hs ha => .otp (hs.sh g) (RpAll.shI g ha)
theorem RpAll.shI (g : Sh ω H ω' H') : ∀ {vs : List V} {ds : List D}, RpAll K ω H vs ds → RpAll K ω' H' vs ds
  | _, _, .nil => .nil
  | _, _, .cons h t => .cons (Rp.shI g h) (RpAll.shI g t)
theorem RpFs.shI (g : Sh ω H ω' H') : ∀ {gs : List (Str × V)} {fs : List (Str × D)}, RpFs K ω H gs fs → RpFs K ω' H' gs fs
  | _, _, .nil => .nil
  | _, _, .cons h t => .cons (Rp.shI g h) (RpFs.shI g t)
end
theorem Rp.sh (g : Sh ω H ω' H') (d : D) (v : V) (h : Rp K ω H v d) : Rp K ω' H' v d := Rp.shI g h
theorem RpAll.sh (g : Sh ω H ω' H') (ds : List D) (vs : List V) (h : RpAll K ω H vs ds) : RpAll K ω' H' vs ds := RpAll.shI g h
theorem RpFs.get {f : Str} {d : D} : ∀ {gs : List (Str × V)} {fs : List (Str × D)}, RpFs K ω H gs fs → fs.lookup f = some d → ∃ v, gs.lookup f = some v ∧ Rp K ω H v d
  | _, _, .nil, e => by cases e
  | (g, v) :: gs, (_, c) :: fs, .cons h t, e => by
    rw [List.lookup_cons] at e ⊢
    cases hb : (f == g) with
    | true => rw [hb] at e; cases e; exact ⟨v, rfl, h⟩
    | false => rw [hb] at e; exact RpFs.get t e
theorem RpFs.keys : ∀ {gs : List (Str × V)} {fs : List (Str × D)}, RpFs K ω H gs fs → gs.map Prod.fst = fs.map Prod.fst
  | _, _, .nil => rfl
  | _, _, .cons h t => by rw [List.map_cons, List.map_cons, RpFs.keys t]
mutual
theorem Rp.dp : ∀ (d : D) (v : V), d.canLay0 = true → Rp K ω H v d → Dp K H v d
  | .none, _, _, h => by cases h; exact .non
  | .bool b, _, _, h => by cases h; exact .bl b
  | .int i, _, _, h => by cases h; exact .int i
  | .str x, _, _, h => by cases h; exact .str x
  | .list ds, _, z, h => by
    cases h with
    | lst hs ha => exact .lst hs.seq (RpAll.dp ds _ (by simpa [PyData.canLay0] using z) ha)
  | .tuple ds, _, z, h => by
    cases h with
    | tup hs ha => exact .tup hs.seq (RpAll.dp ds _ (by simpa [PyData.canLay0] using z) ha)
  | .dict _, _, z, h => by simp [PyData.canLay0] at z
theorem RpAll.dp : ∀ (ds : List D) (vs : List V), PyData.canLayAll0 ds = true → RpAll K ω H vs ds → DpAll K H vs ds
  | [], _, _, h => by cases h; exact .nil
  | d :: ds, _, z, h => by
    have z' : d.canLay0 = true ∧ PyData.canLayAll0 ds = true := by simpa [PyData.canLayAll0] using z
    cases h with
    | cons h1 h2 => exact .cons (Rp.dp d _ z'.1 h1) (RpAll.dp ds _ z'.2 h2)
end
theorem RpAll.length : ∀ {vs : List V} {ds : List D}, RpAll K ω H vs ds → vs.length = ds.length
  | [], [], _ => rfl
  | [], _ :: _, h => nomatch h
  | _ :: _, [], h => nomatch h
  | _ :: vs, _ :: ds, .cons _ h => by rw [List.length_cons, List.length_cons, RpAll.length h]
theorem RpAll.get : ∀ {vs : List V} {ds : List D} {i : Nat} {v : V} {d : D}, RpAll K ω H vs ds → vs[i]? = some v → ds[i]? = some d → Rp K ω H v d
  | _, _, 0, _, _, .cons h _, e1, e2 => by
    have e1' := Option.some.inj e1
    have e2' := Option.some.inj e2
    subst e1'; subst e2'; exact h
  | _, _, i + 1, _, _, .cons _ h, e1, e2 => RpAll.get (i := i) h (by simpa using e1) (by simpa using e2)
  | _, _, 0, _, _, .nil, e1, _ => by simp at e1
  | _, _, _ + 1, _, _, .nil, e1, _ => by simp at e1
theorem RpAll.of_get : ∀ {vs : List V} {ds : List D}, vs.length = ds.length → (∀ (i : Nat) (v : V) (d : D), vs[i]? = some v → ds[i]? = some d → Rp K ω H v d) → RpAll K ω H vs ds
  | [], [], _, _ => .nil
  | [], _ :: _, e, _ => by cases e
  | _ :: _, [], e, _ => by cases e
  | v :: vs, d :: ds, e, h => .cons (h 0 v d rfl rfl) (RpAll.of_get (Nat.succ.inj e) fun i w c e1 e2 => h (i + 1) w c (by simpa using e1) (by simpa using e2))
theorem RpAll.at_ {vs : List V} {ds : List D} {i : Nat} {d : D} (h : RpAll K ω H vs ds) (e : ds[i]? = some d) : ∃ v, vs[i]? = some v ∧ Rp K ω H v d := by
  have hl := h.length
  obtain ⟨q, _⟩ := List.getElem?_eq_some_iff.mp e
  have q' : i < vs.length := by omega
  exact ⟨vs[i], List.getElem?_eq_getElem q', h.get (List.getElem?_eq_getElem q') e⟩
theorem RpAll.append : ∀ {vs ws : List V} {ds es : List D}, RpAll K ω H vs ds → RpAll K ω H ws es → RpAll K ω H (vs ++ ws) (ds ++ es)
  | _, _, _, _, .nil, s => s
  | _, _, _, _, .cons h t, s => .cons h (RpAll.append t s)
theorem RpAll.take : ∀ {vs : List V} {ds : List D} (n : Nat), RpAll K ω H vs ds → RpAll K ω H (vs.take n) (ds.take n)
  | _, _, 0, _ => .nil
  | _, _, _ + 1, .nil => .nil
  | _, _, n + 1, .cons h t => .cons h (RpAll.take n t)
theorem RpAll.drop : ∀ {vs : List V} {ds : List D} (n : Nat), RpAll K ω H vs ds → RpAll K ω H (vs.drop n) (ds.drop n)
  | _, _, 0, h => h
  | _, _, _ + 1, .nil => .nil
  | _, _, n + 1, .cons _ t => RpAll.drop n t
theorem RpAll.reverse : ∀ {vs : List V} {ds : List D}, RpAll K ω H vs ds → RpAll K ω H vs.reverse ds.reverse
  | _, _, .nil => .nil
  | _, _, .cons h t => by
    rw [List.reverse_cons, List.reverse_cons]
    exact (RpAll.reverse t).append (.cons h .nil)
theorem RpAll.eraseIdx : ∀ {vs : List V} {ds : List D} (n : Nat), RpAll K ω H vs ds → RpAll K ω H (vs.eraseIdx n) (ds.eraseIdx n)
  | _, _, _, .nil => by rw [List.eraseIdx_nil, List.eraseIdx_nil]; exact .nil
  | _, _, 0, .cons _ t => t
  | _, _, n + 1, .cons h t => .cons h (RpAll.eraseIdx n t)
theorem RpAll.set {w : V} {c : D} (q : Rp K ω H w c) : ∀ {vs : List V} {ds : List D} (n : Nat), RpAll K ω H vs ds → RpAll K ω H (vs.set n w) (ds.set n c)
  | _, _, _, .nil => .nil
  | _, _, 0, .cons _ t => .cons q t
  | _, _, n + 1, .cons h t => .cons h (RpAll.set q n t)
theorem RpAll.ints : ∀ (ns : List Int), RpAll K ω H (ns.map V.int) (ns.map PyData.int)
  | [] => .nil
  | n :: ns => .cons (.int n) (RpAll.ints ns)
theorem RpAll.of_ints : ∀ {vs : List V} (ns : List Int), RpAll K ω H vs (ns.map PyData.int) → vs = ns.map V.int
  | _, [], h => by cases h; rfl
  | _, n :: ns, h => by
    cases h with
    | cons h1 h2 => cases h1; rw [RpAll.of_ints ns h2]; rfl
theorem RpAll.of_bools : ∀ {vs : List V} (ns : List Bool), RpAll K ω H vs (ns.map PyData.bool) → vs = ns.map V.bl
  | _, [], h => by cases h; rfl
  | _, n :: ns, h => by
    cases h with
    | cons h1 h2 => cases h1; rw [RpAll.of_bools ns h2]; rfl
end

/-! ### scalars, values that nobody may write at -/
mutual
/-- no list in it -/
def imm : D → Bool
  | .none => true | .bool _ => true | .int _ => true | .str _ => true
  | .list _ => false
  | .tuple ds => immAll ds
  | .dict _ => false
def immAll : List D → Bool
  | [] => true
  | d :: ds => imm d && immAll ds
end
/-- a tree of k levels of lists that one owner may write at; the rest is shared -/
def OwR (K : Fg) (ω : Om) (H : Hp) : Nat → (List Nat → Ow) → List Nat → V → D → Prop
  | 0, _, _, v, d => Rp K ω H v d
  | k + 1, o, p, v, d => (imm d = true ∧ Rp K ω H v d) ∨
      (∃ (a : Addr) (vs : List V) (ds : List D), v = .ref a ∧ d = .list ds ∧ H a = some (.lst vs) ∧ ω a = o p ∧ vs.length = ds.length ∧
        ∀ (j : Nat) (v' : V) (d' : D), vs[j]? = some v' → ds[j]? = some d' → OwR K ω H k o (p ++ [j]) v' d') ∨
      (∃ (a : Addr) (u : HO) (q : D × List (D × D)), v = .ref a ∧ d = dcD q ∧ H a = some u ∧ ω a = o p ∧ DcR K ω H a u q) ∨
      (∃ (a C dx : Addr) (gs : List (Str × V)) (nm : Str) (fs : List (Str × D)), v = .ref a ∧ d = insD nm fs ∧ H a = some (.ins C dx gs) ∧ ω a = o p ∧ H dx = some (.own a) ∧ ω dx = o p ∧ NmC K nm C ∧ gs.map Prod.fst = fs.map Prod.fst ∧
        ∀ (j : Nat) (v' : V) (d' : D), (gs.map Prod.snd)[j]? = some v' → (fs.map Prod.snd)[j]? = some d' → OwR K ω H k o (p ++ [j]) v' d') ∨
      ∃ (a : Addr) (vs : List V) (ds : List D), v = .ref a ∧ d = otpD ds ∧ SU K ω H a vs ∧ vs.length = ds.length ∧
        ∀ (j : Nat) (v' : V) (d' : D), vs[j]? = some v' → ds[j]? = some d' → OwR K ω H k o (p ++ [j]) v' d'
section
variable {K : Fg} {ω ω' : Om} {H H' : Hp}
/-- kept, under another map of owners -/
theorem OwR.go {o o' : List Nat → Ow} (g : Sh ω H ω' H') (h2 : ∀ a u p, H a = some u → ω a = o p → H' a = some u ∧ ω' a = o' p) : ∀ (k : Nat) (p : List Nat) (v : V) (d : D), OwR K ω H k o p v d → OwR K ω' H' k o' p v d
  | 0, _, v, d, h => Rp.sh g d v h
  | k + 1, p, v, d, h => by
    rcases h with ⟨i, h⟩ | ⟨a, vs, ds, e1, e2, h1, e3, el, hc⟩ | ⟨a, kvs, es, e1, e2, h1, e3, hp⟩ | ⟨a, C, dx, gs, nm, fs, e1, e2, h1, e3, h4, e4, hn, hk, hc⟩ | ⟨a, vs, ds, e1, e2, h1, el, hc⟩
    · exact .inl ⟨i, Rp.sh g d v h⟩
    · obtain ⟨q1, q2⟩ := h2 a _ p h1 e3
      exact .inr (.inl ⟨a, vs, ds, e1, e2, q1, q2, el, fun j v' d' z1 z2 => OwR.go g h2 k _ v' d' (hc j v' d' z1 z2)⟩)
    · obtain ⟨q1, q2⟩ := h2 a _ p h1 e3
      exact .inr (.inr (.inl ⟨a, kvs, es, e1, e2, q1, q2, hp.sh g⟩))
    · obtain ⟨q1, q2⟩ := h2 a _ p h1 e3
      obtain ⟨q3, q4⟩ := h2 dx _ p h4 e4
      exact .inr (.inr (.inr (.inl ⟨a, C, dx, gs, nm, fs, e1, e2, q1, q2, q3, q4, hn, hk, fun j v' d' z1 z2 => OwR.go g h2 k _ v' d' (hc j v' d' z1 z2)⟩)))
    · exact .inr (.inr (.inr (.inr ⟨a, vs, ds, e1, e2, h1.sh g, el, fun j v' d' z1 z2 => OwR.go g h2 k _ v' d' (hc j v' d' z1 z2)⟩)))
/-- given up: it is shared from then on -/
theorem RpFs.of_get : ∀ {gs : List (Str × V)} {fs : List (Str × D)}, gs.map Prod.fst = fs.map Prod.fst → (∀ (i : Nat) (v : V) (d : D), (gs.map Prod.snd)[i]? = some v → (fs.map Prod.snd)[i]? = some d → Rp K ω H v d) → RpFs K ω H gs fs
  | [], [], _, _ => .nil
  | [], _ :: _, e, _ => by cases e
  | _ :: _, [], e, _ => by cases e
  | (f, v) :: gs, (g, d) :: fs, e, h => by
    obtain ⟨e1, e2⟩ := List.cons.inj e
    have e1' : f = g := e1
    subst e1'
    exact .cons (h 0 v d rfl rfl) (RpFs.of_get e2 fun i w c z1 z2 => h (i + 1) w c z1 z2)
theorem OwR.fz {o : List Nat → Ow} (g : Sh ω H ω' H') (h2 : ∀ a u p, H a = some u → ω a = o p → H' a = some u ∧ ω' a = .shr) : ∀ (k : Nat) (p : List Nat) (v : V) (d : D), OwR K ω H k o p v d → Rp K ω' H' v d
  | 0, _, v, d, h => Rp.sh g d v h
  | k + 1, p, v, d, h => by
    rcases h with ⟨i, h⟩ | ⟨a, vs, ds, e1, e2, h1, e3, el, hc⟩ | ⟨a, kvs, es, e1, e2, h1, e3, hp⟩ | ⟨a, C, dx, gs, nm, fs, e1, e2, h1, e3, h4, e4, hn, hk, hc⟩ | ⟨a, vs, ds, e1, e2, h1, el, hc⟩
    · exact Rp.sh g d v h
    · obtain ⟨q1, q2⟩ := h2 a _ p h1 e3
      subst e1; subst e2
      exact .lst ⟨q1, q2⟩ (RpAll.of_get el fun j v' d' z1 z2 => OwR.fz g h2 k _ v' d' (hc j v' d' z1 z2))
    · obtain ⟨q1, q2⟩ := h2 a _ p h1 e3
      subst e1; subst e2
      exact .dct q1 q2 (hp.sh g)
    · obtain ⟨q1, q2⟩ := h2 a _ p h1 e3
      obtain ⟨q3, q4⟩ := h2 dx _ p h4 e4
      subst e1; subst e2
      exact .ins q1 q2 q3 q4 hn (RpFs.of_get hk fun j v' d' z1 z2 => OwR.fz g h2 k _ v' d' (hc j v' d' z1 z2))
    · subst e1; subst e2
      exact .otp (h1.sh g) (RpAll.of_get el fun j v' d' z1 z2 => OwR.fz g h2 k _ v' d' (hc j v' d' z1 z2))
theorem DpAll.of_get : ∀ {vs : List V} {ds : List D}, vs.length = ds.length → (∀ (i : Nat) (v : V) (d : D), vs[i]? = some v → ds[i]? = some d → Dp K H v d) → DpAll K H vs ds
  | [], [], _, _ => .nil
  | [], _ :: _, e, _ => by cases e
  | _ :: _, [], e, _ => by cases e
  | v :: vs, d :: ds, e, h => .cons (h 0 v d rfl rfl) (DpAll.of_get (Nat.succ.inj e) fun i w c e1 e2 => h (i + 1) w c (by simpa using e1) (by simpa using e2))
theorem canLay_all : ∀ {ds : List D} {i : Nat} {d : D}, PyData.canLayAll0 ds = true → ds[i]? = some d → d.canLay0 = true
  | [], _, _, _, e => by simp at e
  | c :: ds, 0, d, h, e => by
    have h' : c.canLay0 = true ∧ PyData.canLayAll0 ds = true := by simpa [PyData.canLayAll0] using h
    have e' := Option.some.inj e
    subst e'; exact h'.1
  | c :: ds, i + 1, d, h, e => by
    have h' : c.canLay0 = true ∧ PyData.canLayAll0 ds = true := by simpa [PyData.canLayAll0] using h
    exact canLay_all (i := i) h'.2 (by simpa using e)
theorem OwR.dp {o : List Nat → Ow} : ∀ (k : Nat) (p : List Nat) (v : V) (d : D), d.canLay0 = true → OwR K ω H k o p v d → Dp K H v d
  | 0, _, v, d, z, h => Rp.dp d v z h
  | k + 1, p, v, d, z, h => by
    rcases h with ⟨i, h⟩ | ⟨a, vs, ds, e1, e2, h1, e3, el, hc⟩ | ⟨a, kvs, es, e1, e2, h1, e3, hp⟩ | ⟨_, _, _, _, _, _, _, e2, _⟩ | ⟨_, _, _, _, e2, _⟩
    · exact Rp.dp d v z h
    · subst e1; subst e2
      exact .lst (.inl (.inl h1)) (DpAll.of_get el fun j v' d' z1 z2 => OwR.dp k _ v' d' (canLay_all (by simpa [PyData.canLay0] using z) z2) (hc j v' d' z1 z2))
    · subst e2; simp [dcD, PyData.canLay0] at z
    · subst e2; simp [insD, PyData.canLay0] at z
    · subst e2; simp [otpD, PyData.canLay0] at z
end

/-! ### what the slots hold -/
structure Cell where
  k : Nat
  d : D
abbrev Env := List (Option Cell)
abbrev sh (d : D) : Cell := ⟨0, d⟩
abbrev ow (d : D) : Cell := ⟨1, d⟩
/-- a value in hand: a new one of so many levels (0: shared), or the one of the slot i, which stays the slot's own -/
inductive Res where
  | v (k : Nat) (d : D)
  | b (i k : Nat) (d : D)
def Res.d : Res → D
  | .v _ d => d
  | .b _ _ d => d
/-- the tables of code objects that are watched: those of the defs that hand a lambda to a call by a keyword -/
def isLam : Keyword → Bool
  | ⟨_, .Lambda _ _ _ _, _⟩ => true
  | _ => false
def lamIn : Stmt → Bool
  | .Return (some (.Call _ _ kws _)) _ => kws.any isLam
  | .Assign _ (.Call _ _ kws _) _ => kws.any isLam
  | _ => false
def tabAt (K : Fg) (a : Addr) : List (Addr × Str) := match K.lookup a with
  | some ⟨_, _, .func fd, _⟩ => (match fd.body, fd.code with
    | .stmts b, .ref c => if b.any lamIn then (match K.lookup c with
      | some ⟨_, _, .fields vs, _⟩ => (match vs.toList.drop 11 with
        | .ref P :: _ => [(P, fd.qualname ++ ".<locals>." ++ "<lambda>")]
        | _ => [])
      | _ => []) else []
    | _, _ => [])
  | _ => []
def tabsOf (K : Fg) : List (Addr × Str) := K.flatMap fun p => tabAt K p.1
def TabW (ω : Om) (H : Hp) (P : Addr) (q : Str) : Prop := ω P = .tab ∧ ∃ ps : Array Value, H P = some (.tbl ps) ∧ TriplesOk ps.toList ∧ ∀ (pos : Pos) (cv : Value), codeAmong pos ps.toList = some cv → ∃ c, cv = .ref c ∧ H c = some (LamX.CodeO c q) ∧ ω c = .tab
def Tabs (K : Fg) (ω : Om) (H : Hp) : Prop := ∀ p ∈ tabsOf K, TabW ω H p.1 p.2
theorem Tabs.go {K : Fg} {ω ω' : Om} {H H' : Hp} (h : Tabs K ω H) (t : ∀ a o, H a = some o → ω a = .tab → H' a = some o ∧ ω' a = .tab) : Tabs K ω' H' := fun p hp => by
  obtain ⟨e1, ps, e2, e3, e4⟩ := h p hp
  obtain ⟨q1, q2⟩ := t _ _ e2 e1
  refine ⟨q2, ps, q1, e3, fun pos cv e => ?_⟩
  obtain ⟨c, z1, z2, z3⟩ := e4 pos cv e
  obtain ⟨y1, y2⟩ := t _ _ z2 z3
  exact ⟨c, z1, y1, y2⟩
theorem Tabs.grow {K : Fg} {ω ω' : Om} {H H' : Hp} (h : Tabs K ω H) (g : Grow ω H ω' H') : Tabs K ω' H' := h.go fun a o e1 e2 => ⟨(g a o e1).1, (g a o e1).2.trans e2⟩
structure Rel (K : Fg) (ω : Om) (env : Env) (σ : Sg) (H : Hp) : Prop where
  tab : Tabs K ω H
  len : σ.length = env.length
  cell : ∀ i c, env[i]? = some (some c) → ∃ v, σ[i]? = some (some v) ∧ OwR K ω H c.k (Ow.own i) [] v c.d
def ResR (K : Fg) (ω : Om) (H : Hp) (σ : Sg) (env : Env) (T : Nat) (v : V) : Res → Prop
  | .v k d => OwR K ω H k (Ow.tmp T) [] v d
  | .b i k d => env[i]? = some (some ⟨k, d⟩) ∧ σ[i]? = some (some v)
/-- a value that may be looked at: shared, or some owner's -/
def Vw (K : Fg) (ω : Om) (H : Hp) (v : V) (r : Res) : Prop := match r with
  | .v _ d => Rp K ω H v d
  | .b i k d => OwR K ω H k (Ow.own i) [] v d
theorem Vw.dp {K : Fg} {ω : Om} {H : Hp} {v : V} {r : Res} (h : Vw K ω H v r) (z : r.d.canLay0 = true) : Dp K H v r.d := by
  cases r with
  | v k d => exact Rp.dp d v z h
  | b i k d => exact OwR.dp k _ v d z h
section
variable {K : Fg} {ω ω' : Om} {H H' : Hp} {env : Env} {σ : Sg}
theorem Rel.grow (R : Rel K ω env σ H) (g : Grow ω H ω' H') : Rel K ω' env σ H' := by
  refine ⟨R.tab.grow g, R.len, fun i c e => ?_⟩
  obtain ⟨v, q, h⟩ := R.cell i c e
  refine ⟨v, q, OwR.go g.step.sh (fun a u p z1 z2 => ?_) _ _ _ _ h⟩
  obtain ⟨y1, y2⟩ := g a u z1
  exact ⟨y1, y2.trans z2⟩
theorem ResR.step {T T' : Nat} {v : V} {k : Nat} {d : D} (h : ResR K ω H σ env T v (.v k d)) (g : Step ω H ω' H') : ResR K ω' H' σ env T v (.v k d) := by
  refine OwR.go g.sh (fun a u p z1 z2 => ?_) _ _ _ _ h
  rcases g a u z1 (by rw [z2]; exact nofun) with ⟨i, q, y⟩ | ⟨y1, y2⟩
  · rw [z2] at y; cases y
  · exact ⟨y1, y2.trans z2⟩
end
/-! ### owners by another name -/
def ren (ρ : Ow → Ow) (ω : Om) : Om := fun a => ρ (ω a)
theorem Tabs.ren {K : Fg} {ω : Om} {H : Hp} {ρ : Ow → Ow} (h : Tabs K ω H) (e2 : ρ .tab = .tab) : Tabs K (Pv.ren ρ ω) H :=
  h.go fun a o h e => ⟨h, by show ρ (ω a) = _; rw [e]; exact e2⟩
/-- the values in hand from T on are given up -/
def gcO (T : Nat) : Ow → Ow
  | .tmp t p => if T ≤ t then .shr else .tmp t p
  | o => o
abbrev gc (T : Nat) (ω : Om) : Om := ren (gcO T) ω
theorem gc_free {ω : Om} {T : Nat} : Free (gc T ω) T := fun a t p e => by
  unfold gc ren at e
  cases q : ω a with
  | tmp t' p' =>
    rw [q] at e
    have e' : (if T ≤ t' then Ow.shr else .tmp t' p') = .tmp t p := e
    by_cases hT : T ≤ t'
    · rw [if_pos hT] at e'; cases e'
    · rw [if_neg hT] at e'; cases e'; omega
  | _ => rw [q] at e; cases e
section
variable {K : Fg} {ω ω' ω0 : Om} {H H' H0 : Hp} {env : Env} {σ : Sg} {T : Nat} {v : V}
theorem gc_sh : Sh ω H (gc T ω) H := fun a o h e => ⟨h, by show gcO T (ω a) = _; rw [e]; rfl⟩
theorem Rel.gc (R : Rel K ω env σ H) (T : Nat) : Rel K (gc T ω) env σ H := by
  refine ⟨R.tab.ren rfl, R.len, fun i c e => ?_⟩
  obtain ⟨v, q, h⟩ := R.cell i c e
  exact ⟨v, q, OwR.go gc_sh (fun a u p z1 z2 => ⟨z1, by show gcO T (ω a) = _; rw [z2]; rfl⟩) _ _ _ _ h⟩
theorem Step.gc (g : Step ω0 H0 ω H) (f : Free ω0 T) : Step ω0 H0 (gc T ω) H := fun a o h n => by
  rcases g a o h n with q | ⟨q, z⟩
  · exact .inl q
  · refine .inr ⟨q, ?_⟩
    show gcO T (ω a) = _
    rw [z]
    cases y : ω0 a with
    | tmp t p =>
      have := f a t p y
      show (if T ≤ t then Ow.shr else .tmp t p) = _
      rw [if_neg (by omega)]
    | _ => rfl
theorem ResR.gc {T' : Nat} {r : Res} (h : ResR K ω H σ env T' v r) (R : Rel K ω env σ H) (hT : T ≤ T') : Vw K (gc T ω) H v r := by
  cases r with
  | v k d =>
    refine OwR.fz gc_sh (fun a u p z1 z2 => ⟨z1, ?_⟩) _ _ _ _ h
    show gcO T (ω a) = _
    rw [z2]
    show (if T ≤ T' then Ow.shr else _) = _
    rw [if_pos hT]
  | b i k d =>
    obtain ⟨e1, e2⟩ := h
    obtain ⟨v', q, h⟩ := R.cell i _ e1
    rw [e2] at q
    have q' := Option.some.inj (Option.some.inj q)
    subst q'
    exact OwR.go gc_sh (fun a u p z1 z2 => ⟨z1, by show gcO T (ω a) = _; rw [z2]; rfl⟩) _ _ _ _ h
end
end Pv

/-! Pv2: readings over data: expressions, tests, arguments; names, constants, operators. -/
namespace Pv
open PySem PySem.Spec PyProof.Rows L2

abbrev FE := Env → (Res → Env → Prop) → Prop
abbrev FT := Env → (Bool → Env → Prop) → Prop
abbrev FA := Env → (List Res → Env → Prop) → Prop

def SndE (K : Fg) (t : TE) (f : FE) : Prop := ∀ (ω : Om) (T : Nat) (env : Env) (σ : Sg) (H : Hp) (R : Res → Env → Prop) (Q : VK), Rel K ω env σ H → Free ω T → f env R →
  (∀ v H' ω' env' r, Rel K ω' env' σ H' → Step ω H ω' H' → Free ω' (T + 1) → ResR K ω' H' σ env' T v r → R r env' → Q v H') → t σ H Q
def SndT (K : Fg) (t : TT) (f : FT) : Prop := ∀ (ω : Om) (T : Nat) (env : Env) (σ : Sg) (H : Hp) (R : Bool → Env → Prop) (Q : Bool → Hp → Prop), Rel K ω env σ H → Free ω T → f env R →
  (∀ b H' ω' env', Rel K ω' env' σ H' → Step ω H ω' H' → Free ω' T → R b env' → Q b H') → t σ H Q
def ResAll (K : Fg) (ω : Om) (H : Hp) (σ : Sg) (env : Env) : Nat → List V → List Res → Prop
  | _, [], [] => True
  | T, v :: vs, r :: rs => ResR K ω H σ env T v r ∧ ResAll K ω H σ env (T + 1) vs rs
  | _, _, _ => False
def SndA (K : Fg) (t : TA) (f : FA) : Prop := ∀ (ω : Om) (T : Nat) (env : Env) (σ : Sg) (H : Hp) (R : List Res → Env → Prop) (Q : List V → Hp → Prop), Rel K ω env σ H → Free ω T → f env R →
  (∀ vs H' ω' env' rs, Rel K ω' env' σ H' → Step ω H ω' H' → Free ω' (T + rs.length) → ResAll K ω' H' σ env' T vs rs → R rs env' → Q vs H') → t σ H Q
structure SE (X : Cx) (e : Expr) (f : FE) : Prop where
  ex : ∃ t : TE, PE X e t ∧ SndE X.K t f
structure STs (X : Cx) (e : Expr) (f : FT) : Prop where
  ex : ∃ t : TT, PT X e t ∧ SndT X.K t f
structure STw (X : Cx) (e : Expr) (f : FT) : Prop where
  ex : ∃ t : TT, PW X e t ∧ SndT X.K t f
structure SA (X : Cx) (es : List Expr) (f : FA) : Prop where
  ex : ∃ t : TA, PA X es t ∧ SndA X.K t f

/-- a value of a slot's own is still as it was seen -/
def okb (env : Env) : Res → Prop
  | .v _ _ => True
  | .b i k d => env[i]? = some (some ⟨k, d⟩)
@[simp] theorem okb_v {env : Env} {k : Nat} {d : D} : okb env (.v k d) = True := rfl
@[simp] theorem okb_b {env : Env} {i k : Nat} {d : D} : okb env (.b i k d) = (env[i]? = some (some ⟨k, d⟩)) := rfl
@[simp] theorem Res.d_v {k : Nat} {d : D} : (Res.v k d).d = d := rfl
@[simp] theorem Res.d_b {i k : Nat} {d : D} : (Res.b i k d).d = d := rfl

/-! ### names, constants -/
def getC (env : Env) (i : Nat) : Option Cell := match env[i]? with
  | some c => c
  | none => none
theorem getC_some {env : Env} {i : Nat} {c : Cell} (h : getC env i = some c) : env[i]? = some (some c) := by
  unfold getC at h
  cases e : env[i]? with
  | none => rw [e] at h; cases h
  | some o => rw [e] at h; rw [show o = some c from h]
/-- a name that is looked at -/
def fVar (i : Nat) : FE := fun env R => match getC env i with
  | some ⟨0, d⟩ => R (.v 0 d) env
  | some ⟨k + 1, d⟩ => R (.b i (k + 1) d) env
  | none => False
/-- .. whose value is given up to whoever has it -/
def fFz (i : Nat) : FE := fun env R => match getC env i with
  | some c => R (.v 0 c.d) (env.set i (some (sh c.d)))
  | none => False
/-- .. whose value goes away from it -/
def fMv (i : Nat) : FE := fun env R => match getC env i with
  | some c => R (.v c.k c.d) (env.set i none)
  | none => False
def fC (d : D) : FE := fun env R => R (.v 0 d) env

section
variable {K : Fg}
theorem snd_var (i : Nat) : SndE K (tVar i) (fVar i) := by
  intro ω T env σ H R Q rel fr h q
  unfold fVar at h
  cases hc : getC env i with
  | none => rw [hc] at h; exact h.elim
  | some c =>
    obtain ⟨k, d⟩ := c
    rw [hc] at h
    obtain ⟨v, hv, ho⟩ := rel.cell i _ (getC_some hc)
    refine ⟨v, hv, ?_⟩
    cases k with
    | zero =>
      have ho' : Rp K ω H v d := ho
      exact q v H ω env (.v 0 d) rel Step.refl (fun a t p e => Nat.lt_succ_of_lt (fr a t p e)) ho' h
    | succ k => exact q v H ω env (.b i (k + 1) d) rel Step.refl (fun a t p e => Nat.lt_succ_of_lt (fr a t p e)) ⟨getC_some hc, hv⟩ h
def fzO (i : Nat) : Ow → Ow
  | .own j p => if j = i then .shr else .own j p
  | o => o
theorem snd_fz (i : Nat) : SndE K (tVar i) (fFz i) := by
  intro ω T env σ H R Q rel fr h0 q
  obtain ⟨c, hc, hR⟩ : ∃ c : Cell, env[i]? = some (some c) ∧ R (.v 0 c.d) (env.set i (some (sh c.d))) := by
    unfold fFz at h0
    cases hc : getC env i with
    | none => rw [hc] at h0; exact h0.elim
    | some c => rw [hc] at h0; exact ⟨c, getC_some hc, h0⟩
  obtain ⟨v, hv, ho⟩ := rel.cell i c hc
  have gsh : Sh ω H (ren (fzO i) ω) H := fun a o h e => ⟨h, by show fzO i (ω a) = _; rw [e]; rfl⟩
  have rp : Rp K (ren (fzO i) ω) H v c.d := OwR.fz gsh (fun a u p z1 z2 => ⟨z1, by
    show fzO i (ω a) = _
    rw [z2]
    show (if i = i then Ow.shr else _) = _
    rw [if_pos rfl]⟩) _ _ _ _ ho
  refine ⟨v, hv, q v H (ren (fzO i) ω) _ (.v 0 c.d) ⟨rel.tab.ren rfl, by rw [List.length_set]; exact rel.len, fun j c' e => ?_⟩ (fun a o h _ => ?_) (fun a t p e => ?_) rp hR⟩
  · by_cases hj : i = j
    · subst hj
      have hlt : i < env.length := (List.getElem?_eq_some_iff.mp hc).1
      rw [List.getElem?_set_self hlt] at e
      cases e
      exact ⟨v, hv, rp⟩
    · rw [List.getElem?_set_ne hj] at e
      obtain ⟨v', hv', ho'⟩ := rel.cell j c' e
      refine ⟨v', hv', OwR.go gsh (fun a u p z1 z2 => ⟨z1, ?_⟩) _ _ _ _ ho'⟩
      show fzO i (ω a) = _
      rw [z2]
      show (if j = i then Ow.shr else _) = _
      rw [if_neg (fun z => hj z.symm)]
  · show _ ∨ (_ ∧ fzO i (ω a) = ω a)
    cases y : ω a with
    | own j p => exact .inl ⟨j, p, rfl⟩
    | _ => exact .inr ⟨h, rfl⟩
  · have e' : fzO i (ω a) = .tmp t p := e
    cases y : ω a with
    | own j p' =>
      rw [y] at e'
      have e2 : (if j = i then Ow.shr else .own j p') = .tmp t p := e'
      by_cases hj : j = i
      · rw [if_pos hj] at e2; cases e2
      · rw [if_neg hj] at e2; cases e2
    | tmp t' p' =>
      rw [y] at e'
      cases e'
      exact Nat.lt_succ_of_lt (fr a _ _ y)
    | shr => rw [y] at e'; cases e'
    | far => rw [y] at e'; cases e'
    | tab => rw [y] at e'; cases e'
def mvO (i T : Nat) : Ow → Ow
  | .own j p => if j = i then .tmp T p else .own j p
  | o => o
theorem snd_mv (i : Nat) : SndE K (tVar i) (fMv i) := by
  intro ω T env σ H R Q rel fr h0 q
  obtain ⟨c, hc, hR⟩ : ∃ c : Cell, env[i]? = some (some c) ∧ R (.v c.k c.d) (env.set i none) := by
    unfold fMv at h0
    cases hc : getC env i with
    | none => rw [hc] at h0; exact h0.elim
    | some c => rw [hc] at h0; exact ⟨c, getC_some hc, h0⟩
  obtain ⟨v, hv, ho⟩ := rel.cell i c hc
  have gsh : Sh ω H (ren (mvO i T) ω) H := fun a o h e => ⟨h, by show mvO i T (ω a) = _; rw [e]; rfl⟩
  refine ⟨v, hv, q v H (ren (mvO i T) ω) _ (.v c.k c.d) ⟨rel.tab.ren rfl, by rw [List.length_set]; exact rel.len, fun j c' e => ?_⟩ (fun a o h _ => ?_) (fun a t p e => ?_) (OwR.go (o := Ow.own i) gsh (fun a u p z1 z2 => ⟨z1, ?_⟩) _ _ _ _ ho) hR⟩
  · have hj : i ≠ j := fun z => by
      subst z
      have hlt : i < env.length := (List.getElem?_eq_some_iff.mp hc).1
      rw [List.getElem?_set_self hlt] at e
      cases e
    rw [List.getElem?_set_ne hj] at e
    obtain ⟨v', hv', ho'⟩ := rel.cell j c' e
    refine ⟨v', hv', OwR.go gsh (fun a u p z1 z2 => ⟨z1, ?_⟩) _ _ _ _ ho'⟩
    show mvO i T (ω a) = _
    rw [z2]
    show (if j = i then _ else _) = _
    rw [if_neg (fun z => hj z.symm)]
  · show _ ∨ (_ ∧ mvO i T (ω a) = ω a)
    cases y : ω a with
    | own j p => exact .inl ⟨j, p, rfl⟩
    | _ => exact .inr ⟨h, rfl⟩
  · have e' : mvO i T (ω a) = .tmp t p := e
    cases y : ω a with
    | own j p' =>
      rw [y] at e'
      have e2 : (if j = i then Ow.tmp T p' else .own j p') = .tmp t p := e'
      by_cases hj : j = i
      · rw [if_pos hj] at e2; cases e2; exact Nat.lt_succ_self _
      · rw [if_neg hj] at e2; cases e2
    | tmp t' p' =>
      rw [y] at e'
      cases e'
      exact Nat.lt_succ_of_lt (fr a _ _ y)
    | shr => rw [y] at e'; cases e'
    | far => rw [y] at e'; cases e'
    | tab => rw [y] at e'; cases e'
  · show mvO i T (ω a) = _
    rw [z2]
    show (if i = i then _ else _) = _
    rw [if_pos rfl]
theorem Free.up {ω : Om} {T n : Nat} (h : Free ω T) : Free ω (T + n) := fun a t p e => by have := h a t p e; omega
theorem snd_c {v : V} {d : D} (h : ∀ (ω : Om) (H : Hp), Rp K ω H v d) : SndE K (tC v) (fC d) := by
  intro ω T env σ H R Q rel fr hR q
  exact q v H ω env (.v 0 d) rel Step.refl fr.up (h ω H) hR
end
section
variable {X : Cx}
theorem se_var (i : Nat) {x : Str} {pos : Pos} (hN : X.N[i]? = some x := by rfl) (hv : Vis X.env.scope x := by first | exact Or.inl rfl | exact Or.inr (Or.inl rfl) | exact Or.inr (Or.inr rfl)) (hd : (x == ("__debug__" : Str)) = false := by decide)
    (hcd : (x == ("__classdict__" : Str)) = false := by decide) : SE X (.Name x pos) (fVar i) := ⟨_, pe_var hN hv hd hcd, snd_var i⟩
theorem se_fz (i : Nat) {x : Str} {pos : Pos} (hN : X.N[i]? = some x := by rfl) (hv : Vis X.env.scope x := by first | exact Or.inl rfl | exact Or.inr (Or.inl rfl) | exact Or.inr (Or.inr rfl)) (hd : (x == ("__debug__" : Str)) = false := by decide)
    (hcd : (x == ("__classdict__" : Str)) = false := by decide) : SE X (.Name x pos) (fFz i) := ⟨_, pe_var hN hv hd hcd, snd_fz i⟩
theorem se_mv (i : Nat) {x : Str} {pos : Pos} (hN : X.N[i]? = some x := by rfl) (hv : Vis X.env.scope x := by first | exact Or.inl rfl | exact Or.inr (Or.inl rfl) | exact Or.inr (Or.inr rfl)) (hd : (x == ("__debug__" : Str)) = false := by decide)
    (hcd : (x == ("__classdict__" : Str)) = false := by decide) : SE X (.Name x pos) (fMv i) := ⟨_, pe_var hN hv hd hcd, snd_mv i⟩
theorem se_int {i j pos} : SE X (.Constant (.int i) j pos) (fC (.int i)) := ⟨_, pe_int, snd_c fun _ _ => .int i⟩
theorem se_bl {b j pos} : SE X (.Constant (.bool b) j pos) (fC (.bool b)) := ⟨_, pe_bl, snd_c fun _ _ => .bl b⟩
theorem se_non {j pos} : SE X (.Constant .none j pos) (fC .none) := ⟨_, pe_non, snd_c fun _ _ => .non⟩
theorem se_str {x j pos} : SE X (.Constant (.str x) j pos) (fC (.str x)) := ⟨_, pe_str, snd_c fun _ _ => .str x⟩
/-- a module's constant -/
def KD (K : Fg) (u : Value) (d : D) : Prop := ∃ v : V, RelV v u ∧ ∀ (ω : Om) (H : Hp), Rp K ω H v d
theorem se_glob {x : Str} {u : Value} {d : D} {pos : Pos} (hm : X.mg x = some u) (h : KD X.K u d) (hg : Gl X x := by rfl) (hd : (x == ("__debug__" : Str)) = false := by decide) : SE X (.Name x pos) (fC d) := by
  obtain ⟨v, r, hv⟩ := h
  exact ⟨_, pe_glob hg hm r hd, snd_c hv⟩
end

/-! ### arguments -/
def fNil : FA := fun env R => R [] env
/-- a borrowed value as it stands by now -/
def refr (e : Env) : Res → Option Res
  | .v k d => some (.v k d)
  | .b i _ _ => match getC e i with
    | some c => some (.b i c.k c.d)
    | none => none
def fCons (fa : FE) (fr : FA) : FA := fun env R => fa env fun r e1 => fr e1 fun rs e2 => match refr e2 r with
  | some r' => R (r' :: rs) e2
  | none => False
section
variable {K : Fg}
theorem snd_nil : SndA K tNil fNil := by
  intro ω T env σ H R Q rel fr hR q
  exact q [] H ω env [] rel Step.refl fr trivial hR
theorem snd_cons {ta : TE} {tr : TA} {fa : FE} {fr : FA} (ha : SndE K ta fa) (hr : SndA K tr fr) : SndA K (tCons ta tr) (fCons fa fr) := by
  intro ω T env σ H R Q rel fre hR q
  refine ha ω T env σ H _ _ rel fre hR fun v H1 ω1 e1 r rel1 st1 fr1 rr1 h1 => ?_
  refine hr ω1 (T + 1) e1 σ H1 _ _ rel1 fr1 h1 fun vs H2 ω2 e2 rs rel2 st2 fr2 rr2 h2 => ?_
  have go : ∀ r', ResR K ω2 H2 σ e2 T v r' → R (r' :: rs) e2 → Q (v :: vs) H2 := fun r' hr' hR' =>
    q (v :: vs) H2 ω2 e2 (r' :: rs) rel2 (st1.trans st2) (by rw [List.length_cons, show T + (rs.length + 1) = T + 1 + rs.length by omega]; exact fr2) ⟨hr', rr2⟩ hR'
  cases r with
  | v k d => exact go _ (ResR.step (T' := T) rr1 st2) h2
  | b i k d =>
    have h3 : (match (match getC e2 i with | some c => some (Res.b i c.k c.d) | none => none) with | some r' => R (r' :: rs) e2 | none => False) := h2
    cases hc : getC e2 i with
    | none => rw [hc] at h3; exact h3.elim
    | some c =>
      rw [hc] at h3
      exact go (.b i c.k c.d) ⟨getC_some hc, rr1.2⟩ h3
end
section
variable {X : Cx}
theorem sa_nil : SA X [] fNil := ⟨_, pa_nil, snd_nil⟩
theorem sa_cons {e : Expr} {es : List Expr} {fa : FE} {fr : FA} (ha : SE X e fa) (hr : SA X es fr) (hs : starEach (e :: es) X.env = (false, eval e X.env) :: starEach es X.env := by rfl) : SA X (e :: es) (fCons fa fr) := by
  obtain ⟨t, p, s⟩ := ha.ex
  obtain ⟨u, p', s'⟩ := hr.ex
  exact ⟨_, pa_cons p p' hs, snd_cons s s'⟩
end

/-! ### operations on values -/
abbrev KC := Nat → D → Prop
abbrev O1 := Res → KC → Prop
abbrev O2 := Res → Res → KC → Prop
abbrev ON := List Res → KC → Prop
def VwAll (K : Fg) (ω : Om) (H : Hp) : List V → List Res → Prop
  | [], [] => True
  | v :: vs, r :: rs => Vw K ω H v r ∧ VwAll K ω H vs rs
  | _, _ => False
/-- what an operation brings: the heap grew, and a value in hand -/
def Out (K : Fg) (ω : Om) (T : Nat) (H : Hp) (R : KC) (Q : VK) : Prop := ∀ v H' ω' k d, Grow ω H ω' H' → Free ω' (T + 1) → OwR K ω' H' k (Ow.tmp T) [] v d → R k d → Q v H'
def SndO1 (K : Fg) (r : V → Hp → VK → Prop) (o : O1) : Prop := ∀ ω T H x r1 (R : KC) (Q : VK), Free ω T → Vw K ω H x r1 → o r1 R → Out K ω T H R Q → r x H Q
def SndO2 (K : Fg) (r : R2) (o : O2) : Prop := ∀ ω T H x y r1 r2 (R : KC) (Q : VK), Free ω T → Vw K ω H x r1 → Vw K ω H y r2 → o r1 r2 R → Out K ω T H R Q → r x y H Q
def SndON (K : Fg) (r : List V → Hp → VK → Prop) (o : ON) : Prop := ∀ ω T H xs rs (R : KC) (Q : VK), Free ω T → VwAll K ω H xs rs → o rs R → Out K ω T H R Q → r xs H Q
/-- an operation that is looked at as a whole -/
@[irreducible] def ap1 (o : O1) (r : Res) (R : KC) : Prop := o r R
@[irreducible] def ap2 (o : O2) (r1 r2 : Res) (R : KC) : Prop := o r1 r2 R
@[irreducible] def apN (o : ON) (rs : List Res) (R : KC) : Prop := o rs R
/-- data that are looked at as a whole -/
@[irreducible] def ovr (o : D → Prop) (d : D) : Prop := o d
@[irreducible] def ovr2 (o : D → D → Prop) (d d' : D) : Prop := o d d'
theorem ap1_eq {o : O1} {r : Res} {R : KC} : ap1 o r R = o r R := by unfold ap1; rfl
theorem ap2_eq {o : O2} {r1 r2 : Res} {R : KC} : ap2 o r1 r2 R = o r1 r2 R := by unfold ap2; rfl
theorem apN_eq {o : ON} {rs : List Res} {R : KC} : apN o rs R = o rs R := by unfold apN; rfl
theorem ovr_eq {o : D → Prop} {d : D} : ovr o d = o d := by unfold ovr; rfl
theorem ovr2_eq {o : D → D → Prop} {d d' : D} : ovr2 o d d' = o d d' := by unfold ovr2; rfl
theorem ap1_op {o : O1} {r : Res} {R : KC} (h : o r R) : ap1 o r R := by rw [ap1_eq]; exact h
theorem ap2_op {o : O2} {r1 r2 : Res} {R : KC} (h : o r1 r2 R) : ap2 o r1 r2 R := by rw [ap2_eq]; exact h
theorem apN_op {o : ON} {rs : List Res} {R : KC} (h : o rs R) : apN o rs R := by rw [apN_eq]; exact h
theorem ovr_op {o : D → Prop} {d : D} (h : o d) : ovr o d := by rw [ovr_eq]; exact h
theorem ovr2_op {o : D → D → Prop} {d d' : D} (h : o d d') : ovr2 o d d' := by rw [ovr2_eq]; exact h
theorem ap1_cl {o : O1} {r : Res} {R : KC} (h : ap1 o r R) : o r R := by rw [ap1_eq] at h; exact h
theorem ap2_cl {o : O2} {r1 r2 : Res} {R : KC} (h : ap2 o r1 r2 R) : o r1 r2 R := by rw [ap2_eq] at h; exact h
theorem apN_cl {o : ON} {rs : List Res} {R : KC} (h : apN o rs R) : o rs R := by rw [apN_eq] at h; exact h
theorem ovr_cl {o : D → Prop} {d : D} (h : ovr o d) : o d := by rw [ovr_eq] at h; exact h
theorem ovr2_cl {o : D → D → Prop} {d d' : D} (h : ovr2 o d d') : o d d' := by rw [ovr2_eq] at h; exact h
def fOp1 (o : O1) (fa : FE) : FE := fun env R => fa env fun r e => ap1 o r fun k d => R (.v k d) e
def fOp2 (o : O2) (fa fb : FE) : FE := fun env R => fa env fun r1 e1 => fb e1 fun r2 e2 => okb e2 r1 ∧ ap2 o r1 r2 fun k d => R (.v k d) e2
def fOpN (o : ON) (fa : FA) : FE := fun env R => fa env fun rs e => apN o rs fun k d => R (.v k d) e
section
variable {K : Fg} {ω : Om} {T : Nat} {H : Hp} {R : KC} {Q : VK}
theorem Out.same (q : Out K ω T H R Q) (fr : Free ω T) {v : V} {d : D} (h : Rp K ω H v d) (hR : R 0 d) : Q v H := q v H ω 0 d Grow.refl fr.up h hR
theorem Out.bl (q : Out K ω T H R Q) (fr : Free ω T) {b : Bool} (hR : R 0 (.bool b)) : Q (.bl b) H := q.same fr (.bl b) hR
theorem Out.int (q : Out K ω T H R Q) (fr : Free ω T) {b : Int} (hR : R 0 (.int b)) : Q (.int b) H := q.same fr (.int b) hR
theorem Out.str (q : Out K ω T H R Q) (fr : Free ω T) {b : Str} (hR : R 0 (.str b)) : Q (.str b) H := q.same fr (.str b) hR
theorem Out.non (q : Out K ω T H R Q) (fr : Free ω T) (hR : R 0 .none) : Q .non H := q.same fr .non hR
def putO (p : Addr) (o : Ow) (ω : Om) : Om := fun a => if a = p then o else ω a
theorem putO_same {p : Addr} {o : Ow} {ω : Om} : putO p o ω p = o := by unfold putO; rw [if_pos rfl]
theorem putO_ne {p a : Addr} {o : Ow} {ω : Om} (h : a ≠ p) : putO p o ω a = ω a := by unfold putO; rw [if_neg h]
theorem put_grow {p : Addr} {o : Ow} {u : HO} (hp : H p = none) : Grow ω H (putO p o ω) (upd H p u) := fun a x h => by
  have n := ne_of_none h hp
  exact ⟨by rw [upd_ne n]; exact h, putO_ne n⟩
theorem put_free {p : Addr} {l : List Nat} (fr : Free ω T) : Free (putO p (.tmp T l) ω) (T + 1) := fun a t q e => by
  by_cases h : a = p
  · subst h; rw [putO_same] at e; cases e; exact Nat.lt_succ_self _
  · rw [putO_ne h] at e; exact Nat.lt_succ_of_lt (fr a t q e)
theorem put_free0 {p : Addr} (fr : Free ω T) : Free (putO p .shr ω) (T + 1) := fun a t q e => by
  by_cases h : a = p
  · subst h; rw [putO_same] at e; cases e
  · rw [putO_ne h] at e; exact Nat.lt_succ_of_lt (fr a t q e)
/-- a new list of shared items -/
theorem Out.lst (q : Out K ω T H R Q) (fr : Free ω T) {p : Addr} (hp : H p = none) {vs : List V} {ds : List D} (h : RpAll K ω H vs ds) (hR : R 1 (.list ds)) : Q (.ref p) (upd H p (.lst vs)) := by
  refine q _ _ (putO p (.tmp T []) ω) 1 _ (put_grow hp) (put_free fr) (.inr (.inl ⟨p, vs, ds, rfl, rfl, upd_same, putO_same, h.length, fun j v' d' z1 z2 => ?_⟩)) hR
  exact Rp.sh (put_grow hp).step.sh _ _ (h.get z1 z2)
/-- a new tuple -/
theorem Out.tup (q : Out K ω T H R Q) (fr : Free ω T) {p : Addr} {o : Obj} (hp : H p = none) (hd : o.dict = none) {vs : List V} {ds : List D} (h : RpAll K ω H vs ds) (hR : R 0 (.tuple ds)) : Q (.ref p) (upd H p (.frz o (.tup vs))) := by
  refine q _ _ (putO p .shr ω) 0 _ (put_grow hp) (put_free0 fr) (.tup (.inl ⟨o, upd_same, hd, putO_same⟩) ?_) hR
  exact RpAll.sh (put_grow hp).step.sh _ _ h
end
section
variable {K : Fg}
theorem Step.grow {ω ω1 ω2 : Om} {H H1 H2 : Hp} (a : Step ω H ω1 H1) (b : Grow ω1 H1 ω2 H2) : Step ω H ω2 H2 := a.trans b.step
/-- behind an operation -/
theorem out_of {ω0 ω : Om} {T : Nat} {H0 H : Hp} {env : Env} {σ : Sg} {R : Res → Env → Prop} {Q : VK} (rel : Rel K ω env σ H) (st : Step ω0 H0 ω H)
    (q : ∀ v H' ω' env' r, Rel K ω' env' σ H' → Step ω0 H0 ω' H' → Free ω' (T + 1) → ResR K ω' H' σ env' T v r → R r env' → Q v H') : Out K ω T H (fun k d => R (.v k d) env) Q :=
  fun v H' ω' k d g fr' h hR => q v H' ω' env (.v k d) (rel.grow g) (st.grow g) fr' h hR
theorem snd_op1 {r : V → Hp → VK → Prop} {o : O1} {ta : TE} {fa : FE} (ho : SndO1 K r o) (ha : SndE K ta fa) : SndE K (tUn r ta) (fOp1 o fa) := by
  intro ω T env σ H R Q rel fre hR q
  refine ha ω T env σ H _ _ rel fre hR fun v H1 ω1 e1 r1 rel1 st1 fr1 rr1 h1 => ?_
  exact ho (gc T ω1) T H1 v r1 _ Q gc_free (rr1.gc rel1 (Nat.le_refl _)) (ap1_cl h1) (out_of (rel1.gc T) (st1.gc fre) q)
theorem two_ops {ta tb : TE} {fa fb : FE} (ha : SndE K ta fa) (hb : SndE K tb fb) {ω : Om} {T : Nat} {env : Env} {σ : Sg} {H : Hp} {G : Res → Res → Env → Prop} {W : V → V → Hp → Prop} (rel : Rel K ω env σ H) (fre : Free ω T)
    (h : fa env fun r1 e1 => fb e1 fun r2 e2 => okb e2 r1 ∧ G r1 r2 e2)
    (q : ∀ x y H' ω' e' r1 r2, Rel K ω' e' σ H' → Step ω H ω' H' → Free ω' T → Vw K ω' H' x r1 → Vw K ω' H' y r2 → G r1 r2 e' → W x y H') : ta σ H fun x H1 => tb σ H1 fun y H2 => W x y H2 := by
  refine ha ω T env σ H _ _ rel fre h fun v H1 ω1 e1 r1 rel1 st1 fr1 rr1 h1 => ?_
  refine hb ω1 (T + 1) e1 σ H1 _ _ rel1 fr1 h1 fun u H2 ω2 e2 r2 rel2 st2 fr2 rr2 h2 => ?_
  have rr1' : ResR K ω2 H2 σ e2 T v r1 := by
    cases r1 with
    | v k d => exact ResR.step (T' := T) rr1 st2
    | b i k d => exact ⟨h2.1, rr1.2⟩
  exact q v u H2 (gc T ω2) e2 r1 r2 (rel2.gc T) ((st1.trans st2).gc fre) gc_free (rr1'.gc rel2 (Nat.le_refl _)) (rr2.gc rel2 (Nat.le_succ _)) h2.2
theorem snd_op2 {r : R2} {o : O2} {ta tb : TE} {fa fb : FE} (ho : SndO2 K r o) (ha : SndE K ta fa) (hb : SndE K tb fb) : SndE K (tOp r ta tb) (fOp2 o fa fb) := by
  intro ω T env σ H R Q rel fre hR q
  refine two_ops (G := fun r1 r2 e2 => ap2 o r1 r2 fun k d => R (.v k d) e2) ha hb rel fre hR fun x y H2 ω2 e2 r1 r2 rel2 st2 fr2 v1 v2 h2 => ?_
  exact ho ω2 T H2 x y r1 r2 _ Q fr2 v1 v2 (ap2_cl h2) (out_of rel2 st2 q)
theorem ResAll.gc {ω : Om} {H : Hp} {env : Env} {σ : Sg} {T0 : Nat} (R : Rel K ω env σ H) : ∀ {vs : List V} {rs : List Res} {T : Nat}, T0 ≤ T → ResAll K ω H σ env T vs rs → VwAll K (gc T0 ω) H vs rs
  | [], [], _, _, _ => trivial
  | [], _ :: _, _, _, h => h.elim
  | _ :: _, [], _, _, h => h.elim
  | _ :: _, _ :: _, _, hT, h => ⟨ResR.gc h.1 R hT, ResAll.gc R (Nat.le_succ_of_le hT) h.2⟩
theorem snd_opN {r : List V → Hp → VK → Prop} {o : ON} {ta : TA} {fa : FA} (ho : SndON K r o) (ha : SndA K ta fa) : SndE K (fun σ H Q => ta σ H fun vs H1 => r vs H1 Q) (fOpN o fa) := by
  intro ω T env σ H R Q rel fre hR q
  refine ha ω T env σ H _ _ rel fre hR fun vs H1 ω1 e1 rs rel1 st1 fr1 rr1 h1 => ?_
  exact ho (gc T ω1) T H1 vs rs _ Q gc_free (rr1.gc rel1 (Nat.le_refl _)) (apN_cl h1) (out_of (rel1.gc T) (st1.gc fre) q)
end
end Pv

/-! Pt: tuples as they are made: no dict of their own. -/
namespace Pv
open PySem PySem.Spec PyProof PyProof.Rows L2
/-- a tuple's object, new -/
def tpO (its : Array Value) : Obj := { cls := .type "tuple", data := .seq its }
section
variable {X : Cx} {pins : List (Addr × Obj)} {σ : Sg} {H : Hp} {s : Shared}
theorem tp_ok {P : Program} {w : World} {H : Hp} {h : Heap} {a : Addr} {xs : List V} {its : List Value} (z : xs.length ≤ sizeLine) (r : Vals xs its) (e : h.get? a = some (tpO its.toArray)) : ObjOk P w H h a (.frz (tpO its.toArray) (.tup xs)) :=
  ⟨e, z, its, r, _, e, rfl, _, rfl⟩
/-- a new tuple is laid, and what it is is kept in sight -/
theorem tp_lay {xs : List V} {its : List Value} {Q : VK} (I : Inv X pins σ H s) (z : xs.length ≤ sizeLine) (r : Vals xs its) (q : ∀ p o, H p = none → o.dict = none → Q (.ref p) (upd H p (.frz o (.tup xs)))) :
    EP X pins σ Q (.ref s.heap.objs.size) { s with heap := s.heap.push (tpO its.toArray) } :=
  ⟨.ref s.heap.objs.size, upd H s.heap.objs.size (.frz (tpO its.toArray) (.tup xs)), I.laid (t' := s.toks) (fun b u e => Heap.get?_push_of_some _ e) (Nat.le_refl _) (tp_ok z r (Heap.get?_push_size _ rfl)), rfl, q _ _ (I.hok.fresh (Nat.le_refl _)) rfl⟩
end
/-! ### (..) -/
def tTupF (t : TA) : TE := fun σ H Q => t σ H fun xs H1 => xs.length ≤ sizeLine ∧ ∀ p o, H1 p = none → o.dict = none → Q (.ref p) (upd H1 p (.frz o (.tup xs)))
theorem pe_tupF {X : Cx} {es : List Expr} {t : TA} {pos : Pos} {x1} (h : PA X es t) : PE X (.Tuple es x1 pos) (tTupF t) := ⟨fun pins s σ H Q I hq =>
  wpAny_Tuple_spliced (thn (h.run pos pins s σ H _ I hq) fun us s1 ⟨xs, H1, I1, r, z, q⟩ => ⟨Nat.le_trans (Nat.le_of_eq r.length.symm) z, tp_lay I1 z r q⟩)⟩
section
variable {X : Cx}
/-! ### tuple(list) -/
def rTupF (K : Fg) : V → Hp → VK → Prop := fun x H Q => ∃ p ys, x = .ref p ∧ ((SqL K H p ys ∧ ∀ l o, H l = none → o.dict = none → Q (.ref l) (upd H l (.frz o (.tup ys)))) ∨ (SqT K H p ys ∧ Q (.ref p) H))
theorem cr_tupF : CallR X (.type "tuple") (fun xs H Q => ∃ x, xs = [x] ∧ rTupF X.K x H Q) := by
  intro pins s σ H vs us Q I rv h
  obtain ⟨_, rfl, p, ys, rfl, h⟩ := h
  rw [Vals.ref1 rv]
  rcases h with ⟨hl, q⟩ | ⟨ht, q⟩
  · obtain ⟨its, r', pl, hz⟩ := I.list hl
    exact call_tuple_list pl.isList (fun h' kp => tp_lay (I.kept (t' := s.toks) kp) hz r' q) (by rw [List.size_toArray, ← r'.length]; exact hz)
  · obtain ⟨its, _, pl, _⟩ := I.tuple ht
    exact call_tuple_same pl ⟨.ref p, H, I, rfl, q⟩
/-! ### t[lo:hi] -/
def rSlF (K : Fg) : V → Option Int → Option Int → Hp → VK → Prop := fun x lo hi H Q => ∃ a xs, x = .ref a ∧ SqT K H a xs ∧
  ((HT.sIx xs.length 0 lo = 0 ∧ HT.sIx xs.length xs.length hi = xs.length) → Q (.ref a) H) ∧
  (¬ (HT.sIx xs.length 0 lo = 0 ∧ HT.sIx xs.length xs.length hi = xs.length) → ∀ p o, H p = none → o.dict = none → Q (.ref p) (upd H p (.frz o (.tup (cutV xs lo hi)))))
theorem sl_tupF : SlR X (rSlF X.K) := by
  intro pins s σ H x v vl vu lo hi sl Q I rx hs pl pu ⟨a, xs, ex, hx, q1, q2⟩
  subst ex
  by_cases hw : HT.sIx xs.length 0 lo = 0 ∧ HT.sIx xs.length xs.length hi = xs.length
  · exact sl_tupA pins s σ H (.ref a) v vl vu lo hi sl Q I rx hs pl pu ⟨a, xs, rfl, hx, q1, fun n => absurd hw n⟩
  · cases rx
    obtain ⟨its, r, ht, hz⟩ := I.tuple hx
    have hn : its.toArray.size = xs.length := (List.size_toArray ..).trans r.length.symm
    refine ⟨"tuple", _, PyProof.Rows.slot_tuple_getitem.lookup, ht.typeIs, HT.getItem_tuple_cut ht hs pl pu (hn ▸ hw) ?_ (hn ▸ hz)⟩
    rw [hn]
    exact tp_lay I (Nat.le_trans (cutV_length xs lo hi) hz) ((r.drop _).take _) (q2 hw)
/-! ### t + u -/
def rCatF (K : Fg) : R2 := fun x y H Q => ∃ a b xs ys, x = .ref a ∧ y = .ref b ∧ SqT K H a xs ∧ SqT K H b ys ∧ xs.length + ys.length ≤ sizeLine ∧
  (xs = [] → Q (.ref b) H) ∧ (xs ≠ [] → ys = [] → Q (.ref a) H) ∧ (xs ≠ [] → ys ≠ [] → ∀ p o, H p = none → o.dict = none → Q (.ref p) (upd H p (.frz o (.tup (xs ++ ys)))))
theorem op_catF : OpR X (binaryOp .Add) (rCatF X.K) := by
  intro pins s σ H x y v u Q I rx ry ⟨a, b, xs, ys, ex, ey, ha, hb, hz, q0, q1, q2⟩
  subst ex
  subst ey
  by_cases hc : xs ≠ [] ∧ ys ≠ []
  · cases rx
    cases ry
    obtain ⟨its, r1, p1, _⟩ := I.tuple ha
    obtain ⟨its2, r2, p2, _⟩ := I.tuple hb
    refine HT.cat_tup p1 p2 (fun z => hc.1 (r1.nil_iff.mp z)) (fun z => absurd (r2.nil_iff.mp z) hc.2) (fun z => ?_) (by rw [← r1.length, ← r2.length]; exact hz)
    exact tp_lay I (by rw [List.length_append]; exact hz) (r1.append r2) (q2 hc.1 hc.2)
  · refine op_catA pins s σ H (.ref a) (.ref b) v u Q I rx ry ⟨a, b, xs, ys, rfl, rfl, ha, hb, hz, q0, q1, fun h1 h2 => absurd ⟨h1, h2⟩ hc⟩
/-! ### t * k -/
def rRepF (K : Fg) : R2 := fun x y H Q => ∃ l k xs, x = .ref l ∧ y = .int k ∧ SqT K H l xs ∧ xs ≠ [] ∧ 2 ≤ k ∧ k ≤ 1000 ∧ xs.length ≤ 1000 ∧ ∀ p o, H p = none → o.dict = none → Q (.ref p) (upd H p (.frz o (.tup (List.replicate k.toNat xs).flatten)))
theorem op_repF : OpR X (binaryOp .Mult) (rRepF X.K) := by
  intro pins s σ H x y v u Q I rx ry ⟨l, k, xs, ex, ey, hT, hne, h1, h2, hz, q⟩
  subst ex ey
  cases rx
  obtain ⟨t, rfl⟩ := ry
  obtain ⟨its, r, ⟨⟨cls, dd, data, sl⟩, ho, hc, n, hd⟩, _⟩ := I.tuple hT
  obtain rfl : cls = .type "tuple" := hc
  obtain rfl : data = .seq its.toArray n := hd
  have hle : its.length = xs.length := r.length.symm
  have hn : ¬ its = [] := fun e => hne (by subst e; exact List.eq_nil_of_length_eq_zero hle.symm)
  have hi : its.toArray.isEmpty = false := by cases its <;> first | rfl | exact absurd rfl hn
  have fl : (List.replicate k.toNat its).flatten.length = k.toNat * xs.length := by rw [PyProof.Rows.lm_len_rep_flat, hle]
  have bd : k.toNat * xs.length ≤ 1000000 := Nat.mul_le_mul (show k.toNat ≤ 1000 by omega) hz
  have hs0 : its.toArray.size = xs.length := List.size_toArray .. ▸ hle
  have hm : (its.toArray.size : Int) * k ≤ 1000000 := by
    rw [hs0]
    exact Int.le_trans (Int.mul_le_mul_of_nonneg_right (show (xs.length : Int) ≤ 1000 by omega) (by omega)) (by omega)
  have c0 : (decide (k < -(2 ^ 63)) || decide (k ≥ 2 ^ 63)) = false := Bool.or_eq_false_iff.mpr ⟨decide_eq_false (by omega), decide_eq_false (by omega)⟩
  have c1 : (its.toArray.isEmpty || k == 1) = false := Bool.or_eq_false_iff.mpr ⟨hi, beq_eq_false_iff_ne.mpr (by omega)⟩
  have c2 : (decide (k ≤ 0) || its.toArray.isEmpty) = false := Bool.or_eq_false_iff.mpr ⟨decide_eq_false (by omega), hi⟩
  have c4 : Builtin.Tuple.tupleTooMany ((its.toArray.size : Int) * k) = false := decide_eq_false (by rw [sizeLine_eq]; omega)
  have hT2 : s.TypeIs (.ref l) "tuple" := ⟨_, ho, rfl⟩
  have fin := tp_lay (X := X) (pins := pins) (σ := σ) (Q := Q) (its := (List.replicate k.toNat its).flatten) I (by rw [PyProof.Rows.lm_len_rep_flat, sizeLine_eq]; omega) (r.rep k.toNat) q
  rw [show tpO (List.replicate k.toNat its).flatten.toArray = tpO (List.foldl (fun x1 x2 => x1 ++ x2) #[] (List.replicate k.toNat its.toArray)) from congrArg tpO (size_rep its _).symm] at fin
  exact wpAny_binaryOp_repeat_ref (T := "tuple") (U := "int") (by decide) hT2 (fun s' => typeIs_int s' k t) noFill_tuple_mul F.fills_int_mul F.slot_int_rmul repeat_tuple F.slot_int_index.lookup
    (call_meets F.slot_int_rmul (typeIs_int s k t) F.entry_int_rmul (F.args_int_rmul_2 _ _) (int_rmul_tuple k t l _ n dd sl) ⟨ho, rfl, hT2,
      call_meets F.slot_tuple_mul hT2 F.entry_tuple_mul (F.args_tuple_mul_2 _ _) (tuple_mulW l _ n dd sl k t c0 c1 c2 (by omega) c4 (by rw [size_rep, List.size_toArray, fl, sizeLine_eq]; omega)) ⟨ho, fin⟩⟩)
end
/-! ### zip: its pairs -/
/-- what a turn of zip gives: a new pair -/
def pairF (T : Addr) (x y : V) (H H' : Hp) : Prop := ∃ o : Obj, o.dict = none ∧ H T = none ∧ H' = upd H T (.frz o (.tup [x, y]))
def ItzLF (K : Fg) (a b : Addr) : It :=
  ⟨fun i H => ∃ (xs ys : List V) (x y : V), SqL K H a xs ∧ SqL K H b ys ∧ xs[i]? = some x ∧ ys[i]? = some y, fun i H v H' => ∃ T x y, v = .ref T ∧ pairF T x y H H' ∧ (∀ xs, SqL K H a xs → xs[i]? = some x) ∧ ∀ ys, SqL K H b ys → ys[i]? = some y, fun i H => ∃ xs ys : List V, SqL K H a xs ∧ SqL K H b ys ∧ (xs.length ≤ i ∨ ys.length ≤ i)⟩
def ItzTF (K : Fg) (a b : Addr) : It :=
  ⟨fun i H => ∃ (xs ys : List V) (x y : V), SqT K H a xs ∧ SqT K H b ys ∧ xs[i]? = some x ∧ ys[i]? = some y, fun i H v H' => ∃ T x y, v = .ref T ∧ pairF T x y H H' ∧ (∀ xs, SqT K H a xs → xs[i]? = some x) ∧ ∀ ys, SqT K H b ys → ys[i]? = some y, fun i H => ∃ xs ys : List V, SqT K H a xs ∧ SqT K H b ys ∧ (xs.length ≤ i ∨ ys.length ≤ i)⟩
theorem fiveF {c z TI TO i1 i2 : Addr} (h : c ∈ [z, TI, TO, i1, i2]) : c = z ∨ c = TI ∨ c = TO ∨ c = i1 ∨ c = i2 := by simpa using h
theorem notF {c z TI TO i1 i2 : Addr} (h : c ∉ [z, TI, TO, i1, i2]) : c ≠ z ∧ c ≠ TI ∧ c ≠ TO ∧ c ≠ i1 ∧ c ≠ i2 := by simpa using h
/-- a pair laid while the five objects of a zip turn -/
theorem pair_lay {X : Cx} {pins : List (Addr × Obj)} {σ : Sg} {H : Hp} {s : Shared} {z TI TO i1 i2 : Addr} {x y : V} {u u2 : Value} {h' : Heap} (I : Inv X pins σ H s) (ru : RelV x u) (ru2 : RelV y u2)
    (e : h'.get? s.heap.objs.size = some { cls := .type "tuple", data := .seq #[u, u2] }) (kp : ∀ c o, c ∉ [z, TI, TO, i1, i2] → s.heap.get? c = some o → h'.get? c = some o) (hf : ∀ c ∈ [z, TI, TO, i1, i2], FpOk X pins H c) :
    Inv X pins σ (upd H s.heap.objs.size (.frz (tpO #[u, u2]) (.tup [x, y]))) { s with heap := h' } :=
  I.turnedNew (t' := s.toks) (ch := [z, TI, TO, i1, i2]) kp hf (Nat.le_refl _) (tp_ok (its := [u, u2]) (show 2 ≤ sizeLine by decide) (.cons ru (.cons ru2 .nil)) e)
theorem turn_zipTF {P : Program} {w : World} {K : Fg} {elts : List Expr} {kk : Nat} {tpos : Pos} {a b z TI TO i1 i2 : Addr} (D : ZipApart z TI TO i1 i2 a b) :
    Turn P w K (.Tuple elts kk tpos) (ItzTF K a b) [z, TI, TO, i1, i2] z (fun i h => IsZip h z TI TO .none ∧ IsPair h TI (.ref i1) (.ref i2) ∧ (∃ x y, IsPair h TO x y) ∧ h.IsTupleIter i1 a i ∧ h.IsTupleIter i2 b i) where
  mem := (RZ.turn_zipT (P := P) (w := w) (K := K) (elts := elts) (kk := kk) (tpos := tpos) D).mem
  obj := (RZ.turn_zipT (P := P) (w := w) (K := K) (elts := elts) (kk := kk) (tpos := tpos) D).obj
  keep := (RZ.turn_zipT (P := P) (w := w) (K := K) (elts := elts) (kk := kk) (tpos := tpos) D).keep
  done := (RZ.turn_zipT (P := P) (w := w) (K := K) (elts := elts) (kk := kk) (tpos := tpos) D).done
  self := (RZ.turn_zipT (P := P) (w := w) (K := K) (elts := elts) (kk := kk) (tpos := tpos) D).self
  item := by
    intro X hP hw hK hc i pins s σ H E I hf ⟨hz, hTI, ⟨x0, y0, hTO⟩, h1, h2⟩ ⟨xs, ys, x, y, hqx, hqy, hx, hy⟩
    subst hP hw hK
    obtain ⟨its, rv, p, _⟩ := I.tuple hqx; obtain ⟨its2, rv2, p2, _⟩ := I.tuple hqy
    obtain ⟨u, hu, ru⟩ := rv.get hx; obtain ⟨u2, hu2, ru2⟩ := rv2.get hy
    have hzl : z < s.heap.objs.size := Heap.lt_size hz
    refine RZ.pyNext_zipT_item D hz hTI hTO h1 h2 p p2 (x := u) (y := u2) (by simpa using hu) (by simpa using hu2) fun h' z' TO' h1' h2' hT hsz hk => ⟨_, rfl, wpAny_letOwnedTupleGo_zip (s := { s with heap := h' }) z' fun h'' z'' sb => ?_⟩
    have I1 := pair_lay (X := X) I ru ru2 ((sb.2 _ (Nat.ne_of_gt hzl)).trans hT) (fun c o n q => by exact (sb.2 c (notF n).1).trans (hk c o (by intro e; exact n (by simp [e])) (by intro e; exact n (by simp [e])) (by intro e; exact n (by simp [e])) (by intro e; exact n (by simp [e])) q)) hf
    refine ⟨.ref s.heap.objs.size, _, I1, rfl, ⟨_, x, y, rfl, ⟨_, rfl, I.hok.fresh (Nat.le_refl _), rfl⟩, fun l hl => by rw [I.tuple_inj hl hqx]; exact hx, fun l hl => by rw [I.tuple_inj hl hqy]; exact hy⟩, ⟨z'', (sb.2 _ D.TIz).trans (hk _ _ D.TIz D.TITO D.TIi1 D.TIi2 hTI), ⟨u, u2, (sb.2 _ D.TOz).trans TO'⟩, h1'.at fun o q => (sb.2 _ D.i1z).trans q, h2'.at fun o q => (sb.2 _ D.i2z).trans q⟩, fun c hcm => ?_⟩
    have hlt : c < s.heap.objs.size := by
      obtain ⟨_, e1, _⟩ := h1; obtain ⟨_, e2, _⟩ := h2
      rcases fiveF hcm with q | q | q | q | q <;> rw [q] <;> first | exact hzl | exact Heap.lt_size hTI | exact Heap.lt_size hTO | exact Heap.lt_size e1 | exact Heap.lt_size e2
    rw [upd_ne (Nat.ne_of_lt hlt)]; exact (hf c hcm).1
theorem turn_zipLF {P : Program} {w : World} {K : Fg} {elts : List Expr} {kk : Nat} {tpos : Pos} {a b z TI TO i1 i2 : Addr} (D : ZipApart z TI TO i1 i2 a b) :
    Turn P w K (.Tuple elts kk tpos) (ItzLF K a b) [z, TI, TO, i1, i2] z (fun i h => IsZip h z TI TO .none ∧ IsPair h TI (.ref i1) (.ref i2) ∧ (∃ x y, IsPair h TO x y) ∧ h.IsListIter i1 a i ∧ h.IsListIter i2 b i) where
  mem := (turn_zip (P := P) (w := w) (K := K) (elts := elts) (kk := kk) (tpos := tpos) D).mem
  obj := (turn_zip (P := P) (w := w) (K := K) (elts := elts) (kk := kk) (tpos := tpos) D).obj
  keep := (turn_zip (P := P) (w := w) (K := K) (elts := elts) (kk := kk) (tpos := tpos) D).keep
  done := (turn_zip (P := P) (w := w) (K := K) (elts := elts) (kk := kk) (tpos := tpos) D).done
  self := (turn_zip (P := P) (w := w) (K := K) (elts := elts) (kk := kk) (tpos := tpos) D).self
  item := by
    intro X hP hw hK hc i pins s σ H E I hf ⟨hz, hTI, ⟨x0, y0, hTO⟩, h1, h2⟩ ⟨xs, ys, x, y, hqx, hqy, hx, hy⟩
    subst hP hw hK
    obtain ⟨its, rv, p, _⟩ := I.list hqx; obtain ⟨its2, rv2, p2, _⟩ := I.list hqy
    obtain ⟨u, hu, ru⟩ := rv.get hx; obtain ⟨u2, hu2, ru2⟩ := rv2.get hy
    have hzl : z < s.heap.objs.size := Heap.lt_size hz
    refine wpAny_pyNext_zip_item D hz hTI hTO h1 h2 p.isList p2.isList (x := u) (y := u2) (by simpa using hu) (by simpa using hu2) fun h' z' TO' h1' h2' hT hsz hk => ⟨_, rfl, wpAny_letOwnedTupleGo_zip (s := { s with heap := h' }) z' fun h'' z'' sb => ?_⟩
    have I1 := pair_lay (X := X) I ru ru2 ((sb.2 _ (Nat.ne_of_gt hzl)).trans hT) (fun c o n q => by exact (sb.2 c (notF n).1).trans (hk c o (by intro e; exact n (by simp [e])) (by intro e; exact n (by simp [e])) (by intro e; exact n (by simp [e])) (by intro e; exact n (by simp [e])) q)) hf
    refine ⟨.ref s.heap.objs.size, _, I1, rfl, ⟨_, x, y, rfl, ⟨_, rfl, I.hok.fresh (Nat.le_refl _), rfl⟩, fun l hl => by rw [I.list_inj hl hqx]; exact hx, fun l hl => by rw [I.list_inj hl hqy]; exact hy⟩, ⟨z'', (sb.2 _ D.TIz).trans (hk _ _ D.TIz D.TITO D.TIi1 D.TIi2 hTI), ⟨u, u2, (sb.2 _ D.TOz).trans TO'⟩, h1'.at fun o q => (sb.2 _ D.i1z).trans q, h2'.at fun o q => (sb.2 _ D.i2z).trans q⟩, fun c hcm => ?_⟩
    have hlt : c < s.heap.objs.size := by
      obtain ⟨_, e1, _⟩ := h1; obtain ⟨_, e2, _⟩ := h2
      rcases fiveF hcm with q | q | q | q | q <;> rw [q] <;> first | exact hzl | exact Heap.lt_size hTI | exact Heap.lt_size hTO | exact Heap.lt_size e1 | exact Heap.lt_size e2
    rw [upd_ne (Nat.ne_of_lt hlt)]; exact (hf c hcm).1
def iZipF (K : Fg) (ta : TA) : TI := fun σ H R => ta σ H fun vs H1 => ∃ a b xs ys, vs = [.ref a, .ref b] ∧ ((SqL K H1 a xs ∧ SqL K H1 b ys ∧ R (ItzLF K a b) H1) ∨ (SqT K H1 a xs ∧ SqT K H1 b ys ∧ R (ItzTF K a b) H1))
theorem pi_zipF {X : Cx} {e e2 : Expr} {ta : TA} {p pos tpos : Pos} {elts : List Expr} {kk : Nat} (hg : Gl X "zip") (hm : X.mg "zip" = none) (ha : PA X [e, e2] ta)
    (hs : starEach [e, e2] X.env = (false, eval e X.env) :: starEach [e2] X.env := by rfl) (hpl : (backTo pos (starEach [e2] X.env)).any (·.1) = false := by rfl) : PI X (.Tuple elts kk tpos) (.Call (.Name "zip" p) [e, e2] [] pos) (iZipF X.K ta) := by
  refine ⟨fun pins s σ H R I h => Call_ (ld_blt I hg hm PyProof.Rows.boot_zip (PyProof.Rows.callWith_type1 (thn (ha.run pos pins s σ H _ I h) fun us s1 ⟨vs, H1, I1, r1, a, b, xs, ys, ex, q1⟩ => ?_) hs hpl))⟩
  subst ex
  cases r1 with
  | cons r rr =>
    cases rr with
    | cons r' rr =>
      cases rr; cases r; cases r'
      have new5 : ∀ c, c ∈ [s1.heap.objs.size + 4, s1.heap.objs.size + 2, s1.heap.objs.size + 3, s1.heap.objs.size, s1.heap.objs.size + 1] → FpOk X pins H1 c := fun c hcm => by
        have hle : s1.heap.objs.size ≤ c := by rcases fiveF hcm with z | z | z | z | z <;> rw [z] <;> first | exact Nat.le_add_right _ _ | exact Nat.le_refl _
        exact I1.fpOk hle (I1.hok.fresh hle)
      rcases q1 with ⟨hqx, hqy, q⟩ | ⟨hqx, hqy, q⟩
      · obtain ⟨its, rv, p1, _⟩ := I1.list hqx; obtain ⟨its2, rv2, p2, _⟩ := I1.list hqy
        exact call_zip_2 p1.isList p2.isList fun h' hz hTI hTO h1 h2 hsz hk => wpAny_pyIter_zip hz ⟨s1.heap.objs.size + 4, _, _, _, H1, rfl, I1.kept (t' := s1.toks) hk, turn_zipLF (PySem.W.ktu_apart s1.heap.objs.size a b p1.lt p2.lt), ⟨hz, hTI, ⟨_, _, hTO⟩, h1, h2⟩, new5, q⟩
      · obtain ⟨its, rv, p1, _⟩ := I1.tuple hqx; obtain ⟨its2, rv2, p2, _⟩ := I1.tuple hqy
        obtain ⟨o1, ho1, _⟩ := id p1; obtain ⟨o2, ho2, _⟩ := id p2
        exact RZ.call_zipT (show s1.heap.IsTuple a its.toArray from p1) (show s1.heap.IsTuple b its2.toArray from p2) fun h' hz hTI hTO h1 h2 hsz hk => wpAny_pyIter_zip hz ⟨s1.heap.objs.size + 4, _, _, _, H1, rfl, I1.kept (t' := s1.toks) hk, turn_zipTF (PySem.W.ktu_apart s1.heap.objs.size a b (Heap.lt_size ho1) (Heap.lt_size ho2)), ⟨hz, hTI, ⟨_, _, hTO⟩, h1, h2⟩, new5, q⟩
end Pv

/-! Pv3: operators, comparisons, tests. -/
namespace Pv
open PySem PySem.Spec PyProof.Rows L2

/-- its items are shared -/
def flat : Res → Prop
  | .v _ _ => True
  | .b _ k _ => k ≤ 1
section
variable {K : Fg} {ω : Om} {H : Hp} {v : V} {r : Res}
theorem Vw.int (h : Vw K ω H v r) {i : Int} (e : r.d = .int i) : v = .int i := by
  have d := h.dp (by rw [e]; rfl)
  rw [e] at d; cases d; rfl
theorem Vw.bl (h : Vw K ω H v r) {i : Bool} (e : r.d = .bool i) : v = .bl i := by
  have d := h.dp (by rw [e]; rfl)
  rw [e] at d; cases d; rfl
theorem Vw.non (h : Vw K ω H v r) (e : r.d = .none) : v = .non := by
  have d := h.dp (by rw [e]; rfl)
  rw [e] at d; cases d; rfl
theorem Rp.str_ {s : Str} (h : Rp K ω H v (.str s)) : v = .str s := by cases h; rfl
theorem Vw.str (h : Vw K ω H v r) {i : Str} (e : r.d = .str i) : v = .str i := by
  cases r with
  | v k d =>
    have e' : d = .str i := e
    have h' : Rp K ω H v d := h
    rw [e'] at h'; exact h'.str_
  | b j k d =>
    have e' : d = .str i := e
    have h' : OwR K ω H k (Ow.own j) [] v d := h
    rw [e'] at h'
    cases k with
    | zero => exact Rp.str_ h'
    | succ k =>
      rcases h' with ⟨_, h'⟩ | ⟨_, _, _, _, e2, _⟩ | ⟨_, _, _, _, e2, _⟩ | ⟨_, _, _, _, _, _, _, e2, _⟩ | ⟨_, _, _, _, e2, _⟩
      · exact h'.str_
      · cases e2
      · cases e2
      · cases e2
      · first | (cases e2; done) | exact (dct_not_otp e2).elim | exact (dct_not_otp e2.symm).elim | exact (ins_not_otp e2.symm).elim | exact (ins_not_otp e2).elim | exact (exc_not_otp e2).elim | (subst e2; cases f; done)
theorem Vw.lst (h : Vw K ω H v r) (s : flat r) {ds : List D} (e : r.d = .list ds) : ∃ a vs, v = .ref a ∧ H a = some (.lst vs) ∧ RpAll K ω H vs ds := by
  cases r with
  | v k d =>
    have e' : d = .list ds := e
    have h' : Rp K ω H v d := h
    rw [e'] at h'
    cases h' with
    | lst hs ha => exact ⟨_, _, rfl, hs.1, ha⟩
  | b j k d =>
    have e' : d = .list ds := e
    have h' : OwR K ω H k (Ow.own j) [] v d := h
    rw [e'] at h'
    cases k with
    | zero =>
      have h2 : Rp K ω H v (.list ds) := h'
      cases h2 with
      | lst hs ha => exact ⟨_, _, rfl, hs.1, ha⟩
    | succ k =>
      have s' : k + 1 ≤ 1 := s
      have k0 : k = 0 := by omega
      subst k0
      rcases h' with ⟨z, _⟩ | ⟨a, vs, ds', e1, e2, h1, _, el, hc⟩ | ⟨_, _, _, _, e2, _⟩ | ⟨_, _, _, _, _, _, _, e2, _⟩ | ⟨_, _, _, _, e2, _⟩
      · cases z
      · cases e2
        exact ⟨a, vs, e1, h1, RpAll.of_get el hc⟩
      · cases e2
      · cases e2
      · first | (cases e2; done) | exact (dct_not_otp e2).elim | exact (dct_not_otp e2.symm).elim | exact (ins_not_otp e2.symm).elim | exact (ins_not_otp e2).elim | exact (exc_not_otp e2).elim | (subst e2; cases f; done)
theorem Rp.tup_ {ds : List D} (h : Rp K ω H v (.tuple ds)) : ∃ a vs, v = .ref a ∧ SqT K H a vs ∧ RpAll K ω H vs ds := by
  cases h with
  | tup hs ha => exact ⟨_, _, rfl, hs.seq, ha⟩
theorem Vw.tup (h : Vw K ω H v r) {ds : List D} (e : r.d = .tuple ds) : ∃ a vs, v = .ref a ∧ SqT K H a vs ∧ RpAll K ω H vs ds := by
  cases r with
  | v k d =>
    have e' : d = .tuple ds := e
    have h' : Rp K ω H v d := h
    rw [e'] at h'; exact h'.tup_
  | b j k d =>
    have e' : d = .tuple ds := e
    have h' : OwR K ω H k (Ow.own j) [] v d := h
    rw [e'] at h'
    cases k with
    | zero => exact Rp.tup_ h'
    | succ k =>
      rcases h' with ⟨_, h'⟩ | ⟨_, _, _, _, e2, _⟩ | ⟨_, _, _, _, e2, _⟩ | ⟨_, _, _, _, _, _, _, e2, _⟩ | ⟨_, _, _, _, e2, _⟩
      · exact h'.tup_
      · cases e2
      · cases e2
      · cases e2
      · first | (cases e2; done) | exact (dct_not_otp e2).elim | exact (dct_not_otp e2.symm).elim | exact (ins_not_otp e2.symm).elim | exact (ins_not_otp e2).elim | exact (exc_not_otp e2).elim | (subst e2; cases f; done)
theorem Vw.rpT (h : Vw K ω H v r) {ds : List D} (e : r.d = .tuple ds) : Rp K ω H v (.tuple ds) := by
  cases r with
  | v k d =>
    have e' : d = .tuple ds := e
    have h' : Rp K ω H v d := h
    rw [e'] at h'; exact h'
  | b j k d =>
    have e' : d = .tuple ds := e
    have h' : OwR K ω H k (Ow.own j) [] v d := h
    rw [e'] at h'
    cases k with
    | zero => exact h'
    | succ k =>
      rcases h' with ⟨_, h'⟩ | ⟨_, _, _, _, e2, _⟩ | ⟨_, _, _, _, e2, _⟩ | ⟨_, _, _, _, _, _, _, e2, _⟩ | ⟨_, _, _, _, e2, _⟩
      · exact h'
      · cases e2
      · cases e2
      · cases e2
      · first | (cases e2; done) | exact (dct_not_otp e2).elim | exact (dct_not_otp e2.symm).elim | exact (ins_not_otp e2.symm).elim | exact (ins_not_otp e2).elim | exact (exc_not_otp e2).elim | (subst e2; cases f; done)
end

/-! ### arithmetic -/
def dAdd (f1 f2 : Prop) (R : KC) : D → D → Prop
  | .int i, .int j => R 0 (.int (i + j))
  | .str x, .str y => x.length + y.length ≤ sizeLine ∧ R 0 (.str (x ++ y))
  | .list xs, .list ys => (f1 ∧ f2 ∧ xs.length + ys.length ≤ sizeLine) ∧ R 1 (.list (xs ++ ys))
  | .tuple xs, .tuple ys => xs.length + ys.length ≤ sizeLine ∧ R 0 (.tuple (xs ++ ys))
  | _, _ => False
def oAdd : O2 := fun r1 r2 R => dAdd (flat r1) (flat r2) R r1.d r2.d
/-- two ints, under C -/
def dInt (C : Int → Int → Prop) (g : Int → Int → D) (R : KC) : D → D → Prop
  | .int i, .int j => C i j ∧ R 0 (g i j)
  | _, _ => False
def dInt0 (g : Int → Int → D) (R : KC) : D → D → Prop
  | .int i, .int j => R 0 (g i j)
  | _, _ => False
def oSub : O2 := fun r1 r2 R => dInt0 (fun i j => .int (i - j)) R r1.d r2.d
/-- a factor below 2 ^ 64 -/
def oMul : O2 := fun r1 r2 R => dInt CMul (fun i j => .int (i * j)) R r1.d r2.d
def oMulW : O2 := fun r1 r2 R => dInt CMulW (fun i j => .int (i * j)) R r1.d r2.d
def oDiv : O2 := fun r1 r2 R => dInt CDivW (fun i j => .int (i / j)) R r1.d r2.d
def oMod : O2 := fun r1 r2 R => dInt (fun _ j => 0 < j) (fun i j => .int (i % j)) R r1.d r2.d
def oPow : O2 := fun r1 r2 R => dInt CPow (fun i j => .int (i ^ j.toNat)) R r1.d r2.d
def oLt : O2 := fun r1 r2 R => dInt0 (fun i j => .bool (decide (i < j))) R r1.d r2.d
def oLe : O2 := fun r1 r2 R => dInt0 (fun i j => .bool (decide (i ≤ j))) R r1.d r2.d
def oGt : O2 := fun r1 r2 R => dInt0 (fun i j => .bool (decide (j < i))) R r1.d r2.d
def oGe : O2 := fun r1 r2 R => dInt0 (fun i j => .bool (decide (j ≤ i))) R r1.d r2.d
section
variable {K : Fg} {X : Cx}
theorem dInt0_ex {g : Int → Int → D} {R : KC} {d e : D} (h : dInt0 g R d e) : ∃ i j, d = .int i ∧ e = .int j ∧ R 0 (g i j) := by
  cases d <;> cases e <;> first
    | exact h.elim
    | exact ⟨_, _, rfl, rfl, h⟩
theorem dInt_ex {C : Int → Int → Prop} {g : Int → Int → D} {R : KC} {d e : D} (h : dInt C g R d e) : ∃ i j, d = .int i ∧ e = .int j ∧ C i j ∧ R 0 (g i j) := by
  cases d <;> cases e <;> first
    | exact h.elim
    | exact ⟨_, _, rfl, rfl, h⟩
theorem so_int {C : Int → Int → Prop} {g : Int → Int → Int} : SndO2 K (rI C fun i j => .int (g i j)) (fun r1 r2 R => dInt C (fun i j => .int (g i j)) R r1.d r2.d) := by
  intro ω T H x y r1 r2 R Q fr v1 v2 h q
  obtain ⟨i, j, e1, e2, c, hR⟩ := dInt_ex h
  exact ⟨i, j, v1.int e1, v2.int e2, c, q.int fr hR⟩
theorem so_int0 {g : Int → Int → Int} : SndO2 K (rI0 fun i j => .int (g i j)) (fun r1 r2 R => dInt0 (fun i j => .int (g i j)) R r1.d r2.d) := by
  intro ω T H x y r1 r2 R Q fr v1 v2 h q
  obtain ⟨i, j, e1, e2, hR⟩ := dInt0_ex h
  exact ⟨i, j, v1.int e1, v2.int e2, q.int fr hR⟩
theorem so_bl0 {g : Int → Int → Bool} : SndO2 K (rI0 fun i j => .bl (g i j)) (fun r1 r2 R => dInt0 (fun i j => .bool (g i j)) R r1.d r2.d) := by
  intro ω T H x y r1 r2 R Q fr v1 v2 h q
  obtain ⟨i, j, e1, e2, hR⟩ := dInt0_ex h
  exact ⟨i, j, v1.int e1, v2.int e2, q.bl fr hR⟩
theorem so_add : SndO2 X.K (fun x y H Q => ((rI0 fun i j => V.int (i + j)) x y H Q ∨ (∃ i j, x = .str i ∧ y = .str j ∧ i.length + j.length ≤ sizeLine ∧ Q (.str (i ++ j)) H)) ∨ (rCat x y H Q ∨ rCatF X.K x y H Q)) oAdd := by
  intro ω T H x y r1 r2 R Q fr v1 v2 h q
  have h' : dAdd (flat r1) (flat r2) R r1.d r2.d := h
  generalize e1 : r1.d = d1 at h'
  generalize e2 : r2.d = d2 at h'
  cases d1 <;> cases d2 <;> first
    | exact h'.elim
    | skip
  · exact .inl (.inl ⟨_, _, v1.int e1, v2.int e2, q.int fr h'⟩)
  · exact .inl (.inr ⟨_, _, v1.str e1, v2.str e2, h'.1, q.str fr h'.2⟩)
  · obtain ⟨⟨f1, f2, hl⟩, hR⟩ := h'
    obtain ⟨a, vs, rfl, ha, pa⟩ := v1.lst f1 e1
    obtain ⟨b, ws, rfl, hb, pb⟩ := v2.lst f2 e2
    refine .inr (.inl ⟨a, b, vs, ws, rfl, rfl, ha, hb, by rw [pa.length, pb.length]; exact hl, fun p hp => q.lst fr hp (pa.append pb) hR⟩)
  · obtain ⟨hl, hR⟩ := h'
    have w1 := v1.rpT e1
    have w2 := v2.rpT e2
    obtain ⟨a, vs, rfl, ha, pa⟩ := v1.tup e1
    obtain ⟨b, ws, rfl, hb, pb⟩ := v2.tup e2
    refine .inr (.inr ⟨a, b, vs, ws, rfl, rfl, ha, hb, by rw [pa.length, pb.length]; exact hl, fun z => ?_, fun z1 z2 => ?_, fun z1 z2 p o hp ho => q.tup fr hp ho (pa.append pb) hR⟩)
    · subst z
      cases pa
      exact q.same fr w2 hR
    · subst z2
      cases pb
      rw [List.append_nil] at hR
      exact q.same fr w1 hR
theorem op_add_all : OpR X (binaryOp .Add) (fun x y H Q => ((rI0 fun i j => V.int (i + j)) x y H Q ∨ (∃ i j, x = .str i ∧ y = .str j ∧ i.length + j.length ≤ sizeLine ∧ Q (.str (i ++ j)) H)) ∨ (rCat x y H Q ∨ rCatF X.K x y H Q)) :=
  OpR.or (OpR.or op_add op_add_str) (OpR.or op_cat op_catF)
variable {a b : Expr} {fa fb : FE} {pos : Pos}
theorem se_op {op : Operator} {r : R2} {o : O2} (ho : OpR X (binaryOp op) r) (so : SndO2 X.K r o) (ha : SE X a fa) (hb : SE X b fb) : SE X (.BinOp a op b pos) (fOp2 o fa fb) := by
  obtain ⟨t, p, s⟩ := ha.ex
  obtain ⟨u, p', s'⟩ := hb.ex
  exact ⟨_, pe_op ho p p', snd_op2 so s s'⟩
theorem se_add (ha : SE X a fa) (hb : SE X b fb) : SE X (.BinOp a .Add b pos) (fOp2 oAdd fa fb) := se_op op_add_all so_add ha hb
theorem se_sub (ha : SE X a fa) (hb : SE X b fb) : SE X (.BinOp a .Sub b pos) (fOp2 oSub fa fb) := se_op op_sub so_int0 ha hb
theorem se_div (ha : SE X a fa) (hb : SE X b fb) : SE X (.BinOp a .FloorDiv b pos) (fOp2 oDiv fa fb) := se_op op_fdivW so_int ha hb
theorem se_mod (ha : SE X a fa) (hb : SE X b fb) : SE X (.BinOp a .Mod b pos) (fOp2 oMod fa fb) := se_op op_mod so_int ha hb
theorem se_pow (ha : SE X a fa) (hb : SE X b fb) : SE X (.BinOp a .Pow b pos) (fOp2 oPow fa fb) := se_op op_pow so_int ha hb
/-- -x of an int -/
def dNeg (R : KC) : D → Prop
  | .int i => R 0 (.int (-i))
  | _ => False
def oNeg : O1 := fun r R => dNeg R r.d
theorem se_neg (ha : SE X a fa) : SE X (.UnaryOp .USub a pos) (fOp1 oNeg fa) := by
  obtain ⟨t, p, s⟩ := ha.ex
  refine ⟨_, pe_un un_neg p, snd_op1 (fun ω T H x r1 R Q fr v1 h q => ?_) s⟩
  have h' : dNeg R r1.d := h
  generalize e1 : r1.d = d1 at h'
  cases d1 <;> first
    | exact h'.elim
    | exact ⟨_, v1.int e1, q.int fr h'⟩
end

/-! ### comparisons -/
/-- data that == looks through -/
abbrev shp (d : D) : Prop := SeqAt.shaped d = true
def dEq (p : Bool → Bool) (R : KC) : D → D → Prop
  | .int i, .int j => R 0 (.bool (p (decide (i = j))))
  | .str i, .str j => R 0 (.bool (p (decide (i = j))))
  | .bool i, .bool j => R 0 (.bool (p (decide (i = j))))
  | d, e => shp d ∧ shp e ∧ R 0 (.bool (p (PyData.eqv d e)))
def oEq : O2 := fun r1 r2 R => dEq (fun b => b) R r1.d r2.d
def oNe : O2 := fun r1 r2 R => dEq (fun b => !b) R r1.d r2.d
/-- is None, is not None -/
def isNone : D → Bool
  | .none => true
  | _ => false
def oIsN : O2 := fun r1 r2 R => r2.d = .none ∧ R 0 (.bool (isNone r1.d))
def oNotN : O2 := fun r1 r2 R => r2.d = .none ∧ R 0 (.bool (!isNone r1.d))
section
variable {X : Cx} {a b c : Expr} {fa fb fc : FE} {pos : Pos}
theorem hu64 {A : Around} {k : Nat} (hr : Room k A) : A.units + 64 < cLine := by have := hr.un; omega
theorem so_eq : SndO2 X.K (fun x y H Q => rEq x y H Q ∨ rEqD X.K x y H Q) oEq := by
  intro ω T H x y r1 r2 R Q fr v1 v2 h q
  have h' : dEq (fun b => b) R r1.d r2.d := h
  have gen : shp r1.d ∧ shp r2.d ∧ R 0 (.bool (PyData.eqv r1.d r2.d)) → rEq x y H Q ∨ rEqD X.K x y H Q := fun ⟨s1, s2, hR⟩ =>
    .inr ⟨r1.d, r2.d, v1.dp (SeqAt.canLay_of_shaped s1), v2.dp (SeqAt.canLay_of_shaped s2), s1, s2, q.bl fr hR⟩
  generalize e1 : r1.d = d1 at h' gen
  generalize e2 : r2.d = d2 at h' gen
  cases d1 <;> cases d2 <;> first
    | exact gen h'
    | (refine .inl ⟨?_, ?_⟩
       · first
           | (rw [v1.int e1, v2.int e2]; rfl)
           | (rw [v1.str e1, v2.str e2]; rfl)
           | (rw [v1.bl e1, v2.bl e2]; rfl)
       · first
           | (rw [v1.int e1, v2.int e2]; have := q.bl fr h'; simpa using this)
           | (rw [v1.str e1, v2.str e2]; have := q.bl fr h'; simpa using this)
           | (rw [v1.bl e1, v2.bl e2]; have := q.bl fr h'; simpa using this))
theorem so_ne : SndO2 X.K (fun x y H Q => rNe x y H Q ∨ rNeD X.K x y H Q) oNe := by
  intro ω T H x y r1 r2 R Q fr v1 v2 h q
  have h' : dEq (fun b => !b) R r1.d r2.d := h
  have gen : shp r1.d ∧ shp r2.d ∧ R 0 (.bool (!PyData.eqv r1.d r2.d)) → rNe x y H Q ∨ rNeD X.K x y H Q := fun ⟨s1, s2, hR⟩ =>
    .inr ⟨r1.d, r2.d, v1.dp (SeqAt.canLay_of_shaped s1), v2.dp (SeqAt.canLay_of_shaped s2), s1, s2, q.bl fr hR⟩
  generalize e1 : r1.d = d1 at h' gen
  generalize e2 : r2.d = d2 at h' gen
  cases d1 <;> cases d2 <;> first
    | exact gen h'
    | (refine .inl ⟨?_, ?_⟩
       · first
           | (rw [v1.int e1, v2.int e2]; rfl)
           | (rw [v1.str e1, v2.str e2]; rfl)
           | (rw [v1.bl e1, v2.bl e2]; rfl)
       · first
           | (rw [v1.int e1, v2.int e2]; have := q.bl fr h'; simpa using this)
           | (rw [v1.str e1, v2.str e2]; have := q.bl fr h'; simpa using this)
           | (rw [v1.bl e1, v2.bl e2]; have := q.bl fr h'; simpa using this))
theorem Vw.isN {K : Fg} {ω : Om} {H : Hp} {v : V} {r : Res} (h : Vw K ω H v r) : decide (v = .non) = isNone r.d := by
  have rp : ∀ d : D, Rp K ω H v d → decide (v = .non) = isNone d := fun d h => by cases h <;> simp [isNone, Pv.scrD, Pv.dcD, Pv.dctD, Pv.insD, Pv.excD, Pv.otpD]
  cases r with
  | v k d => exact rp d h
  | b j k d =>
    have h' : OwR K ω H k (Ow.own j) [] v d := h
    cases k with
    | zero => exact rp d h'
    | succ k =>
      rcases h' with ⟨_, h'⟩ | ⟨_, _, _, e1, e2, _⟩ | ⟨_, _, _, e1, e2, _⟩ | ⟨_, _, _, _, _, _, e1, e2, _⟩ | ⟨_, _, _, e1, e2, _⟩
      · exact rp d h'
      · subst e1 e2; simp [isNone]
      · subst e1 e2; simp [isNone, dcD, dctD]
      · subst e1 e2; simp [isNone, insD]
      · subst e1 e2; simp [isNone, otpD]
theorem so_isN {K : Fg} : SndO2 K (fun x y H Q => y = .non ∧ Q (.bl (decide (x = .non))) H) oIsN := by
  intro ω T H x y r1 r2 R Q fr v1 v2 h q
  exact ⟨v2.non h.1, q.bl fr (by rw [v1.isN]; exact h.2)⟩
theorem se_cmp {op : CmpOp} {r : R2} {o : O2} (ho : OpR X (compareOp op) r) (so : SndO2 X.K r o) (ha : SE X a fa) (hb : SE X b fb) (hm : behindInMarks op b = false := by first | exact nobehind _ (by decide) (by decide) | rfl) : SE X (.Compare a [op] [b] pos) (fOp2 o fa fb) := by
  obtain ⟨t, p, s⟩ := ha.ex
  obtain ⟨u, p', s'⟩ := hb.ex
  exact ⟨_, pe_cmpR ho p p' hm, snd_op2 so s s'⟩
theorem se_lt (ha : SE X a fa) (hb : SE X b fb) : SE X (.Compare a [.Lt] [b] pos) (fOp2 oLt fa fb) := se_cmp op_lt so_bl0 ha hb
theorem se_gt (ha : SE X a fa) (hb : SE X b fb) : SE X (.Compare a [.Gt] [b] pos) (fOp2 oGt fa fb) := se_cmp op_gt so_bl0 ha hb
theorem se_ge (ha : SE X a fa) (hb : SE X b fb) : SE X (.Compare a [.GtE] [b] pos) (fOp2 oGe fa fb) := se_cmp op_ge so_bl0 ha hb
theorem se_eq {k : Nat} (hr : Room k X.A) (ha : SE X a fa) (hb : SE X b fb) : SE X (.Compare a [.Eq] [b] pos) (fOp2 oEq fa fb) := se_cmp (OpR.or op_eq (op_eqD (hu64 hr))) so_eq ha hb
theorem se_isN (ha : SE X a fa) (hb : SE X b fb) : SE X (.Compare a [.Is] [b] pos) (fOp2 oIsN fa fb) := se_cmp op_isN so_isN ha hb
end

/-! ### tests -/
def dB (R : Bool → Prop) : D → Prop
  | .bool b => R b
  | _ => False
def fTst (fa : FE) : FT := fun env R => fa env fun r e => dB (fun b => R b e) r.d
def fAnd (f g : FT) : FT := fun env R => f env fun b e => match b with
  | true => g e R
  | false => R false e
def fOr (f g : FT) : FT := fun env R => f env fun b e => match b with
  | true => R true e
  | false => g e R
def fNot (f : FT) : FT := fun env R => f env fun b e => R (!b) e
/-- and, or, not as values (of truths) -/
def fAndV (f g : FE) : FE := fun env R => f env fun r e => dB (fun b => match b with
  | true => g e R
  | false => R (.v 0 (.bool false)) e) r.d
def fOrV (f g : FE) : FE := fun env R => f env fun r e => dB (fun b => match b with
  | true => R (.v 0 (.bool true)) e
  | false => g e R) r.d
def fNotV (f : FE) : FE := fun env R => f env fun r e => dB (fun b => R (.v 0 (.bool (!b))) e) r.d
def fIf (c : FT) (f g : FE) : FE := fun env R => c env fun b e => match b with
  | true => f e R
  | false => g e R
section
variable {K : Fg}
theorem dB_ex {R : Bool → Prop} {d : D} (h : dB R d) : ∃ b, d = .bool b ∧ R b := by
  cases d <;> first
    | exact h.elim
    | exact ⟨_, rfl, h⟩
theorem ResR.bl {ω : Om} {H : Hp} {σ : Sg} {env : Env} {T : Nat} {v : V} {r : Res} {b : Bool} (R : Rel K ω env σ H) (h : ResR K ω H σ env T v r) (e : r.d = .bool b) : v = .bl b := Vw.bl (h.gc R (Nat.le_refl _)) e
theorem snd_tst {t : TE} {f : FE} (h : SndE K t f) : SndT K (fun σ H Q => t σ H fun x H' => ∃ k, x = .bl k ∧ Q k H') (fTst f) := by
  intro ω T env σ H R Q rel fr hR q
  refine h ω T env σ H _ _ rel fr hR fun v H1 ω1 e1 r rel1 st1 fr1 rr1 h1 => ?_
  obtain ⟨b, e, hb⟩ := dB_ex h1
  exact ⟨b, rr1.bl rel1 e, q b H1 (gc T ω1) e1 (rel1.gc T) (st1.gc fr) gc_free hb⟩
theorem snd_and {t u : TT} {f g : FT} (h : SndT K t f) (h' : SndT K u g) : SndT K (tAnd t u) (fAnd f g) := by
  intro ω T env σ H R Q rel fr hR q
  refine h ω T env σ H _ _ rel fr hR fun b H1 ω1 e1 rel1 st1 fr1 h1 => ?_
  cases b with
  | true => exact h' ω1 T e1 σ H1 R Q rel1 fr1 h1 fun b H2 ω2 e2 rel2 st2 fr2 h2 => q b H2 ω2 e2 rel2 (st1.trans st2) fr2 h2
  | false => exact q false H1 ω1 e1 rel1 st1 fr1 h1
theorem snd_or {t u : TT} {f g : FT} (h : SndT K t f) (h' : SndT K u g) : SndT K (tOr t u) (fOr f g) := by
  intro ω T env σ H R Q rel fr hR q
  refine h ω T env σ H _ _ rel fr hR fun b H1 ω1 e1 rel1 st1 fr1 h1 => ?_
  cases b with
  | true => exact q true H1 ω1 e1 rel1 st1 fr1 h1
  | false => exact h' ω1 T e1 σ H1 R Q rel1 fr1 h1 fun b H2 ω2 e2 rel2 st2 fr2 h2 => q b H2 ω2 e2 rel2 (st1.trans st2) fr2 h2
theorem snd_not {t : TT} {f : FT} (h : SndT K t f) : SndT K (tNot t) (fNot f) := by
  intro ω T env σ H R Q rel fr hR q
  exact h ω T env σ H _ _ rel fr hR fun b H1 ω1 e1 rel1 st1 fr1 h1 => q (!b) H1 ω1 e1 rel1 st1 fr1 h1
theorem snd_andV {t u : TE} {f g : FE} (h : SndE K t f) (h' : SndE K u g) : SndE K (tAndV t u) (fAndV f g) := by
  intro ω T env σ H R Q rel fr hR q
  refine h ω T env σ H _ _ rel fr hR fun v H1 ω1 e1 r rel1 st1 fr1 rr1 h1 => ?_
  obtain ⟨b, e, hb⟩ := dB_ex h1
  refine ⟨b, rr1.bl rel1 e, ?_⟩
  cases b with
  | true => exact h' (gc T ω1) T e1 σ H1 R Q (rel1.gc T) gc_free hb fun v H2 ω2 e2 r rel2 st2 fr2 rr2 h2 => q v H2 ω2 e2 r rel2 ((st1.gc fr).trans st2) fr2 rr2 h2
  | false => exact q (.bl false) H1 ω1 e1 (.v 0 (.bool false)) rel1 st1 fr1 (Rp.bl false) hb
theorem snd_notV {t : TE} {f : FE} (h : SndE K t f) : SndE K (tNotV t) (fNotV f) := by
  intro ω T env σ H R Q rel fr hR q
  refine h ω T env σ H _ _ rel fr hR fun v H1 ω1 e1 r rel1 st1 fr1 rr1 h1 => ?_
  obtain ⟨b, e, hb⟩ := dB_ex h1
  exact ⟨b, rr1.bl rel1 e, q (.bl (!b)) H1 ω1 e1 (.v 0 (.bool (!b))) rel1 st1 fr1 (Rp.bl _) hb⟩
theorem snd_if {c : TT} {t u : TE} {fc : FT} {f g : FE} (hc : SndT K c fc) (h : SndE K t f) (h' : SndE K u g) : SndE K (tIf c t u) (fIf fc f g) := by
  intro ω T env σ H R Q rel fr hR q
  refine hc ω T env σ H _ _ rel fr hR fun b H1 ω1 e1 rel1 st1 fr1 h1 => ?_
  cases b with
  | true => exact h ω1 T e1 σ H1 R Q rel1 fr1 h1 fun v H2 ω2 e2 r rel2 st2 fr2 rr2 h2 => q v H2 ω2 e2 r rel2 (st1.trans st2) fr2 rr2 h2
  | false => exact h' ω1 T e1 σ H1 R Q rel1 fr1 h1 fun v H2 ω2 e2 r rel2 st2 fr2 rr2 h2 => q v H2 ω2 e2 r rel2 (st1.trans st2) fr2 rr2 h2
end
section
variable {X : Cx} {a b e : Expr} {rest : List Expr} {fa fb : FE} {ga gb : FT} {pos : Pos}
/-- an expression whose value is a truth, as a test -/
theorem st_val (h : SE X e fa) (he : ∀ whole, isTrue e X.env whole = (do let v ← whole; standAt e.pos; holding [v] (truthy v)) := by intro _; rfl) : STs X e (fTst fa) := by
  obtain ⟨t, p, s⟩ := h.ex
  exact ⟨_, pt_val p he, snd_tst s⟩
theorem st_cmp {op : CmpOp} {r : R2} {o : O2} (ho : OpR X (compareOp op) r) (so : SndO2 X.K r o) (ha : SE X a fa) (hb : SE X b fb) (hm : behindInMarks op b = false := by first | exact nobehind _ (by decide) (by decide) | rfl) : STs X (.Compare a [op] [b] pos) (fTst (fOp2 o fa fb)) := by
  obtain ⟨t, p, s⟩ := ha.ex
  obtain ⟨u, p', s'⟩ := hb.ex
  exact ⟨_, pt_cmpR ho p p' hm, snd_tst (snd_op2 so s s')⟩
theorem st_lt (ha : SE X a fa) (hb : SE X b fb) : STs X (.Compare a [.Lt] [b] pos) (fTst (fOp2 oLt fa fb)) := st_cmp op_lt so_bl0 ha hb
theorem st_gt (ha : SE X a fa) (hb : SE X b fb) : STs X (.Compare a [.Gt] [b] pos) (fTst (fOp2 oGt fa fb)) := st_cmp op_gt so_bl0 ha hb
theorem st_eq {k : Nat} (hr : Room k X.A) (ha : SE X a fa) (hb : SE X b fb) : STs X (.Compare a [.Eq] [b] pos) (fTst (fOp2 oEq fa fb)) := st_cmp (OpR.or op_eq (op_eqD (hu64 hr))) so_eq ha hb
theorem st_ne {k : Nat} (hr : Room k X.A) (ha : SE X a fa) (hb : SE X b fb) : STs X (.Compare a [.NotEq] [b] pos) (fTst (fOp2 oNe fa fb)) := st_cmp (OpR.or op_ne (op_neD (hu64 hr))) so_ne ha hb
theorem st_isN (ha : SE X a fa) (hb : SE X b fb) : STs X (.Compare a [.Is] [b] pos) (fTst (fOp2 oIsN fa fb)) := st_cmp op_isN so_isN ha hb
theorem st_of (h : STw X e ga) : STs X e ga := by
  obtain ⟨t, p, s⟩ := h.ex
  exact ⟨t, p.pt, s⟩
theorem st_and1 (ha : STs X a ga) : STw X (.BoolOp .And [a] pos) ga := by
  obtain ⟨t, p, s⟩ := ha.ex
  exact ⟨_, pw_and1 p, s⟩
theorem st_or1 (ha : STs X a ga) : STw X (.BoolOp .Or [a] pos) ga := by
  obtain ⟨t, p, s⟩ := ha.ex
  exact ⟨_, pw_or1 p, s⟩
theorem st_and (ha : STs X a ga) (hb : STw X (.BoolOp .And (b :: rest) pos) gb) : STw X (.BoolOp .And (a :: b :: rest) pos) (fAnd ga gb) := by
  obtain ⟨t, p, s⟩ := ha.ex
  obtain ⟨u, p', s'⟩ := hb.ex
  exact ⟨_, pw_and p p', snd_and s s'⟩
theorem st_or (ha : STs X a ga) (hb : STw X (.BoolOp .Or (b :: rest) pos) gb) : STw X (.BoolOp .Or (a :: b :: rest) pos) (fOr ga gb) := by
  obtain ⟨t, p, s⟩ := ha.ex
  obtain ⟨u, p', s'⟩ := hb.ex
  exact ⟨_, pw_or p p', snd_or s s'⟩
theorem st_not (ha : STs X a ga) : STs X (.UnaryOp .Not a pos) (fNot ga) := by
  obtain ⟨t, p, s⟩ := ha.ex
  exact ⟨_, pt_not p, snd_not s⟩
theorem se_one {op} (ha : SE X a fa) : SE X (.BoolOp op [a] pos) fa := by
  obtain ⟨t, p, s⟩ := ha.ex
  exact ⟨_, pe_one p, s⟩
theorem se_and (ha : SE X a fa) (hb : SE X (.BoolOp .And (b :: rest) pos) fb) : SE X (.BoolOp .And (a :: b :: rest) pos) (fAndV fa fb) := by
  obtain ⟨t, p, s⟩ := ha.ex
  obtain ⟨u, p', s'⟩ := hb.ex
  exact ⟨_, pe_and p p', snd_andV s s'⟩
theorem se_not (ha : SE X a fa) : SE X (.UnaryOp .Not a pos) (fNotV fa) := by
  obtain ⟨t, p, s⟩ := ha.ex
  exact ⟨_, pe_not p, snd_notV s⟩
theorem se_if {c : Expr} {gc : FT} (hc : STs X c gc) (ha : SE X a fa) (hb : SE X b fb) : SE X (.IfExp c a b pos) (fIf gc fa fb) := by
  obtain ⟨r, p0, s0⟩ := hc.ex
  obtain ⟨t, p, s⟩ := ha.ex
  obtain ⟨u, p', s'⟩ := hb.ex
  exact ⟨_, pe_ifExp p0 p p', snd_if s0 s s'⟩
end
end Pv

/-! Pv4: displays, subscripts, slices, built-in calls. -/
namespace Pv
open PySem PySem.Spec PyProof.Rows L2

/-! ### [..], (..) -/
def dsOf (rs : List Res) : List D := rs.map Res.d
def noB : List Res → Prop
  | [] => True
  | .v _ _ :: rs => noB rs
  | .b _ _ _ :: _ => False
def oLst : ON := fun rs R => (noB rs ∧ rs.length ≤ sizeLine) ∧ R 1 (.list (dsOf rs))
def oTup : ON := fun rs R => (noB rs ∧ rs.length ≤ sizeLine) ∧ R 0 (.tuple (dsOf rs))
section
variable {K : Fg} {X : Cx} {ω : Om} {H : Hp}
theorem VwAll.rp : ∀ {vs : List V} {rs : List Res}, VwAll K ω H vs rs → noB rs → RpAll K ω H vs (dsOf rs)
  | [], [], _, _ => .nil
  | [], _ :: _, h, _ => h.elim
  | _ :: _, [], h, _ => h.elim
  | _ :: _, .v k d :: _, h, n => .cons h.1 (VwAll.rp h.2 n)
  | _ :: _, .b _ _ _ :: _, _, n => n.elim
theorem VwAll.length : ∀ {vs : List V} {rs : List Res}, VwAll K ω H vs rs → vs.length = rs.length
  | [], [], _ => rfl
  | [], _ :: _, h => h.elim
  | _ :: _, [], h => h.elim
  | _ :: vs, _ :: rs, h => by rw [List.length_cons, List.length_cons, VwAll.length h.2]
theorem so_lst : SndON K (fun xs H Q => xs.length ≤ sizeLine ∧ ∀ p, H p = none → Q (.ref p) (upd H p (.lst xs))) oLst := by
  intro ω T H xs rs R Q fr va h q
  exact ⟨by rw [va.length]; exact h.1.2, fun p hp => q.lst fr hp (va.rp h.1.1) h.2⟩
theorem so_tup : SndON K (fun xs H Q => xs.length ≤ sizeLine ∧ ∀ p o, H p = none → o.dict = none → Q (.ref p) (upd H p (.frz o (.tup xs)))) oTup := by
  intro ω T H xs rs R Q fr va h q
  exact ⟨by rw [va.length]; exact h.1.2, fun p o hp ho => q.tup fr hp ho (va.rp h.1.1) h.2⟩
variable {es : List Expr} {fa : FA} {pos : Pos}
theorem se_lst (ha : SA X es fa) : SE X (.List es pos) (fOpN oLst fa) := by
  obtain ⟨t, p, s⟩ := ha.ex
  exact ⟨_, pe_lst p, snd_opN so_lst s⟩
theorem se_tup {k} (ha : SA X es fa) : SE X (.Tuple es k pos) (fOpN oTup fa) := by
  obtain ⟨t, p, s⟩ := ha.ex
  exact ⟨_, pe_tupF p, snd_opN so_tup s⟩
end

/-! ### built-in functions by name -/
def at1 (o : O1) : ON := fun rs R => match rs with
  | [r] => o r R
  | _ => False
def at2 (o : O2) : ON := fun rs R => match rs with
  | [r, r'] => o r r' R
  | _ => False
section
variable {K : Fg}
theorem so_at1 {r : V → Hp → VK → Prop} {o : O1} (h : SndO1 K r o) : SndON K (fun xs H Q => ∃ x, xs = [x] ∧ r x H Q) (at1 o) := by
  intro ω T H xs rs R Q fr va h' q
  match xs, rs, va, h' with
  | [x], [r1], va, h' => exact ⟨x, rfl, h ω T H x r1 R Q fr va.1 h' q⟩
  | [], [_], va, _ => exact va.elim
  | _ :: _ :: _, [_], va, _ => exact va.2.elim
theorem so_at2 {r : R2} {o : O2} (h : SndO2 K r o) : SndON K (fun xs H Q => ∃ x y, xs = [x, y] ∧ r x y H Q) (at2 o) := by
  intro ω T H xs rs R Q fr va h' q
  match xs, rs, va, h' with
  | [x, y], [r1, r2], va, h' => exact ⟨x, y, rfl, h ω T H x y r1 r2 R Q fr va.1 va.2.1 h' q⟩
  | [], [_, _], va, _ => exact va.elim
  | [_], [_, _], va, _ => exact va.2.elim
  | _ :: _ :: _ :: _, [_, _], va, _ => exact va.2.2.elim
end
section
variable {X : Cx} {e : Expr} {es : List Expr} {fa : FA} {x : Str} {p pos : Pos}
theorem se_callB {id : String} {r : List V → Hp → VK → Prop} {o : ON} (hc : CallR X (.builtin id) r) (so : SndON X.K r o) (hv : bootBuiltins x = some (.builtin id)) (hm : X.mg x = none) (ha : SA X (e :: es) fa) (hg : Gl X x := by rfl) (hn : x ≠ "__name__" := by decide) (hdb : (x == ("__debug__" : Str)) = false := by decide)
    (he : starEach (e :: es) X.env = (false, eval e X.env) :: starEach es X.env := by rfl) (hpl : (backTo pos (starEach es X.env)).any (·.1) = false := by rfl) : SE X (.Call (.Name x p) (e :: es) [] pos) (fOpN o fa) := by
  obtain ⟨t, q, s⟩ := ha.ex
  exact ⟨_, pe_callB hc hg hm hv q hn hdb he hpl, snd_opN so s⟩
theorem se_callTy {id : String} {r : List V → Hp → VK → Prop} {o : ON} (hc : CallR X (.type id) r) (so : SndON X.K r o) (hv : bootBuiltins x = some (.type id)) (hm : X.mg x = none) (ha : SA X (e :: es) fa) (hg : Gl X x := by rfl) (hn : x ≠ "__name__" := by decide) (hdb : (x == ("__debug__" : Str)) = false := by decide)
    (he : starEach (e :: es) X.env = (false, eval e X.env) :: starEach es X.env := by rfl) (hpl : (backTo pos (starEach es X.env)).any (·.1) = false := by rfl) : SE X (.Call (.Name x p) (e :: es) [] pos) (fOpN o fa) := by
  obtain ⟨t, q, s⟩ := ha.ex
  exact ⟨_, pe_callTy hc hg hm hv q hn hdb he hpl, snd_opN so s⟩
theorem cimp {u : Value} {r r' : List V → Hp → VK → Prop} (h : CallR X u r) (hi : ∀ xs H Q, r' xs H Q → r xs H Q) : CallR X u r' := fun pins s σ H xs us Q I rv q => h pins s σ H xs us Q I rv (hi _ _ _ q)
end

/-! ### len, list, tuple -/
theorem Rp.dict_ {K : Fg} {ω : Om} {H : Hp} {v : V} {kvs : List (D × D)} (hk : isScr kvs = true) (h : Rp K ω H v (.dict kvs)) : ∃ (a : Addr) (ns : List Int), v = .ref a ∧ kvs = (ns.map fun n => (PyData.none, PyData.int n)) ∧ SqL K H a (ns.map V.int) := by
  generalize e : PyData.dict kvs = d at h
  cases h with
  | scr hs => exact ⟨_, _, rfl, PyData.dict.inj e, hs.seq⟩
  | dct _ _ _ =>
    have e2 := congrArg isScr (PyData.dict.inj e)
    rw [hk] at e2
    cases e2
  | _ => first | (cases e; done) | (cases e; cases hk)
theorem Vw.dict {K : Fg} {ω : Om} {H : Hp} {v : V} {r : Res} (h : Vw K ω H v r) {kvs : List (D × D)} (hk : isScr kvs = true) (e : r.d = .dict kvs) : ∃ (a : Addr) (ns : List Int), v = .ref a ∧ kvs = (ns.map fun n => (PyData.none, PyData.int n)) ∧ SqL K H a (ns.map V.int) := by
  cases r with
  | v k d =>
    have e' : d = .dict kvs := e
    have h' : Rp K ω H v d := h
    rw [e'] at h'; exact h'.dict_ hk
  | b j k d =>
    have e' : d = .dict kvs := e
    have h' : OwR K ω H k (Ow.own j) [] v d := h
    rw [e'] at h'
    cases k with
    | zero => exact Rp.dict_ hk h'
    | succ k =>
      rcases h' with ⟨_, h'⟩ | ⟨_, _, _, _, e2, _⟩ | ⟨_, _, _, _, e2, _⟩ | ⟨_, _, _, _, _, _, _, e2, _⟩ | ⟨_, _, _, _, e2, _⟩
      · exact Rp.dict_ hk h'
      · first | (cases e2; done) | (cases e2; cases hk)
      · have e3 := congrArg isScr (PyData.dict.inj e2)
        rw [hk] at e3
        cases e3
      · first | (cases e2; done) | (cases e2; cases hk)
      · have e3 := congrArg isScr (PyData.dict.inj e2)
        rw [hk] at e3
        cases e3
/-- a list or a tuple, as it is read -/
theorem Vw.seqL {K : Fg} {ω : Om} {H : Hp} {v : V} {r : Res} (h : Vw K ω H v r) {ds : List D} (e : r.d = .list ds) : ∃ a vs, v = .ref a ∧ SqL K H a vs ∧ vs.length = ds.length := by
  cases r with
  | v k d =>
    have e' : d = .list ds := e
    have h' : Rp K ω H v d := h
    rw [e'] at h'
    cases h' with
    | lst hs ha => exact ⟨_, _, rfl, hs.seq, ha.length⟩
  | b j k d =>
    have e' : d = .list ds := e
    have h' : OwR K ω H k (Ow.own j) [] v d := h
    rw [e'] at h'
    cases k with
    | zero =>
      have h2 : Rp K ω H v (.list ds) := h'
      cases h2 with
      | lst hs ha => exact ⟨_, _, rfl, hs.seq, ha.length⟩
    | succ k =>
      rcases h' with ⟨z, _⟩ | ⟨a, vs, ds', e1, e2, h1, _, el, hc⟩ | ⟨_, _, _, _, e2, _⟩ | ⟨_, _, _, _, _, _, _, e2, _⟩ | ⟨_, _, _, _, e2, _⟩
      · cases z
      · cases e2
        exact ⟨a, vs, e1, .inl (.inl h1), el⟩
      · cases e2
      · cases e2
      · first | (cases e2; done) | exact (dct_not_otp e2).elim | exact (dct_not_otp e2.symm).elim | exact (ins_not_otp e2.symm).elim | exact (ins_not_otp e2).elim | exact (exc_not_otp e2).elim | (subst e2; cases f; done)
def dLen (R : KC) : D → Prop
  | .list xs => R 0 (.int xs.length)
  | .tuple xs => R 0 (.int xs.length)
  | .dict kvs => isScr kvs = true ∧ R 0 (.int kvs.length)
  | .str x => x.length ≤ sizeLine ∧ R 0 (.int x.length)
  | _ => False
def oLen : O1 := fun r R => dLen R r.d
def dList (f : Prop) (R : KC) : D → Prop
  | .list xs => f ∧ R 1 (.list xs)
  | .tuple xs => R 1 (.list xs)
  | _ => False
def oList : O1 := fun r R => dList (flat r) R r.d
def dTuple (f : Prop) (R : KC) : D → Prop
  | .list xs => f ∧ R 0 (.tuple xs)
  | .tuple xs => R 0 (.tuple xs)
  | _ => False
def oTuple : O1 := fun r R => dTuple (flat r) R r.d
def rLenA (K : Fg) : V → Hp → VK → Prop := fun x H Q => (∃ p ys, x = .ref p ∧ (SqL K H p ys ∨ SqT K H p ys) ∧ Q (.int ys.length) H) ∨ (∃ z, x = .str z ∧ z.length ≤ sizeLine ∧ Q (.int z.length) H)
def rListA (K : Fg) : V → Hp → VK → Prop := fun x H Q => ∃ p ys, x = .ref p ∧ (SqL K H p ys ∨ SqT K H p ys) ∧ ∀ l, H l = none → Q (.ref l) (upd H l (.lst ys))
abbrev rTupleA := rTupF
section
variable {X : Cx} {K : Fg}
theorem so_len : SndO1 K (rLenA K) oLen := by
  intro ω T H x r1 R Q fr v1 h q
  have h' : dLen R r1.d := h
  generalize e1 : r1.d = d1 at h'
  cases d1 <;> first
    | exact h'.elim
    | skip
  · exact .inr ⟨_, v1.str e1, h'.1, q.int fr h'.2⟩
  · obtain ⟨a, vs, rfl, hs, hl⟩ := v1.seqL e1
    exact .inl ⟨a, vs, rfl, .inl hs, by rw [hl]; exact q.int fr h'⟩
  · obtain ⟨a, vs, rfl, hs, ha⟩ := v1.tup e1
    exact .inl ⟨a, vs, rfl, .inr hs, by rw [ha.length]; exact q.int fr h'⟩
  · obtain ⟨a, ns, rfl, e, hs⟩ := v1.dict h'.1 e1
    refine .inl ⟨a, _, rfl, .inl hs, ?_⟩
    subst e
    have h2 : R 0 (.int ((ns.map fun n => (PyData.none, PyData.int n)).length : Nat)) := h'.2
    rw [List.length_map] at h2 ⊢
    exact q.int fr h2
theorem so_list : SndO1 K (rListA K) oList := by
  intro ω T H x r1 R Q fr v1 h q
  have h' : dList (flat r1) R r1.d := h
  generalize e1 : r1.d = d1 at h'
  cases d1 <;> first
    | exact h'.elim
    | skip
  · obtain ⟨a, vs, rfl, hs, ha⟩ := v1.lst h'.1 e1
    exact ⟨a, vs, rfl, .inl (.inl (.inl hs)), fun l hl => q.lst fr hl ha h'.2⟩
  · obtain ⟨a, vs, rfl, hs, ha⟩ := v1.tup e1
    exact ⟨a, vs, rfl, .inr hs, fun l hl => q.lst fr hl ha h'⟩
theorem so_tuple : SndO1 K (rTupleA K) oTuple := by
  intro ω T H x r1 R Q fr v1 h q
  have h' : dTuple (flat r1) R r1.d := h
  generalize e1 : r1.d = d1 at h'
  cases d1 <;> first
    | exact h'.elim
    | skip
  · obtain ⟨a, vs, rfl, hs, ha⟩ := v1.lst h'.1 e1
    exact ⟨a, vs, rfl, .inl ⟨.inl (.inl hs), fun l o hl ho => q.tup fr hl ho ha h'.2⟩⟩
  · have w := v1.rpT e1
    obtain ⟨a, vs, rfl, hs, ha⟩ := v1.tup e1
    exact ⟨a, vs, rfl, .inr ⟨hs, q.same fr w h'⟩⟩
theorem cr_lenA : CallR X (.builtin "len") (fun xs H Q => ∃ x, xs = [x] ∧ rLenA X.K x H Q) := cimp (CallR.or call_len_seq call_len_str) fun xs H Q ⟨x, e, h⟩ => by
  subst e
  rcases h with ⟨p, ys, rfl, h⟩ | ⟨z, rfl, h⟩
  · exact .inl ⟨p, ys, rfl, h⟩
  · exact .inr ⟨z, rfl, h⟩
theorem cr_listA : CallR X (.type "list") (fun xs H Q => ∃ x, xs = [x] ∧ rListA X.K x H Q) := cimp call_list_of fun xs H Q ⟨x, e, p, ys, e2, h⟩ => ⟨p, ys, by rw [e, e2], h⟩
theorem cr_tupleA : CallR X (.type "tuple") (fun xs H Q => ∃ x, xs = [x] ∧ rTupleA X.K x H Q) := cr_tupF
variable {e : Expr} {es : List Expr} {fa : FA} {p pos : Pos}
theorem se_len (hm : X.mg "len" = none) (ha : SA X [e] fa) (hg : Gl X "len" := by rfl)
    (he : starEach [e] X.env = [(false, eval e X.env)] := by rfl) : SE X (.Call (.Name "len" p) [e] [] pos) (fOpN (at1 oLen) fa) := se_callB cr_lenA (so_at1 so_len) PySem.boot_len hm ha hg (by decide) (by decide) he rfl
theorem se_list (hm : X.mg "list" = none) (ha : SA X [e] fa) (hg : Gl X "list" := by rfl)
    (he : starEach [e] X.env = [(false, eval e X.env)] := by rfl) : SE X (.Call (.Name "list" p) [e] [] pos) (fOpN (at1 oList) fa) := se_callTy cr_listA (so_at1 so_list) (by decide +kernel) hm ha hg (by decide) (by decide) he rfl
theorem se_tuple (hm : X.mg "tuple" = none) (ha : SA X [e] fa) (hg : Gl X "tuple" := by rfl)
    (he : starEach [e] X.env = [(false, eval e X.env)] := by rfl) : SE X (.Call (.Name "tuple" p) [e] [] pos) (fOpN (at1 oTuple) fa) := se_callTy cr_tupleA (so_at1 so_tuple) (by decide +kernel) hm ha hg (by decide) (by decide) he rfl
end

/-! ### abs, int, min, max of two, str of an int, sums, all, any -/
def dAbs (R : KC) : D → Prop
  | .int i => R 0 (.int (i.natAbs : Int))
  | _ => False
def oAbs : O1 := fun r R => dAbs R r.d
def dToInt (R : KC) : D → Prop
  | .int i => R 0 (.int i)
  | .bool b => R 0 (.int (if b then 1 else 0))
  | _ => False
def oToInt : O1 := fun r R => dToInt R r.d
def oMax2 : O2 := fun r1 r2 R => dInt0 (fun i j => .int (max i j)) R r1.d r2.d
def oMin2 : O2 := fun r1 r2 R => dInt0 (fun i j => .int (min i j)) R r1.d r2.d
def dStr (R : KC) : D → Prop
  | .int i => i.natAbs.log2 < 1920 ∧ R 0 (.str (toString i))
  | _ => False
def oStr : O1 := fun r R => dStr R r.d
section
variable {X : Cx} {K : Fg}
theorem so_abs : SndO1 K (fun x H Q => ∃ i, x = .int i ∧ Q (.int (if i < 0 then -i else i)) H) oAbs := by
  intro ω T H x r1 R Q fr v1 h q
  have h' : dAbs R r1.d := h
  generalize e1 : r1.d = d1 at h'
  cases d1 <;> first
    | exact h'.elim
    | skip
  rename_i i
  refine ⟨i, v1.int e1, ?_⟩
  have e : (if i < 0 then -i else i) = (i.natAbs : Int) := by split <;> omega
  rw [e]
  exact q.int fr h'
theorem so_toInt : SndO1 K (fun x H Q => (∃ i, x = .int i ∧ Q (.int i) H) ∨ ∃ k, x = .bl k ∧ Q (.int (if k then 1 else 0)) H) oToInt := by
  intro ω T H x r1 R Q fr v1 h q
  have h' : dToInt R r1.d := h
  generalize e1 : r1.d = d1 at h'
  cases d1 <;> first
    | exact h'.elim
    | skip
  · exact .inr ⟨_, v1.bl e1, q.int fr h'⟩
  · exact .inl ⟨_, v1.int e1, q.int fr h'⟩
theorem so_str : SndO1 K (fun x H Q => ∃ i, x = .int i ∧ i.natAbs.log2 < 1920 ∧ Q (.str (toString i)) H) oStr := by
  intro ω T H x r1 R Q fr v1 h q
  have h' : dStr R r1.d := h
  generalize e1 : r1.d = d1 at h'
  cases d1 <;> first
    | exact h'.elim
    | skip
  exact ⟨_, v1.int e1, h'.1, q.str fr h'.2⟩
theorem so_max2 : SndO2 K (fun x y H Q => ∃ i j, x = .int i ∧ y = .int j ∧ Q (.int (if j > i then j else i)) H) oMax2 := by
  intro ω T H x y r1 r2 R Q fr v1 v2 h q
  obtain ⟨i, j, e1, e2, hR⟩ := dInt0_ex h
  refine ⟨i, j, v1.int e1, v2.int e2, ?_⟩
  have e : (if j > i then j else i) = max i j := by split <;> omega
  rw [e]
  exact q.int fr hR
theorem so_min2 : SndO2 K (fun x y H Q => ∃ i j, x = .int i ∧ y = .int j ∧ Q (.int (if j < i then j else i)) H) oMin2 := by
  intro ω T H x y r1 r2 R Q fr v1 v2 h q
  obtain ⟨i, j, e1, e2, hR⟩ := dInt0_ex h
  refine ⟨i, j, v1.int e1, v2.int e2, ?_⟩
  have e : (if j < i then j else i) = min i j := by split <;> omega
  rw [e]
  exact q.int fr hR
variable {e e2 : Expr} {fa : FA} {p pos : Pos}
theorem se_abs (hm : X.mg "abs" = none) (ha : SA X [e] fa) (hg : Gl X "abs" := by rfl) (he : starEach [e] X.env = [(false, eval e X.env)] := by rfl) : SE X (.Call (.Name "abs" p) [e] [] pos) (fOpN (at1 oAbs) fa) :=
  se_callB (cimp call_abs fun xs H Q ⟨x, e, i, e2, h⟩ => ⟨i, by rw [e, e2], h⟩) (so_at1 so_abs) (id := "abs") (by decide +kernel) hm ha hg (by decide) (by decide) he rfl
theorem se_toInt (hm : X.mg "int" = none) (ha : SA X [e] fa) (hg : Gl X "int" := by rfl) (he : starEach [e] X.env = [(false, eval e X.env)] := by rfl) : SE X (.Call (.Name "int" p) [e] [] pos) (fOpN (at1 oToInt) fa) :=
  se_callTy (cimp call_int1 fun xs H Q ⟨x, e, h⟩ => by
    subst e
    rcases h with ⟨i, rfl, h⟩ | ⟨i, rfl, h⟩
    · exact .inl ⟨i, rfl, h⟩
    · exact .inr ⟨i, rfl, h⟩) (so_at1 so_toInt) (id := "int") (by decide +kernel) hm ha hg (by decide) (by decide) he rfl
theorem se_str_of (hm : X.mg "str" = none) (ha : SA X [e] fa) (hg : Gl X "str" := by rfl) (he : starEach [e] X.env = [(false, eval e X.env)] := by rfl) : SE X (.Call (.Name "str" p) [e] [] pos) (fOpN (at1 oStr) fa) :=
  se_callTy (cimp call_str_int fun xs H Q ⟨x, e, i, e2, h⟩ => ⟨i, by rw [e, e2], h⟩) (so_at1 so_str) (id := "str") (by decide +kernel) hm ha hg (by decide) (by decide) he rfl
theorem se_max2 (hc : X.calm = true) (hm : X.mg "max" = none) (ha : SA X [e, e2] fa) (hg : Gl X "max" := by rfl) (he : starEach [e, e2] X.env = (false, eval e X.env) :: starEach [e2] X.env := by rfl) (hpl : (backTo pos (starEach [e2] X.env)).any (·.1) = false := by rfl) : SE X (.Call (.Name "max" p) [e, e2] [] pos) (fOpN (at2 oMax2) fa) :=
  se_callB (cimp (call_max2 hc) fun xs H Q ⟨x, y, e, i, j, e1, e2, h⟩ => ⟨i, j, by rw [e, e1, e2], h⟩) (so_at2 so_max2) (id := "max") (by decide +kernel) hm ha hg (by decide) (by decide) he hpl
theorem se_min2 (hc : X.calm = true) (hm : X.mg "min" = none) (ha : SA X [e, e2] fa) (hg : Gl X "min" := by rfl) (he : starEach [e, e2] X.env = (false, eval e X.env) :: starEach [e2] X.env := by rfl) (hpl : (backTo pos (starEach [e2] X.env)).any (·.1) = false := by rfl) : SE X (.Call (.Name "min" p) [e, e2] [] pos) (fOpN (at2 oMin2) fa) :=
  se_callB (cimp (call_min2 hc) fun xs H Q ⟨x, y, e, i, j, e1, e2, h⟩ => ⟨i, j, by rw [e, e1, e2], h⟩) (so_at2 so_min2) (id := "min") (by decide +kernel) hm ha hg (by decide) (by decide) he hpl
end

/-! ### x[i] -/
def ix {α : Type} (xs : List α) (i : Int) : Option α := if 0 ≤ i then xs[i.toNat]? else if -(xs.length : Int) ≤ i then xs[(i + xs.length).toNat]? else none
theorem atI_ix {α : Type} {xs : List α} {i : Int} {v : α} (h : ix xs i = some v) : ∃ j, ixN xs.length i = some j ∧ xs[j]? = some v := by
  unfold ix at h
  unfold ixN
  by_cases h0 : 0 ≤ i
  · rw [if_pos h0] at h ⊢
    have := (List.getElem?_eq_some_iff.mp h).1
    exact ⟨i.toNat, by rw [if_pos (by omega)], h⟩
  · rw [if_neg h0] at h ⊢
    by_cases h1 : -(xs.length : Int) ≤ i
    · rw [if_pos h1] at h ⊢
      exact ⟨_, rfl, h⟩
    · rw [if_neg h1] at h; cases h
def pick (R : KC) : Option D → Prop
  | some d => R 0 d
  | none => False
def pickI (R : KC) : Option (D × D) → Prop
  | some (_, d) => R 0 d
  | none => False
def pickC (R : KC) : Option Nat → Prop
  | some c => R 0 (.str ⟨#[c]⟩)
  | none => False
def dIx (f : Prop) (R : KC) : D → D → Prop
  | .list xs, .int i => f ∧ pick R (ix xs i)
  | .tuple xs, .int i => pick R (ix xs i)
  | .str x, .int i => x.length ≤ sizeLine ∧ pickC R (ix x.cps.toList i)
  | .dict kvs, .int i => isScr kvs = true ∧ pickI R (ix kvs i)
  | _, _ => False
def oIx : O2 := fun r1 r2 R => dIx (flat r1) R r1.d r2.d
section
variable {X : Cx} {K : Fg} {a b : Expr} {fa fb : FE} {pos : Pos}
theorem pick_ex {R : KC} {o : Option D} (h : pick R o) : ∃ d, o = some d ∧ R 0 d := by
  cases o with
  | none => exact h.elim
  | some d => exact ⟨d, rfl, h⟩
theorem atI_some {α : Type} {xs : List α} {i : Int} {j : Nat} {v : α} (h : ixN xs.length i = some j) (e : xs[j]? = some v) : atI xs i = some v := by
  unfold atI; rw [h]; exact e
theorem so_ix : SndO2 X.K (rIx X.K) oIx := by
  intro ω T H x y r1 r2 R Q fr v1 v2 h q
  have h' : dIx (flat r1) R r1.d r2.d := h
  generalize e1 : r1.d = d1 at h'
  generalize e2 : r2.d = d2 at h'
  cases d1 <;> cases d2 <;> first
    | exact h'.elim
    | skip
  · obtain ⟨hz, h'⟩ := h'
    rename_i z i
    cases ho : ix z.cps.toList i with
    | none => rw [ho] at h'; exact h'.elim
    | some c =>
      rw [ho] at h'
      obtain ⟨j, hj, he⟩ := atI_ix ho
      exact .inr (.inr ⟨z, i, c, v1.str e1, v2.int e2, hz, atI_some hj he, q.str fr h'⟩)
  · obtain ⟨f, h'⟩ := h'
    obtain ⟨a, vs, rfl, hs, ha⟩ := v1.lst f e1
    obtain ⟨d, hd, hR⟩ := pick_ex h'
    obtain ⟨j, hj, he⟩ := atI_ix hd
    obtain ⟨w, hw, rw_⟩ := ha.at_ he
    rw [← ha.length] at hj
    exact .inl ⟨a, vs, _, w, rfl, v2.int e2, .inl (.inl hs), atI_some hj hw, q.same fr rw_ hR⟩
  · obtain ⟨a, vs, rfl, hs, ha⟩ := v1.tup e1
    obtain ⟨d, hd, hR⟩ := pick_ex h'
    obtain ⟨j, hj, he⟩ := atI_ix hd
    obtain ⟨w, hw, rw_⟩ := ha.at_ he
    rw [← ha.length] at hj
    exact .inr (.inl ⟨a, vs, _, w, rfl, v2.int e2, hs, atI_some hj hw, q.same fr rw_ hR⟩)
  · obtain ⟨a, ns, rfl, e, hs⟩ := v1.dict h'.1 e1
    subst e
    rename_i i
    have h2 : pickI R (ix (ns.map fun n => (PyData.none, PyData.int n)) i) := h'.2
    cases ho : ix (ns.map fun n => (PyData.none, PyData.int n)) i with
    | none => rw [ho] at h2; exact h2.elim
    | some c =>
      rw [ho] at h2
      obtain ⟨j, hj, he⟩ := atI_ix ho
      rw [List.getElem?_map] at he
      cases hn : ns[j]? with
      | none => rw [hn] at he; cases he
      | some n =>
        rw [hn] at he
        have he' := Option.some.inj he
        subst he'
        rw [List.length_map] at hj
        refine .inl ⟨a, ns.map V.int, i, .int n, rfl, v2.int e2, hs, atI_some (j := j) (by rw [List.length_map]; exact hj) (by rw [List.getElem?_map, hn]; rfl), q.int fr h2⟩
theorem se_ix (ha : SE X a fa) (hb : SE X b fb) (hs : PlainIx b := by exact fun _ _ => rfl) : SE X (.Subscript a b pos) (fOp2 oIx fa fb) := by
  obtain ⟨t, p, s⟩ := ha.ex
  obtain ⟨u, p', s'⟩ := hb.ex
  exact ⟨_, pe_ix ix_seq p p' hs, snd_op2 so_ix s s'⟩
end

/-! ### x[lo:hi] -/
def FO := Env → (Option Int → Env → Prop) → Prop
def SndP (K : Fg) (t : TO) (f : FO) : Prop := ∀ (ω : Om) (T : Nat) (env : Env) (σ : Sg) (H : Hp) (R : Option Int → Env → Prop) (Q : Option Int → Hp → Prop), Rel K ω env σ H → Free ω T → f env R →
  (∀ o H' ω' env', Rel K ω' env' σ H' → Step ω H ω' H' → Free ω' T → R o env' → Q o H') → t σ H Q
structure SP_ (X : Cx) (e : Option Expr) (f : FO) : Prop where
  ex : ∃ t : TO, PO X e t ∧ SndP X.K t f
def fNoPart : FO := fun env R => R none env
def dI (R : Int → Prop) : D → Prop
  | .int i => R i
  | _ => False
def fPart (fa : FE) : FO := fun env R => fa env fun r e => dI (fun i => R (some i) e) r.d
theorem dI_ex {R : Int → Prop} {d : D} (h : dI R d) : ∃ i, d = .int i ∧ R i := by
  cases d <;> first
    | exact h.elim
    | exact ⟨_, rfl, h⟩
theorem ResR.int_ {K : Fg} {ω : Om} {H : Hp} {σ : Sg} {env : Env} {T : Nat} {v : V} {r : Res} {b : Int} (R : Rel K ω env σ H) (h : ResR K ω H σ env T v r) (e : r.d = .int b) : v = .int b := Vw.int (h.gc R (Nat.le_refl _)) e
section
variable {X : Cx} {K : Fg} {e : Expr} {fa : FE}
theorem sp_none : SP_ X none fNoPart := ⟨_, po_none, fun ω T env σ H R Q rel fr hR q => q none H ω env rel Step.refl fr hR⟩
theorem sp_some (ha : SE X e fa) : SP_ X (some e) (fPart fa) := by
  obtain ⟨t, p, s⟩ := ha.ex
  refine ⟨_, po_some p, fun ω T env σ H R Q rel fr hR q => ?_⟩
  refine s ω T env σ H _ _ rel fr hR fun v H1 ω1 e1 r rel1 st1 fr1 rr1 h1 => ?_
  obtain ⟨i, ei, hi⟩ := dI_ex h1
  exact ⟨i, rr1.int_ rel1 ei, q (some i) H1 (gc T ω1) e1 (rel1.gc T) (st1.gc fr) gc_free hi⟩
/-- what is cut out -/
def cut {α : Type} (xs : List α) (lo hi : Option Int) : List α := (xs.drop (HT.sIx xs.length 0 lo)).take (HT.sIx xs.length xs.length hi - HT.sIx xs.length 0 lo)
def dSl (f : Prop) (lo hi : Option Int) (R : KC) : D → Prop
  | .list xs => f ∧ R 1 (.list (cut xs lo hi))
  | .tuple xs => R 0 (.tuple (cut xs lo hi))
  | .str x => x.length ≤ sizeLine ∧ R 0 (.str (cutS x lo hi))
  | _ => False
def oSl (r : Res) (lo hi : Option Int) (R : KC) : Prop := dSl (flat r) lo hi R r.d
def oSlA (lo hi : Option Int) : O1 := fun r R => oSl r lo hi R
def fSl (fa : FE) (fl fh : FO) : FE := fun env R => fa env fun r e1 => fl e1 fun lo e2 => fh e2 fun hi e3 => okb e3 r ∧ ap1 (oSlA lo hi) r fun k d => R (.v k d) e3
def rSlAll (K : Fg) : V → Option Int → Option Int → Hp → VK → Prop := fun x lo hi H Q => (rSlL K x lo hi H Q ∨ rSlF K x lo hi H Q) ∨ rSlS x lo hi H Q
theorem cut_rp {ω : Om} {H : Hp} {vs : List V} {ds : List D} (h : RpAll K ω H vs ds) (lo hi : Option Int) : RpAll K ω H (cutV vs lo hi) (cut ds lo hi) := by
  unfold cutV cut
  rw [h.length]
  exact RpAll.take _ (RpAll.drop _ h)
theorem so_sl {ω : Om} {T : Nat} {H : Hp} {x : V} {r1 : Res} {lo hi : Option Int} {R : KC} {Q : VK} (fr : Free ω T) (v1 : Vw K ω H x r1) (h : oSl r1 lo hi R) (q : Out K ω T H R Q) : rSlAll K x lo hi H Q := by
  have h' : dSl (flat r1) lo hi R r1.d := h
  generalize e1 : r1.d = d1 at h'
  cases d1 <;> first
    | exact h'.elim
    | skip
  · exact .inr ⟨_, v1.str e1, h'.1, q.str fr h'.2⟩
  · obtain ⟨a, vs, rfl, hs, ha⟩ := v1.lst h'.1 e1
    exact .inl (.inl ⟨a, vs, rfl, .inl (.inl hs), fun p hp => q.lst fr hp (cut_rp ha lo hi) h'.2⟩)
  · have w := v1.rpT e1
    rename_i ds
    obtain ⟨a, vs, rfl, hs, ha⟩ := v1.tup e1
    refine .inl (.inr ⟨a, vs, rfl, hs, fun z => ?_, fun z p o hp ho => q.tup fr hp ho (cut_rp ha lo hi) h'⟩)
    have e : cut ds lo hi = ds := by
      unfold cut
      rw [← ha.length, z.1, z.2, List.drop_zero, Nat.sub_zero, ha.length]
      exact List.take_length
    have h2 : R 0 (.tuple (cut ds lo hi)) := h'
    rw [e] at h2
    exact q.same fr w h2
theorem snd_sl {ta : TE} {tl th : TO} {fl fh : FO} (ha : SndE K ta fa) (hl : SndP K tl fl) (hh : SndP K th fh) : SndE K (tSl (rSlAll K) ta tl th) (fSl fa fl fh) := by
  intro ω T env σ H R Q rel fre hR q
  refine ha ω T env σ H _ _ rel fre hR fun x H1 ω1 e1 r rel1 st1 fr1 rr1 h1 => ?_
  refine hl ω1 (T + 1) e1 σ H1 _ _ rel1 fr1 h1 fun lo H2 ω2 e2 rel2 st2 fr2 h2 => ?_
  refine hh ω2 (T + 1) e2 σ H2 _ _ rel2 fr2 h2 fun hi H3 ω3 e3 rel3 st3 fr3 h3 => ?_
  have st : Step ω1 H1 ω3 H3 := st2.trans st3
  have rr : ResR K ω3 H3 σ e3 T x r := by
    cases r with
    | v k d => exact ResR.step (T' := T) rr1 st
    | b i k d => exact ⟨h3.1, rr1.2⟩
  exact so_sl gc_free (rr.gc rel3 (Nat.le_refl _)) (ap1_cl h3.2) (out_of (rel3.gc T) ((st1.trans st).gc fre) q)
theorem se_sl {lo hi : Option Expr} {fl fh : FO} {pos p2 : Pos} (ha : SE X e fa) (hl : SP_ X lo fl) (hh : SP_ X hi fh) : SE X (.Subscript e (.Slice lo hi none p2) pos) (fSl fa fl fh) := by
  obtain ⟨t, p, s⟩ := ha.ex
  obtain ⟨t1, p1, s1⟩ := hl.ex
  obtain ⟨t2, p2, s2⟩ := hh.ex
  exact ⟨_, pe_slice (SlR.or (SlR.or sl_list sl_tupF) sl_str) p p1 p2, snd_sl s s1 s2⟩
end

/-! ### x[::step], step 1 or -1 -/
end Pv

/-! Pv5: x[::step], step 1 or -1, of a list or a tuple. -/
namespace Pv
open PySem PySem.Spec PyProof.Rows L2 HT
section
variable {prog : Program} {w : World} {A : Around} {E : Value → Shared → Prop} {s : Shared}
theorem sliceApplied_neg {sl : Addr} {t : Tok} {n : Nat} {Q : Int × Int × Nat → Shared → Prop} (hs : s.heap.IsSliceOf sl .none .none (.int (-1) t))
    (h : Q ((n : Int) - 1, -1, n) s) : wpAny (model prog w) A (Builtin.Slice.sliceApplied (.ref sl) (pure (n : Int))) Q E s := by
  obtain ⟨os, hos, hcs, hds⟩ := id hs
  unfold Builtin.Slice.sliceApplied Builtin.Slice.sliceFields
  refine wpAny_bind (wpAny_bind (wpAny_field hos hds (x := .none) rfl (wpAny_bind (wpAny_field hos hds (x := .none) rfl (wpAny_bind (wpAny_field hos hds (x := .int (-1) t) rfl (wpAny_pure ?_)))))))
  refine wpAny_bind (slicePart_int ?_)
  show wpAny _ _ (if ((-1 : Int) == 0) = true then _ else _) _ _ s
  rw [if_neg (by decide)]
  refine wpAny_bind (slicePart_none (wpAny_bind (slicePart_none (wpAny_bind (wpAny_pure ?_)))))
  have e1 : Builtin.Slice.sliceAdjust none none (-1) (n : Int) = ((n : Int) - 1, -1) := by
    unfold Builtin.Slice.sliceAdjust
    have h1 : ((-1 : Int) < 0) := by omega
    simp only [h1, if_true]
  have e2 : Builtin.Slice.slicePlaces ((n : Int) - 1) (-1) (-1) = n := by
    unfold Builtin.Slice.slicePlaces
    have h1 : ¬ ((-1 : Int) > 0) := by omega
    simp only [h1, if_false]
    by_cases h : (n : Int) - 1 > -1
    · simp only [h, if_true]
      rw [show (- -1 : Int) = 1 by decide, Int.ediv_one]
      omega
    · simp only [h, if_false]; omega
  show wpAny _ _ (match Builtin.Slice.sliceAdjust none none (-1) (n : Int) with | (lo, hi) => pure (lo, (-1 : Int), Builtin.Slice.slicePlaces lo hi (-1))) _ _ s
  rw [e1]
  show wpAny _ _ (pure ((n : Int) - 1, (-1 : Int), Builtin.Slice.slicePlaces ((n : Int) - 1) (-1) (-1))) _ _ s
  rw [e2]
  exact wpAny_pure h
theorem sliceApplied_one {sl : Addr} {t : Tok} {n : Nat} {Q : Int × Int × Nat → Shared → Prop} (hs : s.heap.IsSliceOf sl .none .none (.int 1 t))
    (h : Q (0, 1, n) s) : wpAny (model prog w) A (Builtin.Slice.sliceApplied (.ref sl) (pure (n : Int))) Q E s := by
  obtain ⟨os, hos, hcs, hds⟩ := id hs
  unfold Builtin.Slice.sliceApplied Builtin.Slice.sliceFields
  refine wpAny_bind (wpAny_bind (wpAny_field hos hds (x := .none) rfl (wpAny_bind (wpAny_field hos hds (x := .none) rfl (wpAny_bind (wpAny_field hos hds (x := .int 1 t) rfl (wpAny_pure ?_)))))))
  refine wpAny_bind (slicePart_int ?_)
  show wpAny _ _ (if ((1 : Int) == 0) = true then _ else _) _ _ s
  rw [if_neg (by decide)]
  refine wpAny_bind (slicePart_none (wpAny_bind (slicePart_none (wpAny_bind (wpAny_pure ?_)))))
  show wpAny _ _ (match Builtin.Slice.sliceAdjust none none 1 (n : Int) with | (lo, hi) => pure (lo, (1 : Int), Builtin.Slice.slicePlaces lo hi 1)) _ _ s
  rw [adjust_gen none none n]
  show wpAny _ _ (pure (((0 : Nat) : Int), (1 : Int), Builtin.Slice.slicePlaces ((0 : Nat) : Int) ((n : Nat) : Int) 1)) _ _ s
  rw [places_gen, Nat.sub_zero]
  exact wpAny_pure h
theorem pick_rev (xs : Array Value) : ((List.range xs.size).filterMap fun (m : Nat) => xs[((xs.size : Int) - 1 + (m : Int) * -1).toNat]?).toArray = xs.toList.reverse.toArray := by
  have e : ((List.range xs.size).filterMap fun (m : Nat) => xs[((xs.size : Int) - 1 + (m : Int) * -1).toNat]?) = (((List.range xs.size).map fun k => xs.size - 1 - k).filterMap (xs[·]?)) := by
    rw [List.filterMap_map]
    have cong : ∀ (l : List Nat) (f g : Nat → Option Value), (∀ m ∈ l, f m = g m) → l.filterMap f = l.filterMap g := by
      intro l f g
      induction l with
      | nil => intro _; rfl
      | cons a l ih =>
        intro h
        rw [List.filterMap_cons, List.filterMap_cons, h a List.mem_cons_self, ih fun m hm => h m (List.mem_cons_of_mem _ hm)]
    refine cong _ _ _ fun m hm => ?_
    have := List.mem_range.mp hm
    show xs[((xs.size : Int) - 1 + (m : Int) * -1).toNat]? = xs[xs.size - 1 - m]?
    have e0 : ((xs.size : Int) - 1 + (m : Int) * -1).toNat = xs.size - 1 - m := by omega
    rw [e0]
  rw [e, PySem.W.krv_range, List.filterMap_reverse, PySem.W.krv_all]
theorem getItem_tuple_rev {t sl : Addr} {tk : Tok} {items : Array Value} {Q : Value → Shared → Prop} (ht : IsTup s.heap t items) (hs : s.heap.IsSliceOf sl .none .none (.int (-1) tk))
    (h : Q (.ref s.heap.objs.size) { s with heap := s.heap.push { cls := .type "tuple", data := .seq items.toList.reverse.toArray } })
    (hsz : items.size ≤ sizeLine) : wpAny (model prog w) A (getItem (.ref t) (.ref sl)) Q E s := by
  have htake : sizeOk (.seq items.toList.reverse.toArray) := by
    show items.toList.reverse.toArray.size ≤ sizeLine
    rw [List.size_toArray, List.length_reverse, Array.length_toList]
    omega
  obtain ⟨os, hos, hcs, hds⟩ := id hs
  have hTs : s.TypeIs (.ref sl) "slice" := ⟨os, hos, hcs⟩
  unfold getItem
  try with_reducible refine wpAny_holding ?_
  first | refine wpAny_bind (wpAny_pure ?_) | skip
  refine wpAny_bind (wpAny_sequenceKey ht.typeIs (by decide) ?_)
  refine wpAny_bind (wpAny_callSpecial?_slot (name := Str.ofString "__getitem__") ht.typeIs PyProof.Rows.slot_tuple_getitem
    (wpAny_call_entry PyProof.Rows.slot_tuple_getitem ht.typeIs entry_tuple_getitem ?_ (args_tuple_getitem _ _)))
  show wpAny _ _ (Builtin.Tuple.tupleItemsOf (.ref t) >>= _) _ _ s
  refine wpAny_bind (tupleItemsOf_ ht ?_)
  refine wpAny_bind (wpAny_typeOf hTs ?_)
  rw [if_pos (by decide)]
  refine wpAny_bind (sliceApplied_neg hs ?_)
  have hno : ¬ (((((items.size : Nat) : Int) - 1 == 0) && ((-1 : Int) == 1) && (items.size == items.size)) = true) := by
    intro q
    rw [Bool.and_eq_true, Bool.and_eq_true] at q
    exact absurd q.1.2 (by decide)
  show wpAny _ _ (if ((((items.size : Nat) : Int) - 1 == 0) && ((-1 : Int) == 1) && (items.size == items.size)) = true then _ else _) _ _ s
  rw [if_neg hno, pick_rev]
  first
    | exact wpAny_bind (m := Builtin.Tuple.tupleExact _) (wpAny_newObj_type (wpAny_pure ⟨_, rfl, wpAny_pure h⟩) htake)
    | exact wpAny_bind (m := Builtin.Tuple.tupleExact _) (wpAny_newObj_type (wpAny_bind (wpAny_pure (wpAny_pure ⟨_, rfl, wpAny_pure h⟩))) htake)
    | exact wpAny_bind (wpAny_bind (m := Builtin.Tuple.tupleExact _) (wpAny_newObj_type (wpAny_pure (wpAny_pure ⟨_, rfl, wpAny_pure h⟩)) htake))
    | exact wpAny_bind (wpAny_bind (m := Builtin.Tuple.tupleExact _) (wpAny_newObj_type (wpAny_pure ⟨_, rfl, wpAny_pure h⟩) htake))
theorem getItem_tuple_one {t sl : Addr} {tk : Tok} {items : Array Value} {Q : Value → Shared → Prop} (ht : IsTup s.heap t items) (hs : s.heap.IsSliceOf sl .none .none (.int 1 tk))
    (h : Q (.ref t) s) : wpAny (model prog w) A (getItem (.ref t) (.ref sl)) Q E s := by
  obtain ⟨os, hos, hcs, hds⟩ := id hs
  have hTs : s.TypeIs (.ref sl) "slice" := ⟨os, hos, hcs⟩
  unfold getItem
  try with_reducible refine wpAny_holding ?_
  first | refine wpAny_bind (wpAny_pure ?_) | skip
  refine wpAny_bind (wpAny_sequenceKey ht.typeIs (by decide) ?_)
  refine wpAny_bind (wpAny_callSpecial?_slot (name := Str.ofString "__getitem__") ht.typeIs PyProof.Rows.slot_tuple_getitem
    (wpAny_call_entry PyProof.Rows.slot_tuple_getitem ht.typeIs entry_tuple_getitem ?_ (args_tuple_getitem _ _)))
  show wpAny _ _ (Builtin.Tuple.tupleItemsOf (.ref t) >>= _) _ _ s
  refine wpAny_bind (tupleItemsOf_ ht ?_)
  refine wpAny_bind (wpAny_typeOf hTs ?_)
  rw [if_pos (by decide)]
  refine wpAny_bind (sliceApplied_one hs ?_)
  have hyes : (((0 : Int) == 0) && ((1 : Int) == 1) && (items.size == items.size)) = true := by simp
  show wpAny _ _ (if (((0 : Int) == 0) && ((1 : Int) == 1) && (items.size == items.size)) = true then _ else _) _ _ s
  rw [if_pos hyes]
  refine wpAny_bind ?_
  show wpAny _ _ (typeOf (.ref t) >>= fun T => pure (T == .type "tuple")) _ _ s
  refine wpAny_bind (wpAny_typeOf ht.typeIs (wpAny_pure ?_))
  first
    | rw [if_pos (by decide)]
    | simp only [beq_self_eq_true, if_true]
  first
    | exact wpAny_bind (wpAny_rule (wpAny_pure ⟨_, rfl, wpAny_pure h⟩))
    | exact wpAny_bind (wpAny_rule (wpAny_bind (wpAny_pure (wpAny_pure ⟨_, rfl, wpAny_pure h⟩))))
end
/-- by values -/
def rStp (K : Fg) : V → Int → Hp → VK → Prop := fun x st H Q =>
  (st = -1 ∧ ((∃ a xs, x = .ref a ∧ SqL K H a xs ∧ ∀ p, H p = none → Q (.ref p) (upd H p (.lst xs.reverse))) ∨ (∃ a xs, x = .ref a ∧ SqT K H a xs ∧ ∀ p o, H p = none → o.dict = none → Q (.ref p) (upd H p (.frz o (.tup xs.reverse)))))) ∨
  (st = 1 ∧ ((∃ a xs, x = .ref a ∧ SqL K H a xs ∧ ∀ p, H p = none → Q (.ref p) (upd H p (.lst xs))) ∨ (∃ a xs, x = .ref a ∧ SqT K H a xs ∧ Q (.ref a) H)))
def tStp (K : Fg) (te : TE) (ts : TO) : TE := fun σ H Q => te σ H fun x H1 => ts σ H1 fun o H2 => ∃ st, o = some st ∧ rStp K x st H2 Q
theorem pick_one (items : Array Value) : slicePick items none none (some 1) = items := by
  unfold slicePick
  have e : sliceBounds none none (some 1) items.size = (0, (items.size : Int), 1) := by
    first
      | rfl
      | simp [sliceBounds]
  rw [e]
  show ((sliceRange 0 (items.size : Int) 1).filterMap (items[·]?)).toArray = _
  have e2 : sliceRange 0 (items.size : Int) 1 = List.range items.size := by
    unfold sliceRange
    have h1 : ((1 : Int) > 0) := by decide
    by_cases h : (0 : Int) < (items.size : Int)
    · have e : ((items.size : Int) - 0 + 1 - 1) / 1 = (items.size : Int) := by omega
      simp only [h1, if_true, h, e, Int.toNat_natCast]
      rw [List.map_congr_left (g := id) (fun k hk => by show ((0 : Int) + 1 * (k : Int)).toNat = k; omega), List.map_id]
    · have e : items.size = 0 := by omega
      rw [e]
      simp
  rw [e2, PySem.W.krv_all]
theorem pe_stp {X : Cx} {e : Expr} {st : Expr} {te : TE} {ts : TO} {p3 pos : Pos} (he : PE X e te) (hst : PO X (some st) ts) : PE X (.Subscript e (.Slice none none (some st) p3) pos) (tStp X.K te ts) := by
  refine ⟨fun pins s σ H Q I h => ?_⟩
  refine Subscript_ (thn (he.run pins s σ H _ I h) fun v s1 ⟨x, H1, I1, r1, q1⟩ => ?_)
  refine wpAny_Slice (thn (po_none.run pins s1 σ H1 (fun o H2 => o = none ∧ H2 = H1) I1 ⟨rfl, rfl⟩) fun vl s2 ⟨l, H2, I2, pl, el, e2⟩ => ?_)
  subst el e2
  refine thn (po_none.run pins s2 σ H2 (fun o H3 => o = none ∧ H3 = H2) I2 ⟨rfl, rfl⟩) fun vu s3 ⟨u, H3, I3, pu, eu, e3⟩ => ?_
  subst eu e3
  refine thn (hst.run pins s3 σ H3 _ I3 q1) fun vs s4 ⟨o, H4, I4, ps, stp, eo, q4⟩ => ?_
  subst eo
  have I5 : Inv X pins σ H4 { s4 with heap := s4.heap.push { cls := .type "slice", data := .fields #[vl, vu, vs] } } := I4.kept (t' := s4.toks) fun b ob q => Heap.get?_push_of_some _ q
  have lst : ∀ (a : Addr) (xs : List V), x = .ref a → SqL X.K H4 a xs → (∀ its : List Value, Vals xs its → ∃ (ys : List V) (us : List Value), slicePick its.toArray none none (some stp) = us.toArray ∧ Vals ys us ∧ ys.length ≤ xs.length ∧ ∀ p, H4 p = none → Q (.ref p) (upd H4 p (.lst ys))) → stp ≠ 0 →
      wpAny (model X.prog X.w) X.A (subscriptTail e (.Slice none none (some st) p3) v (.ref s4.heap.objs.size)) (EP X pins σ Q) X.xe { s4 with heap := s4.heap.push { cls := .type "slice", data := .fields #[vl, vu, vs] } } := by
    intro a xs ex hx hq h0
    subst ex
    cases r1
    obtain ⟨its, r, ht, hz⟩ := I5.list hx
    obtain ⟨ys, us, e1, r2, hl, q⟩ := hq its r
    refine tail_any (ops := [.ref a, .ref s4.heap.objs.size]) ht.isList.typeIs (PySem.slot_list_getitem.lookup) ?_ (by with_unfolding_all rfl)
    have hlen := r.length
    refine wpAny_getItem_list_slice ht.isList (Heap.IsSliceOf.new _ vl vu vs) pl pu ps (by intro z; exact h0 (Option.some.inj z)) ?_ (by rw [List.size_toArray]; omega)
    rw [e1]
    refine ⟨.ref _, _, I5.laid (t' := s4.toks) (o := .lst ys) (fun b ob q => Heap.get?_push_of_some _ q) (Nat.le_refl _) ?_, rfl, q _ (I5.hok.fresh (Nat.le_refl _))⟩
    exact ⟨by omega, _, 0, r2, Heap.get?_push_size _ rfl⟩
  have tup : ∀ (a : Addr) (xs : List V), x = .ref a → SqT X.K H4 a xs → (∀ its : List Value, Vals xs its → IsTup (s4.heap.push { cls := .type "slice", data := .fields #[vl, vu, vs] }) a its.toArray → wpAny (model X.prog X.w) X.A (getItem (.ref a) (.ref s4.heap.objs.size)) (EP X pins σ Q) X.xe { s4 with heap := s4.heap.push { cls := .type "slice", data := .fields #[vl, vu, vs] } }) →
      wpAny (model X.prog X.w) X.A (subscriptTail e (.Slice none none (some st) p3) v (.ref s4.heap.objs.size)) (EP X pins σ Q) X.xe { s4 with heap := s4.heap.push { cls := .type "slice", data := .fields #[vl, vu, vs] } } := by
    intro a xs ex hx hq
    subst ex
    cases r1
    obtain ⟨its, r, ht, hz⟩ := I5.tuple hx
    exact tail_any (ops := [.ref a, .ref s4.heap.objs.size]) ht.typeIs (PyProof.Rows.slot_tuple_getitem.lookup) (hq its r ht) (by with_unfolding_all rfl)
  have hslv : ∀ its : List Value, vl = .none ∧ vu = .none := fun _ => by
    constructor
    · cases pl; rfl
    · cases pu; rfl
  rcases q4 with ⟨e1, ⟨a, xs, ex, hx, q⟩ | ⟨a, xs, ex, hx, q⟩⟩ | ⟨e1, ⟨a, xs, ex, hx, q⟩ | ⟨a, xs, ex, hx, q⟩⟩
  · subst e1
    exact lst a xs ex hx (fun its r => ⟨xs.reverse, its.reverse, by rw [PySem.W.krv_pick], r.reverse, by rw [List.length_reverse]; exact Nat.le_refl _, q⟩) (by decide)
  · subst e1
    refine tup a xs ex hx fun its r ht => ?_
    obtain ⟨el, eu⟩ := hslv its
    subst el eu
    cases ps with
    | int _ t =>
      obtain ⟨_, _, _, hz⟩ := I5.tuple hx
      have hlen := r.length
      refine getItem_tuple_rev ht (Heap.IsSliceOf.new _ _ _ _) ?_ (by rw [List.size_toArray]; omega)
      exact tp_lay I5 (by rw [List.length_reverse]; exact hz) r.reverse q
  · subst e1
    exact lst a xs ex hx (fun its r => ⟨xs, its, pick_one _, r, Nat.le_refl _, q⟩) (by decide)
  · subst e1
    refine tup a xs ex hx fun its r ht => ?_
    obtain ⟨el, eu⟩ := hslv its
    subst el eu
    cases ps with
    | int _ t =>
      subst ex
      exact getItem_tuple_one ht (Heap.IsSliceOf.new _ _ _ _) ⟨.ref a, H4, I5, rfl, q⟩
/-- over data -/
def dStp (f : Prop) (st : Int) (R : KC) : D → Prop
  | .list xs => (f ∧ (st = 1 ∨ st = -1)) ∧ R 1 (.list (if st = 1 then xs else xs.reverse))
  | .tuple xs => (st = 1 ∨ st = -1) ∧ R 0 (.tuple (if st = 1 then xs else xs.reverse))
  | _ => False
def oStp (r : Res) (o : Option Int) (R : KC) : Prop := match o with
  | some st => dStp (flat r) st R r.d
  | none => False
def oStpA (o : Option Int) : O1 := fun r R => oStp r o R
def fStp (fa : FE) (fs : FO) : FE := fun env R => fa env fun r e1 => fs e1 fun o e2 => okb e2 r ∧ ap1 (oStpA o) r fun k d => R (.v k d) e2
theorem so_stp {K : Fg} {ω : Om} {T : Nat} {H : Hp} {x : V} {r1 : Res} {o : Option Int} {R : KC} {Q : VK} (fr : Free ω T) (v1 : Vw K ω H x r1) (h : oStp r1 o R) (q : Out K ω T H R Q) : ∃ st, o = some st ∧ rStp K x st H Q := by
  cases o with
  | none => exact h.elim
  | some st =>
    refine ⟨st, rfl, ?_⟩
    have h' : dStp (flat r1) st R r1.d := h
    generalize e1 : r1.d = d1 at h'
    cases d1 <;> first
      | exact h'.elim
      | skip
    · obtain ⟨⟨f, h1⟩, hR⟩ := h'
      obtain ⟨a, vs, rfl, hs, ha⟩ := v1.lst f e1
      rcases h1 with h1 | h1
      · subst h1
        exact .inr ⟨rfl, .inl ⟨a, vs, rfl, .inl (.inl hs), fun p hp => q.lst fr hp ha hR⟩⟩
      · subst h1
        exact .inl ⟨rfl, .inl ⟨a, vs, rfl, .inl (.inl hs), fun p hp => q.lst fr hp ha.reverse hR⟩⟩
    · obtain ⟨h1, hR⟩ := h'
      have w := v1.rpT e1
      obtain ⟨a, vs, rfl, hs, ha⟩ := v1.tup e1
      rcases h1 with h1 | h1
      · subst h1
        exact .inr ⟨rfl, .inr ⟨a, vs, rfl, hs, q.same fr w hR⟩⟩
      · subst h1
        exact .inl ⟨rfl, .inr ⟨a, vs, rfl, hs, fun p o hp ho => q.tup fr hp ho ha.reverse hR⟩⟩
theorem se_stp {X : Cx} {e st : Expr} {fa : FE} {fs : FO} {p3 pos : Pos} (ha : SE X e fa) (hs : SP_ X (some st) fs) : SE X (.Subscript e (.Slice none none (some st) p3) pos) (fStp fa fs) := by
  obtain ⟨t, p, s⟩ := ha.ex
  obtain ⟨t1, p1, s1⟩ := hs.ex
  refine ⟨_, pe_stp p p1, fun ω T env σ H R Q rel fre hR q => ?_⟩
  refine s ω T env σ H _ _ rel fre hR fun x H1 ω1 e1 r rel1 st1 fr1 rr1 h1 => ?_
  refine s1 ω1 (T + 1) e1 σ H1 _ _ rel1 fr1 h1 fun o H2 ω2 e2 rel2 st2 fr2 h2 => ?_
  have rr : ResR X.K ω2 H2 σ e2 T x r := by
    cases r with
    | v k d => exact ResR.step (T' := T) rr1 st2
    | b i k d => exact ⟨h2.1, rr1.2⟩
  exact so_stp gc_free (rr.gc rel2 (Nat.le_refl _)) (ap1_cl h2.2) (out_of (rel2.gc T) ((st1.trans st2).gc fre) q)
end Pv

/-! Pg: calls where nothing is being shown; repr. -/
namespace Pv
open PySem PySem.Spec PyProof.Rows L2
/-! ### defs that are called where nothing is being shown (the list of guards is known, and empty): what repr asks for -/
structure FnG (P : Program) (w : World) (K : Fg) (mg : Str → Option Value) (base : Heap) (CX : CXT) (k : Nat) (f : Addr) (fd : FuncData) (ps : List Str) (sp : Sp) : Prop where
  size : ∀ {vs : List V} {H : Hp} {Q : VK} {E : XK}, sp vs H Q E → vs.length = ps.length
  goes : ∀ (B : Around) (fr : List PySem.Env) (t : Shared) (H : Hp) (as : Args) (us : List Value) (vs : List V) (Q : VK) (E : XK), B.guards = some [] → Room k B →
    Env0 P w K mg base B fr t H → BindsTo t fd as (ps.zip us) → Vals vs us → sp vs H Q E →
    codeAny (model P w) B (.call (.ref f) as) (CR CX fr P w H t Q E) t
section
variable {P : Program} {w : World} {K : Fg} {mg : Str → Option Value} {base : Heap} {CX : CXT} {k : Nat} {f : Addr} {fd : FuncData} {ps : List Str} {sp : Sp}
theorem FnG.mono {j : Nat} (F : FnG P w K mg base CX j f fd ps sp) (h : j ≤ k) : FnG P w K mg base CX k f fd ps sp :=
  ⟨F.size, fun B fr t H as us vs Q E hG hr => F.goes B fr t H as us vs Q E hG (hr.mono h)⟩
theorem FnG.imp {sp' : Sp} (F : FnG P w K mg base CX k f fd ps sp) (h : ∀ vs H Q E, sp' vs H Q E → sp vs H Q E) : FnG P w K mg base CX k f fd ps sp' :=
  ⟨fun q => F.size (h _ _ _ _ q), fun B fr t H as us vs Q E hG hr a b c q => F.goes B fr t H as us vs Q E hG hr a b c (h _ _ _ _ q)⟩
/-- THE RULE of a def there -/
theorem fng_of {x qual : Str} {st : Stmt} {N : List Str} (F : Fun K x qual st f fd) (S : FnScope N ps (defScope st)) (hsz : ∀ vs H Q E, sp vs H Q E → vs.length = ps.length)
    (hbody : ∀ (cdv : Value), fd.code = cdv → ∀ (B : Around) (fr : List PySem.Env) (t : Shared) (H : Hp) (vs : List V) (Q : VK) (E : XK),
      Room k (B.deeper (envOfC qual (defScope st) t.heap.objs.size f cdv)) → (B.deeper (envOfC qual (defScope st) t.heap.objs.size f cdv)).guards = some [] → sp vs H Q E →
      ∃ g, PSs (cxOf CX0 P w K mg base N qual (defScope st) f cdv B fr t H E).nox (defBody st) g ∧ g { nx := fun _ H' => Q .non H', rt := Q } (L2.start N vs) H) : FnG P w K mg base CX0 (k + 1) f fd ps sp := by
  obtain ⟨oc, od, kV, doc, pm, an, cdv, ct, osl, rfl, lk, hcd⟩ := F.ex
  refine ⟨fun q => hsz _ _ _ _ q, fun B fr t H as us vs Q E hG room en bd rv hs => ?_⟩
  have two := hsz _ _ _ _ hs
  have keep : ∀ b o, base.get? b = some o → t.heap.get? b = some o := fun b o q => (en.bs b o q).1
  have inK : K.In t.heap := en.mod.kin.keeps keep
  have free : t.heap.NoLimit := en.mod.nolimit.keeps keep
  have kinds : ∀ y ∈ ps.zip us, (defScope st).names.lookup y.1 = some .local ∨ ((defScope st).names.lookup y.1 = some .cell ∧ ((cellsFrom (t.heap.objs.size + 1) (defScope st).names []).lookup y.1).isSome = true) := by
    intro y hy
    have hp : y.1 ∈ ps := (List.of_mem_zip (a := y.1) (b := y.2) hy).1
    cases S.par y.1 hp with
    | inl q => exact .inl q
    | inr q => exact .inr ⟨q, PySem.W.cellsFrom_some _ _ _ (.inl q)⟩
  apply codeAny_call_function room.depth (inK _ _ lk) rfl S.co S.gen rfl (PySem.W.codeRec_of inK hcd)
  apply bd
  apply wpAny_newFunctionEnv_cells S.kind kinds
  intro env he t1 ic
  subst he
  refine ⟨free.keeps ic.toInCall.keep, ?_⟩
  apply codeAny_func
  obtain ⟨g, hg, hq⟩ := hbody cdv rfl B fr t H vs Q E (room.deeper _) hG hs
  have J0 := inv_start (CX := CX0) (P := P) (w := w) (K := K) (mg := mg) (base := base) (cd := cdv) (E := E) S room.hd en two rv ic
  apply wpAny_mono (hg.nox.run [] t1 (L2.start N vs) H _ J0 hq)
  · intro fl t2 e
    have fin : ∀ {σ' : L2.St} {H' : Hp} {v : V} {u : Value}, Inv (cxOf CX0 P w K mg base N qual (defScope st) f cdv B fr t H E) [] σ' H' t2 → RelV v u → Q v H' → CE fr P w H t Q u t2 := by
      intro σ' H' v u J rv2 q
      exact ⟨v, H', J.os, J.bare, J.base, J.hok, rv2, q⟩
    match fl, e with
    | .ret u, e =>
      obtain ⟨v, σ', H', J, rv2, q⟩ := e
      exact fin J rv2 q
    | .next, e =>
      obtain ⟨σ', H', J, q⟩ := e
      exact fin (v := V.non) (u := Value.none) J rfl q
    | .brk, e =>
      obtain ⟨_, _, _, q⟩ := e
      exact q.elim
    | .cont, e =>
      obtain ⟨_, _, _, q⟩ := e
      exact q.elim
  · intro e t2 q
    exact q
end
section
variable {X : Cx} {k n : Nat} {f : Addr} {fd : FuncData} {ps ks : List Str} {sp : Sp} {x : Str} {p pos : Pos} {e : Expr} {es : List Expr} {kws : List Keyword} {t tk : TA} {g : List Value → List Value → List Value} {gV : List V → List V → List V}
/-- the callee runs -/
theorem run_g {pins : List (Addr × Obj)} {σ : L2.St} {H : Hp} {s : Shared} {Q : VK} {us vu : List Value} {vs : List V} {kv : List (Str × Value)} (F : FnG X.prog X.w X.K X.mg X.base CX0 k f fd ps sp) (hG : X.A.guards = some []) (hr : Room k X.A)
    (J : Inv X pins σ H s) (bd : BindsTo s fd ⟨us, kv⟩ (ps.zip vu)) (rv : Vals vs vu) (q : sp vs H Q fun _ _ _ => False) : wpAny (model X.prog X.w) X.A (call (.ref f) us kv) (EP X pins σ Q) X.xe s := by
  apply wpAny_call
  apply codeAny_mono (F.goes X.A X.stack s H _ _ _ _ _ hG hr J.env0 bd rv q)
  intro r s' h
  match r, h with
  | .ok (.ret u), h => exact J.after h
  | .ok .next, h => exact h.elim
  | .ok .brk, h => exact h.elim
  | .ok .cont, h => exact h.elim
  | .error _, h => exact h.elim
theorem pe_g (F : FnG X.prog X.w X.K X.mg X.base CX0 k f fd ps sp) (hG : X.A.guards = some []) (hr : Room k X.A) (hg : Gl X x) (hm : X.mg x = some (.ref f)) (hk : PySem.W.keepIn X.K (.ref f) = true) (hb : Binds X.K fd ps [])
    (ha : PA X (e :: es) t) (hdb : (x == ("__debug__" : Str)) = false) (he : starEach (e :: es) X.env = (false, eval e X.env) :: starEach es X.env) (hpl : (backTo pos (starEach es X.env)).any (·.1) = false) :
    PE X (.Call (.Name x p) (e :: es) [] pos) (tCall sp [] (fun _ _ _ => False) t) := by
  constructor
  intro pins s σ H Q J h
  apply wpAny_Call_Name_kw
  apply ld_glob J hg hm _ hdb
  refine PySem.W.callWith_K (h₀ := X.base) J.ok.mod.kin hk (thn (ha.run pos pins s σ H _ J h) ?_) he hpl
  rintro us s1 ⟨vs, H1, J1, rv, q⟩
  refine ⟨J1.kIn, ?_⟩
  have q1 : sp (vs ++ []) H1 Q (fun _ _ _ => False) := q
  rw [List.append_nil] at q1
  have l1 : (us ++ []).length = ps.length := by rw [List.append_nil, ← rv.length]; exact F.size q1
  have bd := hb s1 us J1.kIn l1
  rw [List.append_nil] at bd
  exact run_g F hG hr J1 bd rv q1
/-- f(k = v, ..) -/
theorem pe_gN0 (F : FnG X.prog X.w X.K X.mg X.base CX0 k f fd ps sp) (hG : X.A.guards = some []) (hr : Room k X.A) (hg : Gl X x) (hm : X.mg x = some (.ref f)) (hk : PySem.W.keepIn X.K (.ref f) = true) (hb : KBn X.K fd ps 0 ks g gV)
    (hkw : PK X kws tk) (hall : (backToKw pos (keywordEach kws X.env)).all (·.1.isSome) = true) (hks : (backToKw pos (keywordEach kws X.env)).filterMap (·.1) = ks)
    (hdb : (x == ("__debug__" : Str)) = false) (hpl : ((backTo pos (starEach [] X.env)).any (·.1) || (backToKw pos (keywordEach kws X.env)).any (·.1.isNone)) = false) :
    PE X (.Call (.Name x p) [] kws pos) (tCallN 0 ks.length sp gV (fun _ _ _ => False) tNil tk) := by
  constructor
  intro pins s σ H Q J h
  apply wpAny_Call_Name_kw
  apply ld_glob J hg hm _ hdb
  refine PySem.W.callWith_KW0 (h₀ := X.base) J.ok.mod.kin hk hall ?_ hpl
  have h' : tk σ H (fun zs H2 => ([] : List V).length = 0 ∧ zs.length = ks.length ∧ sp (gV [] zs) H2 Q fun _ _ _ => False) := h
  refine thn (hkw.run pos pins s σ H _ J h') ?_
  rintro ws s2 ⟨zs, H2, J2, rz, l1, l2, q2⟩
  refine ⟨J2.kIn, ?_⟩
  rw [hks]
  exact run_g F hG hr J2 (hb.to s2 [] ws J2.kIn rfl (rz.length.symm.trans l2)) (hb.rel .nil rz) q2
end
/-! ### the law's own call, with the list of guards known -/
section
variable {P : Program} {w : World} {K : Fg} {mg mb : Str → Option Value} {k : Nat} {fa a : Addr} {fd : FuncData} {x : Str} {sp : Sp} {t : Shared} {vs : List Value} {ns : List Int}
theorem hid_ns {H : Hp} (one : ∀ b, H b ≠ none → b = a) (ha : t.heap.get? a = some { cls := .type "list", data := .seq vs.toArray }) {b : Addr} {m : Str → Option Value} (h : t.heap.Ns b m) : (hidT t.heap H).Ns b m := by
  obtain ⟨o, es, ep, e, d, r⟩ := h
  refine ⟨o, es, ep, hidT_get e ?_, d, r⟩
  cases q : H b with
  | none => rfl
  | some u =>
    have eb := one b (by rw [q]; exact nofun)
    subst eb
    rw [ha] at e
    cases e
    have d2 : Data.seq vs.toArray _ = Data.dict es ep := d
    cases d2
theorem top_g {H : Hp} (inK : K.In t.heap) (n1 : t.heap.Ns mainGlobals mg) (n2 : t.heap.Ns builtinsNs mb) (n3 : ∀ x : Str, x ≠ "__name__" → mb x = bootBuiltins x) (n4 : t.heap.NoLimit) (n5 : t.gens = #[])
    (ha : t.heap.get? a = some { cls := .type "list", data := .seq vs.toArray }) (only : Only H) (ok : HOk P w H t.heap) (one : ∀ b, H b ≠ none → b = a) (kn : H a ≠ none → K.lookup a = none) (room : Room k callerA)
    (F : ∀ base : Heap, K.In base → base.Ns mainGlobals mg → FnG P w K mg base CX0 k fa fd [x] sp) (bd : BindsTo t fd ⟨[.ref a], []⟩ [(x, .ref a)])
    (q : sp [.ref a] H (fun v _ => v = .bl true) fun _ _ _ => False) :
    codeAny (model P w) callerA (.call (.ref fa) ⟨[.ref a], []⟩) (fun r t2 => r = .ok (.ret (.bool true)) ∧ OldK t.heap t2.heap ∧ t2.os = t.os ∧ AllBare t2.gens) t := by
  have clear : ∀ b o, K.lookup b = some o → H b = none := by
    intro b o e
    cases z : H b with
    | none => rfl
    | some u =>
      have eb := one b (by rw [z]; exact nofun)
      subst eb
      rw [kn (by rw [z]; exact nofun)] at e
      cases e
  have inB : K.In (hidT t.heap H) := fun b o e => hidT_get (inK b o e) (clear b o e)
  have g1 := hid_ns one ha n1
  have md : Mod K mg (hidT t.heap H) := by
    obtain ⟨mc, c1, c2⟩ := n4
    exact ⟨inB, g1, ⟨mb, hid_ns one ha n2, n3⟩, mc, hid_ns one ha c1, c2⟩
  have en : Env0 P w K mg (hidT t.heap H) callerA [] t H :=
    { frames := rfl, mod := md, bs := fun b o e => of_hidT e, bsz := Nat.le_of_eq (hidT_size _ _), funs := trivial, frf := fun b hb => (List.not_mem_nil (show b ∈ ([] : List Addr) from hb)).elim, hok := ok, bare := .of_eq n5 }
  apply codeAny_mono ((F _ inB g1).goes callerA [] t H _ [.ref a] [.ref a] _ _ rfl room en bd (.cons rfl .nil) q)
  intro r t2 h
  match r, h with
  | .error _, h => exact h.elim
  | .ok .next, h => exact h.elim
  | .ok .brk, h => exact h.elim
  | .ok .cont, h => exact h.elim
  | .ok (.ret u), h =>
    obtain ⟨v, H', os, bare, un, ok2, rv, hv⟩ := h
    have hv2 : v = .bl true := hv
    subst hv2
    have hu : u = Value.bool true := rv
    subst hu
    refine ⟨rfl, OldK.of_keep ?_, os, bare⟩
    intro b o e
    rcases only b with z | ⟨ob, xs, z⟩
    · exact un.keep b o e z (fun c => List.not_mem_nil (show b ∈ ([] : List Addr) from c)) (by simp)
    · have k1 := (ok b _ z).1
      have k2 := (ok2 b _ (un.frzs b ob _ z)).1
      rw [e] at k1
      cases k1
      exact k2
/-- the goal that k_head leaves, from the law's promise -/
theorem walk_g {l : PySem.W.OpenLaw} {n : Nat} {q : Program} {loose : List Str} {XP : (Str → Option Value) → Heap → Prop} {YP : World → Heap → Prop} {d : DefRec} {KP : Params → Fg} {spw : World → Sp}
    (m1 : l.most = some n) (m2 : n ≤ sizeLine) (df : d.params.defaults = []) (room : Room k callerA) (yp : ∀ (w : World) (h : Heap), YP w h → (KP w.params).In h)
    (F : ∀ (w : World) (mg : Str → Option Value) (fa : Addr) (h : Heap), (KP w.params).In h → h.Ns mainGlobals mg → mg d.name = some (.ref fa) →
      ∃ fd : FuncData, (∀ (s : Shared) (u : Value), BindsTo s fd ⟨[u], []⟩ [(x, u)]) ∧ ∀ base : Heap, (KP w.params).In base → base.Ns mainGlobals mg → FnG l.prog w (KP w.params) mg base CX0 k fa fd [x] (spw w))
    (asks : ∀ (w : World) (H : Hp) (a : Addr) (ns : List Int), ns.length ≤ n → Only H → SqL (KP w.params) H a (ns.map V.int) → spw w [.ref a] H (fun v _ => v = .bl true) fun _ _ _ => False) :
    PySem.W.WalkO q loose XP YP l.row.toRowW d [] (fun f vs => PySem.call f vs) := by
  apply Att.attach_call m1 df
  intro w s0 t mg mb fa o pm cd doc a vs ns G Y ho hd hcd hmg ha hit hl hg
  have inK := yp w _ Y
  obtain ⟨fd, bd, hF⟩ := F w mg fa _ inK G.T.g hmg
  have rv := vals_ints hit
  have len := hit.length
  cases hk : (KP w.params).lookup a with
  | none =>
    have at_ : (fun b => if b = a then some (HO.frz { cls := .type "list", data := .seq vs.toArray } (.lst (ns.map V.int))) else none : Hp) a = some (HO.frz { cls := .type "list", data := .seq vs.toArray } (.lst (ns.map V.int))) := if_pos rfl
    have off : ∀ b, b ≠ a → (fun b => if b = a then some (HO.frz { cls := .type "list", data := .seq vs.toArray } (.lst (ns.map V.int))) else none : Hp) b = none := fun b hb => if_neg hb
    generalize (fun b => if b = a then some (HO.frz { cls := .type "list", data := .seq vs.toArray } (.lst (ns.map V.int))) else none : Hp) = H at at_ off
    have only : Only H := fun b => if hb : b = a then .inr ⟨_, _, hb ▸ at_⟩ else .inl (off b hb)
    refine top_g inK G.T.g G.T.b G.T.builtins G.T.nolimit hg ha only ?_ ?_ (fun _ => hk) room hF (bd t _) (asks w H a ns hl only (.inl (.inr ⟨_, at_⟩)))
    · intro b u z
      by_cases hb : b = a
      · subst hb
        rw [at_] at z
        cases z
        exact ⟨ha, by rw [List.length_map]; exact Nat.le_trans hl m2, vs, _, rv, ha⟩
      · rw [off b hb] at z
        cases z
    · intro b z
      exact Classical.byContradiction fun hb => z (off b hb)
  | some o =>
    have e := inK a o hk
    rw [ha] at e
    cases e
    have only : Only (fun _ => none) := fun _ => .inl rfl
    refine top_g inK G.T.g G.T.b G.T.builtins G.T.nolimit hg ha only ?_ (fun b z => absurd rfl z) (fun z => absurd rfl z) room hF (bd t _) (asks w _ a ns hl only (.inr ⟨_, vs.toArray, _, hk, rfl, rfl, rfl, ?_, by simpa using rv⟩))
    · intro b u z
      have z2 : (none : Option HO) = some u := z
      cases z2
    · rw [List.size_toArray, len]
      exact Nat.le_trans hl m2
end
/-! ### repr(..) -/
/-- what repr may be asked of -/
def RepD (d : D) : Prop := d.canLay0 = true ∧ d.showable = true ∧ d.depth ≤ 60 ∧ d.shown.length ≤ sizeLine
def oRepr : O1 := fun r R => RepD r.d ∧ R 0 (.str r.d.shown)
section
variable {X : Cx}
theorem cr_repr {k : Nat} (hr : Room k X.A) (hG : X.A.guards = some []) : CallR X (.builtin "repr") (fun xs H Q => ∃ x d, xs = [x] ∧ Dp X.K H x d ∧ RepD d ∧ Q (.str d.shown) H) := by
  intro pins s σ H xs us Q J rv h
  obtain ⟨x, d, rfl, hd, ⟨h0, h1, h2, h3⟩, q⟩ := h
  obtain ⟨u, rfl, ru⟩ := vals1 rv
  have go : ∀ a, x = .ref a → wpAny (model X.prog X.w) X.A (call (.builtin "repr") [u]) (fun v s' => ∃ y H', Inv X pins σ H' s' ∧ RelV y v ∧ Q y H') X.xe s := by
    intro a e
    subst e
    cases ru
    obtain ⟨as, r⟩ := Dp.reads J d _ _ hd rfl
    have nd := PyData.hasDict_of_canLay d h0
    exact repr_of_reads' r h1 (fun h' => by rw [nd] at h'; cases h') hG (by have := hu64 hr; omega) (fun b o e => e) (fun h' u tk hk => ⟨.str d.shown, H, J.kept hk, ⟨u, rfl⟩, q⟩) h3
  cases d with
  | none =>
    cases hd
    cases ru
    exact PySem.P.repr_of_none ⟨.str _, H, J.tok _, ⟨_, rfl⟩, q⟩
  | bool b =>
    cases hd
    cases ru
    exact PySem.P.repr_of_bool ⟨.str _, H, J.tok _, ⟨_, rfl⟩, by cases b <;> exact q⟩
  | int i =>
    cases hd
    obtain ⟨t, rfl⟩ := ru
    exact PySem.P.repr_of_int (of_decide_eq_true h1) ⟨.str _, H, J.tok _, ⟨_, rfl⟩, q⟩
  | str z =>
    cases hd
    obtain ⟨t, rfl⟩ := ru
    exact PySem.P.repr_of_str ⟨.str _, H, J.tok _, ⟨_, rfl⟩, q⟩ h3
  | list ds => cases hd; exact go _ rfl
  | tuple ds => cases hd; exact go _ rfl
  | dict kvs => cases h0
theorem so_repr {K : Fg} : SndO1 K (fun x H Q => ∃ d, Dp K H x d ∧ RepD d ∧ Q (.str d.shown) H) oRepr := by
  intro ω T H x r R Q fr v h q
  exact ⟨r.d, v.dp h.1.1, h.1, q.str fr h.2⟩
variable {e : Expr} {fa : FA} {p pos : Pos}
theorem se_repr {k : Nat} (hr : Room k X.A) (hG : X.A.guards = some []) (hm : X.mg "repr" = none) (ha : SA X [e] fa) (hg : Gl X "repr" := by rfl) (he : starEach [e] X.env = [(false, eval e X.env)] := by rfl) : SE X (.Call (.Name "repr" p) [e] [] pos) (fOpN (at1 oRepr) fa) :=
  se_callB (cimp (cr_repr hr hG) fun xs H Q ⟨x, e, d, h1, h2, h3⟩ => ⟨x, d, e, h1, h2, h3⟩) (so_at1 so_repr) (id := "repr") (by decide +kernel) hm ha hg (by decide) (by decide) he rfl
end
end Pv

/-! Pv6: a def's promise over data, and its call. -/
namespace Pv
open PySem PySem.Spec PyProof.Rows L2

/-- what a def does: from its arguments' cells, what it hands back and what its written parameters hold then -/
abbrev Phi := List Cell → (Cell → List Cell → Prop) → Prop
/-- arguments: written ones (true) are the slot's own, others are shared -/
def ArgR (K : Fg) (ω : Om) (H : Hp) : Nat → List V → List Bool → List Cell → Prop
  | _, [], [], [] => True
  | j, v :: vs, true :: ms, c :: cs => OwR K ω H c.k (Ow.own j) [] v c.d ∧ ArgR K ω H (j + 1) vs ms cs
  | j, v :: vs, false :: ms, c :: cs => (c.k = 0 ∧ Rp K ω H v c.d) ∧ ArgR K ω H (j + 1) vs ms cs
  | _, _, _, _ => False
def IoOut (K : Fg) (ω : Om) (H : Hp) : Nat → List V → List Bool → List Cell → Prop
  | _, [], [], [] => True
  | j, v :: vs, true :: ms, c :: cs => OwR K ω H c.k (Ow.own j) [] v c.d ∧ IoOut K ω H (j + 1) vs ms cs
  | j, _ :: vs, false :: ms, cs => IoOut K ω H (j + 1) vs ms cs
  | _, _, _, _ => False
def spOf (K : Fg) (ms : List Bool) (φ : Phi) : Sp := fun vs H Q _ => ∃ (ω : Om) (args : List Cell) (R : Cell → List Cell → Prop),
  ArgR K ω H 0 vs ms args ∧ (Tabs K ω H ∧ Free ω 0) ∧ φ args R ∧
  ∀ v H' ω' c ios, (Tabs K ω' H' ∧ Step ω H ω' H') → IoOut K ω' H' 0 vs ms ios → OwR K ω' H' c.k (Ow.tmp 0) [] v c.d → R c ios → Q v H'
section
variable {K : Fg} {ω : Om} {H : Hp}
theorem ArgR.length : ∀ {j : Nat} {vs : List V} {ms : List Bool} {cs : List Cell}, ArgR K ω H j vs ms cs → vs.length = ms.length ∧ cs.length = vs.length
  | _, [], [], [], _ => ⟨rfl, rfl⟩
  | _, [], [], _ :: _, h => h.elim
  | _, [], _ :: _, _, h => h.elim
  | _, _ :: _, [], _, h => h.elim
  | _, _ :: _, true :: _, [], h => h.elim
  | _, _ :: _, false :: _, [], h => h.elim
  | _, _ :: _, true :: _, _ :: _, h => by have := ArgR.length h.2; simp [this.1, this.2]
  | _, _ :: _, false :: _, _ :: _, h => by have := ArgR.length h.2; simp [this.1, this.2]
theorem spOf_len {ms : List Bool} {φ : Phi} {vs : List V} {Q : VK} {E : XK} (h : spOf K ms φ vs H Q E) : vs.length = ms.length := by
  obtain ⟨_, _, _, h, _⟩ := h
  exact h.length.1
end

/-! ### the arguments of a call -/
def mkArgs : List Bool → List Res → Option (List Cell)
  | [], [] => some []
  | false :: ms, .v _ d :: rs => match mkArgs ms rs with
    | some cs => some (sh d :: cs)
    | none => none
  | true :: ms, .b _ k d :: rs => match mkArgs ms rs with
    | some cs => some (⟨k, d⟩ :: cs)
    | none => none
  | true :: ms, .v (k + 1) d :: rs => match mkArgs ms rs with
    | some cs => some (⟨k + 1, d⟩ :: cs)
    | none => none
  | _, _ => none
def ioIx : List Bool → List Res → List Nat
  | true :: ms, .b i _ _ :: rs => i :: ioIx ms rs
  | _ :: ms, _ :: rs => ioIx ms rs
  | _, _ => []
def distinct : List Nat → Bool
  | [] => true
  | i :: is => !is.contains i && distinct is
def putIos (env : Env) : List Bool → List Res → List Cell → Env
  | true :: ms, .b i _ _ :: rs, c :: cs => (putIos env ms rs cs).set i (some c)
  | true :: ms, .v _ _ :: rs, _ :: cs => putIos env ms rs cs
  | false :: ms, _ :: rs, cs => putIos env ms rs cs
  | _, _, _ => env
/-- a promise that is looked at as a whole -/
@[irreducible] def apP (φ : Phi) (args : List Cell) (R : Cell → List Cell → Prop) : Prop := φ args R
theorem apP_eq {φ : Phi} {args : List Cell} {R : Cell → List Cell → Prop} : apP φ args R = φ args R := by unfold apP; rfl
theorem apP_op {φ : Phi} {args : List Cell} {R : Cell → List Cell → Prop} (h : φ args R) : apP φ args R := by rw [apP_eq]; exact h
theorem apP_cl {φ : Phi} {args : List Cell} {R : Cell → List Cell → Prop} (h : apP φ args R) : φ args R := by rw [apP_eq] at h; exact h
def fCall (ms : List Bool) (φ : Phi) (fa : FA) : FE := fun env R => fa env fun rs e => distinct (ioIx ms rs) = true ∧
  match mkArgs ms rs with
  | some args => apP φ args fun c ios => R (.v c.k c.d) (putIos e ms rs ios)
  | none => False
/-- the place of a slot among the written arguments -/
def posOf : Nat → List Bool → List Res → Nat → Option Nat
  | j, true :: ms, .b i' _ _ :: rs, i => if i' = i then some j else posOf (j + 1) ms rs i
  | j, _ :: ms, _ :: rs, i => posOf (j + 1) ms rs i
  | _, _, _, _ => none
theorem distinct_mem : ∀ {ms : List Bool} {rs : List Res} {n i k : Nat} {d : D}, ms[n]? = some true → rs[n]? = some (.b i k d) → i ∈ ioIx ms rs
  | true :: ms, .b i' _ _ :: rs, 0, i, k, d, _, h => by
    have e := Option.some.inj h
    cases e
    exact List.mem_cons_self
  | true :: ms, .b i' _ _ :: rs, n + 1, i, k, d, h1, h2 => List.mem_cons_of_mem _ (distinct_mem (n := n) (by simpa using h1) (by simpa using h2))
  | true :: ms, .v _ _ :: rs, n + 1, i, k, d, h1, h2 => by
    unfold ioIx
    exact distinct_mem (n := n) (by simpa using h1) (by simpa using h2)
  | false :: ms, _ :: rs, n + 1, i, k, d, h1, h2 => by
    unfold ioIx
    exact distinct_mem (n := n) (by simpa using h1) (by simpa using h2)
  | true :: _, .v _ _ :: _, 0, _, _, _, _, h => by cases h
  | false :: _, _ :: _, 0, _, _, _, h, _ => by cases h
  | [], _, _, _, _, _, h, _ => by simp at h
  | _ :: _, [], _, _, _, _, _, h => by simp at h
theorem posOf_hit : ∀ {ms : List Bool} {rs : List Res} {n i k j0 : Nat} {d : D}, distinct (ioIx ms rs) = true → ms[n]? = some true → rs[n]? = some (.b i k d) → posOf j0 ms rs i = some (j0 + n)
  | true :: ms, .b i' _ _ :: rs, 0, i, k, j0, d, _, _, h => by
    have e := Option.some.inj h
    cases e
    unfold posOf
    rw [if_pos rfl]
    rfl
  | true :: ms, .b i' _ _ :: rs, n + 1, i, k, j0, d, hd, h1, h2 => by
    have hd' : (!(ioIx ms rs).contains i' && distinct (ioIx ms rs)) = true := hd
    rw [Bool.and_eq_true] at hd'
    have hm := distinct_mem (n := n) (ms := ms) (rs := rs) (by simpa using h1) (by simpa using h2)
    have ne : i' ≠ i := fun e => by
      subst e
      have : (ioIx ms rs).contains i' = true := List.contains_iff_mem.mpr hm
      rw [this] at hd'
      exact absurd hd'.1 (by decide)
    unfold posOf
    rw [if_neg ne, posOf_hit (n := n) hd'.2 (by simpa using h1) (by simpa using h2)]
    congr 1
    omega
  | true :: ms, .v _ _ :: rs, n + 1, i, k, j0, d, hd, h1, h2 => by
    unfold posOf
    unfold ioIx at hd
    rw [posOf_hit (n := n) hd (by simpa using h1) (by simpa using h2)]
    congr 1
    omega
  | false :: ms, _ :: rs, n + 1, i, k, j0, d, hd, h1, h2 => by
    unfold posOf
    unfold ioIx at hd
    rw [posOf_hit (n := n) hd (by simpa using h1) (by simpa using h2)]
    congr 1
    omega
  | true :: _, .v _ _ :: _, 0, _, _, _, _, _, _, h => by cases h
  | false :: _, _ :: _, 0, _, _, _, _, _, h, _ => by cases h
  | [], _, _, _, _, _, _, _, h, _ => by simp at h
  | _ :: _, [], _, _, _, _, _, _, _, h => by simp at h
/-- the owners, as the callee sees them -/
def inO (T : Nat) (ms : List Bool) (rs : List Res) : Ow → Ow
  | .shr => .shr
  | .far => .far
  | .tab => .tab
  | .own i p => match posOf 0 ms rs i with
    | some j => .own j p
    | none => .far
  | .tmp t p => if t < T then .far else match ms[t - T]? with
    | some true => .own (t - T) p
    | _ => .shr
/-- .. and back -/
def outO (T : Nat) (rs : List Res) (ω : Om) (ω' : Om) : Om := fun a => match ω' a with
  | .shr => .shr
  | .tab => .tab
  | .own j p => match rs[j]? with
    | some (.b i _ _) => .own i p
    | _ => .shr
  | .tmp t p => if t = 0 then .tmp T p else .shr
  | .far => gcO T (ω a)
section
variable {K : Fg} {ω : Om} {H : Hp} {σ : Sg} {env : Env} {T : Nat}
theorem args_in (rel : Rel K ω env σ H) (MS : List Bool) (RS : List Res) (hd : distinct (ioIx MS RS) = true) : ∀ {ms : List Bool} {rs : List Res} {vs : List V} {cs : List Cell} (j : Nat), (∀ n, ms[n]? = MS[j + n]?) → (∀ n, rs[n]? = RS[j + n]?) →
    ResAll K ω H σ env (T + j) vs rs → mkArgs ms rs = some cs → ArgR K (ren (inO T MS RS) ω) H j vs ms cs := by
  have gsh : Sh ω H (ren (inO T MS RS) ω) H := fun a o h e => ⟨h, by show inO T MS RS (ω a) = _; rw [e]; rfl⟩
  intro ms
  induction ms with
  | nil =>
    intro rs vs cs j hm hr hA hk
    cases rs with
    | nil =>
      cases vs with
      | nil => cases hk; trivial
      | cons _ _ => exact hA.elim
    | cons _ _ => cases hk
  | cons m ms ih =>
    intro rs vs cs j hm hr hA hk
    cases rs with
    | nil => cases m <;> cases hk
    | cons r rs =>
      cases vs with
      | nil => exact hA.elim
      | cons v vs =>
        obtain ⟨h1, h2⟩ := hA
        have hm0 : MS[j]? = some m := (hm 0).symm
        have hr0 : RS[j]? = some r := (hr 0).symm
        have hm' : ∀ n, ms[n]? = MS[j + 1 + n]? := fun n => by
          have := hm (n + 1)
          rw [List.getElem?_cons_succ] at this
          rw [this]; congr 1; omega
        have hr' : ∀ n, rs[n]? = RS[j + 1 + n]? := fun n => by
          have := hr (n + 1)
          rw [List.getElem?_cons_succ] at this
          rw [this]; congr 1; omega
        cases m with
        | false =>
          cases r with
          | b _ _ _ => cases hk
          | v k d =>
            unfold mkArgs at hk
            cases hk2 : mkArgs ms rs with
            | none => rw [hk2] at hk; cases hk
            | some cs' =>
              rw [hk2] at hk
              cases hk
              refine ⟨⟨rfl, OwR.fz gsh (fun a u p z1 z2 => ⟨z1, ?_⟩) _ _ _ _ h1⟩, ih (j + 1) hm' hr' h2 hk2⟩
              show inO T MS RS (ω a) = _
              rw [z2]
              show (if T + j < T then Ow.far else _) = _
              rw [if_neg (by omega), show T + j - T = j by omega, hm0]
        | true =>
          cases r with
          | b i k d =>
            unfold mkArgs at hk
            cases hk2 : mkArgs ms rs with
            | none => rw [hk2] at hk; cases hk
            | some cs' =>
              rw [hk2] at hk
              cases hk
              obtain ⟨v', hv, ho⟩ := rel.cell i _ h1.1
              have ev : v' = v := Option.some.inj (Option.some.inj (hv.symm.trans h1.2))
              subst ev
              refine ⟨OwR.go gsh (fun a u p z1 z2 => ⟨z1, ?_⟩) _ _ _ _ ho, ih (j + 1) hm' hr' h2 hk2⟩
              show inO T MS RS (ω a) = _
              rw [z2]
              show (match posOf 0 MS RS i with | some j => Ow.own j p | none => Ow.far) = _
              rw [posOf_hit hd hm0 hr0, Nat.zero_add]
          | v k d =>
            cases k with
            | zero => cases hk
            | succ k =>
              unfold mkArgs at hk
              cases hk2 : mkArgs ms rs with
              | none => rw [hk2] at hk; cases hk
              | some cs' =>
                rw [hk2] at hk
                cases hk
                refine ⟨OwR.go gsh (fun a u p z1 z2 => ⟨z1, ?_⟩) _ _ _ _ h1, ih (j + 1) hm' hr' h2 hk2⟩
                show inO T MS RS (ω a) = _
                rw [z2]
                show (if T + j < T then Ow.far else _) = _
                rw [if_neg (by omega), show T + j - T = j by omega, hm0]
/-- the last of the written arguments at a slot -/
def lookIo : List Bool → List Res → List Cell → Nat → Option Cell
  | true :: ms, .b i' _ _ :: rs, c :: cs, i => if i' = i then some c else lookIo ms rs cs i
  | true :: ms, .v _ _ :: rs, _ :: cs, i => lookIo ms rs cs i
  | false :: ms, _ :: rs, cs, i => lookIo ms rs cs i
  | _, _, _, _ => none
theorem put_len : ∀ {ms : List Bool} {rs : List Res} {cs : List Cell}, (putIos env ms rs cs).length = env.length
  | true :: ms, .b i _ _ :: rs, c :: cs => by unfold putIos; rw [List.length_set]; exact put_len
  | true :: ms, .v _ _ :: rs, _ :: cs => by unfold putIos; exact put_len
  | false :: ms, _ :: rs, cs => by unfold putIos; exact put_len
  | [], _, _ => by unfold putIos; rfl
  | true :: _, [], _ => by unfold putIos; rfl
  | true :: _, .b _ _ _ :: _, [] => by unfold putIos; rfl
  | true :: _, .v _ _ :: _, [] => by unfold putIos; rfl
  | false :: _, [], _ => by unfold putIos; rfl
theorem put_get : ∀ {ms : List Bool} {rs : List Res} {cs : List Cell} {i : Nat} {c : Cell}, (putIos env ms rs cs)[i]? = some (some c) → lookIo ms rs cs i = some c ∨ (lookIo ms rs cs i = none ∧ env[i]? = some (some c))
  | true :: ms, .b i' _ _ :: rs, c' :: cs, i, c, h => by
    unfold putIos at h
    unfold lookIo
    by_cases e : i' = i
    · rw [if_pos e]
      subst e
      have hl : i' < (putIos env ms rs cs).length := by
        have := (List.getElem?_eq_some_iff.mp h).1
        rwa [List.length_set] at this
      rw [List.getElem?_set_self hl] at h
      exact .inl (Option.some.inj h)
    · rw [if_neg e]
      rw [List.getElem?_set_ne e] at h
      exact put_get h
  | true :: ms, .v _ _ :: rs, _ :: cs, i, c, h => by
    unfold putIos at h
    unfold lookIo
    exact put_get h
  | false :: ms, _ :: rs, cs, i, c, h => by
    unfold putIos at h
    unfold lookIo
    exact put_get h
  | [], _, _, _, _, h => .inr ⟨rfl, h⟩
  | true :: _, [], _, _, _, h => .inr ⟨rfl, h⟩
  | true :: _, .b _ _ _ :: _, [], _, _, h => .inr ⟨rfl, h⟩
  | true :: _, .v _ _ :: _, [], _, _, h => .inr ⟨rfl, h⟩
  | false :: _, [], _, _, _, h => .inr ⟨rfl, h⟩
theorem look_io {K : Fg} {ω : Om} {H : Hp} : ∀ {ms : List Bool} {rs : List Res} {vs : List V} {cs : List Cell} {i : Nat} {c : Cell} (j : Nat), IoOut K ω H j vs ms cs → lookIo ms rs cs i = some c →
    ∃ n k d v, rs[n]? = some (.b i k d) ∧ vs[n]? = some v ∧ OwR K ω H c.k (Ow.own (j + n)) [] v c.d
  | true :: ms, .b i' k d :: rs, v :: vs, c' :: cs, i, c, j, h, e => by
    unfold lookIo at e
    by_cases ei : i' = i
    · rw [if_pos ei] at e
      cases e
      subst ei
      exact ⟨0, k, d, v, rfl, rfl, h.1⟩
    · rw [if_neg ei] at e
      obtain ⟨n, k', d', v', e1, e2, e3⟩ := look_io (j + 1) h.2 e
      exact ⟨n + 1, k', d', v', e1, e2, by rw [show j + (n + 1) = j + 1 + n by omega]; exact e3⟩
  | true :: ms, .v _ _ :: rs, v :: vs, c' :: cs, i, c, j, h, e => by
    unfold lookIo at e
    obtain ⟨n, k', d', v', e1, e2, e3⟩ := look_io (j + 1) h.2 e
    exact ⟨n + 1, k', d', v', e1, e2, by rw [show j + (n + 1) = j + 1 + n by omega]; exact e3⟩
  | false :: ms, _ :: rs, v :: vs, cs, i, c, j, h, e => by
    unfold lookIo at e
    have h' : IoOut K ω H (j + 1) vs ms cs := h
    obtain ⟨n, k', d', v', e1, e2, e3⟩ := look_io (j + 1) h' e
    exact ⟨n + 1, k', d', v', e1, e2, by rw [show j + (n + 1) = j + 1 + n by omega]; exact e3⟩
  | [], _, _, _, _, _, _, _, e => by unfold lookIo at e; cases e
  | true :: _, [], _, _, _, _, _, _, e => by unfold lookIo at e; cases e
  | true :: _, .b _ _ _ :: _, _, [], _, _, _, _, e => by unfold lookIo at e; cases e
  | true :: _, .v _ _ :: _, _, [], _, _, _, _, e => by unfold lookIo at e; cases e
  | true :: _, .b _ _ _ :: _, [], _ :: _, _, _, _, h, _ => h.elim
  | true :: _, .v _ _ :: _, [], _ :: _, _, _, _, h, _ => h.elim
  | false :: _, [], _, _, _, _, _, _, e => by unfold lookIo at e; cases e
  | false :: _, _ :: _, [], _, _, _, _, h, _ => by cases (show False from h)
theorem look_none {K : Fg} {ω : Om} {H : Hp} : ∀ {ms : List Bool} {rs : List Res} {vs : List V} {cs : List Cell} {i : Nat} (j : Nat), IoOut K ω H j vs ms cs → lookIo ms rs cs i = none → posOf j ms rs i = none
  | true :: ms, .b i' k d :: rs, v :: vs, c' :: cs, i, j, h, e => by
    unfold lookIo at e
    unfold posOf
    by_cases ei : i' = i
    · rw [if_pos ei] at e; cases e
    · rw [if_neg ei] at e
      rw [if_neg ei]
      exact look_none (j + 1) h.2 e
  | true :: ms, .v _ _ :: rs, v :: vs, c' :: cs, i, j, h, e => by
    unfold lookIo at e
    unfold posOf
    exact look_none (j + 1) h.2 e
  | false :: ms, _ :: rs, v :: vs, cs, i, j, h, e => by
    unfold lookIo at e
    unfold posOf
    have h' : IoOut K ω H (j + 1) vs ms cs := h
    exact look_none (j + 1) h' e
  | [], _, _, _, _, _, _, _ => by unfold posOf; rfl
  | true :: _, [], _, _, _, _, _, _ => by unfold posOf; rfl
  | false :: _, [], _, _, _, _, _, _ => by unfold posOf; rfl
  | true :: _, .b _ _ _ :: _, _ :: _, [], _, _, h, _ => h.elim
  | true :: _, .v _ _ :: _, _ :: _, [], _, _, h, _ => h.elim
  | true :: _, .b _ _ _ :: _, [], _, _, _, h, _ => by cases (show False from h)
  | true :: _, .v _ _ :: _, [], _, _, _, h, _ => by cases (show False from h)
  | false :: _, _ :: _, [], _, _, _, h, _ => by cases (show False from h)
theorem ResAll.at_ : ∀ {T : Nat} {vs : List V} {rs : List Res} {n : Nat} {v : V} {r : Res}, ResAll K ω H σ env T vs rs → vs[n]? = some v → rs[n]? = some r → ResR K ω H σ env (T + n) v r
  | _, v :: vs, r :: rs, 0, _, _, h, e1, e2 => by
    have e1' := Option.some.inj e1
    have e2' := Option.some.inj e2
    subst e1'; subst e2'
    exact h.1
  | T, v :: vs, r :: rs, n + 1, _, _, h, e1, e2 => by
    rw [show T + (n + 1) = T + 1 + n by omega]
    exact ResAll.at_ (n := n) h.2 (by simpa using e1) (by simpa using e2)
  | _, [], _, _, _, _, _, e1, _ => by simp at e1
  | _, _ :: _, [], _, _, _, _, _, e2 => by simp at e2
/-- the callee runs -/
theorem call_core {ms : List Bool} {φ : Phi} {ω1 : Om} {e1 : Env} {H1 : Hp} {vs : List V} {rs : List Res} {args : List Cell} {R : Res → Env → Prop} {Q : VK} {E : XK} (fre : Free ω T) (rel1 : Rel K ω1 e1 σ H1) (st1 : Step ω H ω1 H1) (rr1 : ResAll K ω1 H1 σ e1 T vs rs)
    (hd : distinct (ioIx ms rs) = true) (hk : mkArgs ms rs = some args) (h1 : φ args fun c ios => R (.v c.k c.d) (putIos e1 ms rs ios))
    (q : ∀ v H' ω' env' r, Rel K ω' env' σ H' → Step ω H ω' H' → Free ω' (T + 1) → ResR K ω' H' σ env' T v r → R r env' → Q v H') : spOf K ms φ vs H1 Q E := by
  refine ⟨ren (inO T ms rs) ω1, args, _, args_in rel1 ms rs hd 0 (fun n => by rw [Nat.zero_add]) (fun n => by rw [Nat.zero_add]) rr1 hk, ⟨rel1.tab.ren rfl, fun a t p e => ?_⟩, h1, fun v H2 ω2 c ios ⟨tab2, st2⟩ io2 ow2 hR2 => ?_⟩
  · have e' : inO T ms rs (ω1 a) = .tmp t p := e
    cases y : ω1 a with
    | shr => rw [y] at e'; cases e'
    | far => rw [y] at e'; cases e'
    | tab => rw [y] at e'; cases e'
    | own i p' =>
      rw [y] at e'
      have e2 : (match posOf 0 ms rs i with | some j => Ow.own j p' | none => Ow.far) = .tmp t p := e'
      cases z : posOf 0 ms rs i with
      | none => rw [z] at e2; cases e2
      | some j => rw [z] at e2; cases e2
    | tmp t' p' =>
      rw [y] at e'
      have e2 : (if t' < T then Ow.far else match ms[t' - T]? with | some true => .own (t' - T) p' | _ => .shr) = .tmp t p := e'
      by_cases hT : t' < T
      · rw [if_pos hT] at e2; cases e2
      · rw [if_neg hT] at e2
        revert e2
        cases ms[t' - T]? with
        | none => intro e2; cases e2
        | some b => cases b <;> (intro e2; cases e2)
  · -- back
    have sh2 : Sh ω2 H2 (outO T rs ω1 ω2) H2 := fun a o h e => ⟨h, by show (match ω2 a with | .shr => Ow.shr | .tab => _ | .own j p => _ | .tmp t p => _ | .far => _) = _; rw [e]⟩
    have own2 : ∀ (j i k : Nat) (d : D), rs[j]? = some (.b i k d) → ∀ a u p, H2 a = some u → ω2 a = .own j p → H2 a = some u ∧ outO T rs ω1 ω2 a = .own i p := fun j i k d hj a u p z1 z2 => ⟨z1, by
      show (match ω2 a with | .shr => Ow.shr | .tab => _ | .own j p => _ | .tmp t p => _ | .far => _) = _
      rw [z2]
      show (match rs[j]? with | some (.b i _ _) => Ow.own i p | _ => .shr) = _
      rw [hj]⟩
    have tmp2 : ∀ a u p, H2 a = some u → ω2 a = .tmp 0 p → H2 a = some u ∧ outO T rs ω1 ω2 a = .tmp T p := fun a u p z1 z2 => ⟨z1, by
      show (match ω2 a with | .shr => Ow.shr | .tab => _ | .own j p => _ | .tmp t p => _ | .far => _) = _
      rw [z2]
      show (if 0 = 0 then Ow.tmp T p else .shr) = _
      rw [if_pos rfl]⟩
    -- what the callee may not touch
    have keep : ∀ a o, H1 a = some o → (ω1 a = .shr ∨ (inO T ms rs (ω1 a) = .far ∧ gcO T (ω1 a) = ω1 a)) → H2 a = some o ∧ outO T rs ω1 ω2 a = ω1 a := fun a o h hw => by
      rcases st2 a o h (by show inO T ms rs (ω1 a) ≠ _; rcases hw with hw | ⟨hw, _⟩ <;> (rw [hw]; exact nofun)) with ⟨i, p, z⟩ | ⟨z1, z2⟩
      · have z' : inO T ms rs (ω1 a) = .own i p := z
        rcases hw with hw | ⟨hw, _⟩
        · rw [hw] at z'; cases z'
        · rw [hw] at z'; cases z'
      · refine ⟨z1, ?_⟩
        have z2' : ω2 a = inO T ms rs (ω1 a) := z2
        show (match ω2 a with | .shr => Ow.shr | .tab => _ | .own j p => _ | .tmp t p => _ | .far => _) = _
        rcases hw with hw | ⟨hw, hg⟩
        · rw [z2', hw]; rfl
        · rw [z2', hw]; exact hg
    have sh1 : Sh ω1 H1 (outO T rs ω1 ω2) H2 := fun a o h e => by
      obtain ⟨z1, z2⟩ := keep a o h (.inl e)
      exact ⟨z1, z2.trans e⟩
    refine q v H2 (outO T rs ω1 ω2) (putIos e1 ms rs ios) (.v c.k c.d) ⟨tab2.go fun a o h e => ⟨h, by show (match ω2 a with | .shr => Ow.shr | .tab => _ | .own j p => _ | .tmp t p => _ | .far => _) = _; rw [e]⟩, by rw [put_len]; exact rel1.len, fun i ci hi => ?_⟩ (fun a o h n => ?_) (fun a t p e => ?_) (OwR.go sh2 tmp2 _ _ _ _ ow2) hR2
    · rcases put_get hi with hl | ⟨hl, he⟩
      · obtain ⟨n, k, d, v', e1', e2', e3'⟩ := look_io 0 io2 hl
        rw [Nat.zero_add] at e3'
        have rn := rr1.at_ e2' e1'
        exact ⟨v', rn.2, OwR.go sh2 (own2 n i k d e1') _ _ _ _ e3'⟩
      · obtain ⟨v', hv, ho⟩ := rel1.cell i ci he
        have hp := look_none 0 io2 hl
        refine ⟨v', hv, OwR.go sh1 (fun a u p z1 z2 => ?_) _ _ _ _ ho⟩
        obtain ⟨y1, y2⟩ := keep a u z1 (.inr ⟨by
          rw [z2]
          show (match posOf 0 ms rs i with | some j => Ow.own j p | none => Ow.far) = _
          rw [hp], by rw [z2]; rfl⟩)
        exact ⟨y1, y2.trans z2⟩
    · rcases st1 a o h n with z | ⟨z1, z2⟩
      · exact .inl z
      · cases y : ω a with
        | tab => exact absurd y n
        | own i p => exact .inl ⟨i, p, rfl⟩
        | shr =>
          obtain ⟨w1, w2⟩ := keep a o z1 (.inl (z2.trans y))
          exact .inr ⟨w1, w2.trans (z2.trans y)⟩
        | far =>
          have hf : ω1 a = .far := z2.trans y
          obtain ⟨w1, w2⟩ := keep a o z1 (.inr ⟨by rw [hf]; rfl, by rw [hf]; rfl⟩)
          exact .inr ⟨w1, w2.trans hf⟩
        | tmp t p =>
          have hf : ω1 a = .tmp t p := z2.trans y
          have hT := fre a t p y
          obtain ⟨w1, w2⟩ := keep a o z1 (.inr ⟨by
            rw [hf]
            show (if t < T then Ow.far else _) = _
            rw [if_pos hT], by
            rw [hf]
            show (if T ≤ t then Ow.shr else .tmp t p) = _
            rw [if_neg (by omega)]⟩)
          exact .inr ⟨w1, w2.trans hf⟩
    · have e' : (match ω2 a with
        | .shr => Ow.shr
        | .tab => .tab
        | .own j p => match rs[j]? with
          | some (.b i _ _) => .own i p
          | _ => .shr
        | .tmp t p => if t = 0 then .tmp T p else .shr
        | .far => gcO T (ω1 a)) = .tmp t p := e
      cases y : ω2 a with
      | shr => rw [y] at e'; cases e'
      | tab => rw [y] at e'; cases e'
      | own j p' =>
        rw [y] at e'
        revert e'
        show (match rs[j]? with | some (.b i _ _) => Ow.own i p' | _ => .shr) = .tmp t p → _
        cases rs[j]? with
        | none => intro z; cases z
        | some r => cases r <;> (intro z; cases z)
      | tmp t' p' =>
        rw [y] at e'
        have e2 : (if t' = 0 then Ow.tmp T p' else .shr) = .tmp t p := e'
        by_cases h0 : t' = 0
        · rw [if_pos h0] at e2; cases e2; exact Nat.lt_succ_self _
        · rw [if_neg h0] at e2; cases e2
      | far =>
        rw [y] at e'
        exact Nat.lt_succ_of_lt (gc_free (ω := ω1) a t p e')
/-- THE CALL -/
theorem snd_call {ms : List Bool} {φ : Phi} {ta : TA} {fa : FA} (ha : SndA K ta fa) : SndE K (tCall (spOf K ms φ) [] (fun _ _ _ => False) ta) (fCall ms φ fa) := by
  intro ω T env σ H R Q rel fre hR q
  refine ha ω T env σ H _ _ rel fre hR fun vs H1 ω1 e1 rs rel1 st1 fr1 rr1 h1 => ?_
  obtain ⟨hd, h1⟩ := h1
  rw [List.append_nil]
  cases hk : mkArgs ms rs with
  | none => rw [hk] at h1; exact h1.elim
  | some args =>
    rw [hk] at h1
    exact call_core fre rel1 st1 rr1 hd hk (apP_cl h1) q
/-- with keywords: the values as written, then in the parameters' order -/
def permD (perm : List Nat) (ds : List D) : List D := perm.map fun i => ds.getD i .none
def permV (perm : List Nat) (vs : List V) : List V := perm.map fun i => vs.getD i .non
def permU (perm : List Nat) (us : List Value) : List Value := perm.map fun i => us.getD i .none
def fCallK (n m : Nat) (perm : List Nat) (φ : Phi) (fa fk : FA) : FE := fun env R => fa env fun rs e => noB rs ∧ rs.length = n ∧ fk e fun ks e1 => noB ks ∧ ks.length = m ∧ apP φ ((permD perm (dsOf rs ++ dsOf ks)).map sh) fun c _ => R (.v c.k c.d) e1
theorem RpAll.perm {vs : List V} {ds : List D} (h : RpAll K ω H vs ds) : ∀ perm : List Nat, RpAll K ω H (permV perm vs) (permD perm ds)
  | [] => .nil
  | i :: is => by
    refine .cons ?_ (RpAll.perm h is)
    show Rp K ω H (vs.getD i .non) (ds.getD i .none)
    rw [List.getD_eq_getElem?_getD, List.getD_eq_getElem?_getD]
    cases hd : ds[i]? with
    | none =>
      have hl : ds.length ≤ i := List.getElem?_eq_none_iff.mp hd
      rw [List.getElem?_eq_none (by rw [h.length]; exact hl)]
      exact .non
    | some d =>
      obtain ⟨v, hv, rv⟩ := h.at_ hd
      rw [hv]
      exact rv
theorem Vals.perm {vs : List V} {us : List Value} (h : Vals vs us) : ∀ perm : List Nat, Vals (permV perm vs) (permU perm us)
  | [] => .nil
  | i :: is => by
    refine .cons ?_ (Vals.perm h is)
    show RelV (vs.getD i .non) (us.getD i .none)
    rw [List.getD_eq_getElem?_getD, List.getD_eq_getElem?_getD]
    cases hd : vs[i]? with
    | none => rw [h.none_of hd]; rfl
    | some d =>
      obtain ⟨v, hv, rv⟩ := h.get hd
      rw [hv]
      exact rv
def allV (ds : List D) : List Res := ds.map fun d => .v 0 d
theorem resAll_v {e : Env} : ∀ {vs : List V} {ds : List D} (T : Nat), RpAll K ω H vs ds → ResAll K ω H σ e T vs (allV ds)
  | _, _, _, .nil => trivial
  | _, _, T, .cons h t => ⟨h, resAll_v (T + 1) t⟩
theorem mkArgs_v : ∀ ds : List D, mkArgs (List.replicate ds.length false) (allV ds) = some (ds.map sh)
  | [] => rfl
  | d :: ds => by
    show (match mkArgs (List.replicate ds.length false) (allV ds) with | some cs => some (sh d :: cs) | none => none) = _
    rw [mkArgs_v ds]
    rfl
theorem ioIx_v : ∀ (n : Nat) (rs : List Res), ioIx (List.replicate n false) rs = []
  | 0, _ => rfl
  | n + 1, [] => rfl
  | n + 1, _ :: rs => ioIx_v n rs
theorem putIos_v {e : Env} : ∀ (n : Nat) (rs : List Res) (cs : List Cell), putIos e (List.replicate n false) rs cs = e
  | 0, _, _ => rfl
  | n + 1, [], _ => rfl
  | n + 1, _ :: rs, cs => putIos_v n rs cs
end
/-- a def that may be called by its name -/
structure Fnc (P : Program) (w : World) (K : Fg) (mg : Str → Option Value) (base : Heap) (k : Nat) (x : Str) (ms : List Bool) (φ : Phi) : Prop where
  ex : ∃ (f : Addr) (fd : FuncData) (ps : List Str), FnG P w K mg base CX0 k f fd ps (spOf K ms φ) ∧ mg x = some (.ref f) ∧ PySem.W.keepIn K (.ref f) = true ∧ Binds K fd ps []
theorem se_call {X : Cx} {k j : Nat} {x : Str} {ms : List Bool} {φ : Phi} {e : Expr} {es : List Expr} {fa : FA} {p pos : Pos} (c : Fnc X.prog X.w X.K X.mg X.base k x ms φ) (hr : Room j X.A) (hG : X.A.guards = some []) (ha : SA X (e :: es) fa) (hk : k ≤ j := by decide) (hg : Gl X x := by rfl)
    (hdb : (x == ("__debug__" : Str)) = false := by decide) (he : starEach (e :: es) X.env = (false, eval e X.env) :: starEach es X.env := by rfl) (hpl : (backTo pos (starEach es X.env)).any (·.1) = false := by rfl) : SE X (.Call (.Name x p) (e :: es) [] pos) (fCall ms φ fa) := by
  obtain ⟨f, fd, ps, F, hm, hkp, hb⟩ := c.ex
  obtain ⟨t, q, s⟩ := ha.ex
  exact ⟨_, pe_g F hG (hr.mono hk) hg hm hkp hb q hdb he hpl, snd_call s⟩
/-- keyword arguments -/
structure SK (X : Cx) (kws : List Keyword) (f : FA) : Prop where
  ex : ∃ t : TA, PK X kws t ∧ SndA X.K t f
section
variable {X : Cx}
theorem sk_nil : SK X [] fNil := ⟨_, pk_nil, snd_nil⟩
theorem sk_cons {nm : Str} {e : Expr} {kpos : Pos} {kws : List Keyword} {fa : FE} {fr : FA} (ha : SE X e fa) (hr : SK X kws fr) : SK X (⟨nm, e, kpos⟩ :: kws) (fCons fa fr) := by
  obtain ⟨t, p, s⟩ := ha.ex
  obtain ⟨u, p', s'⟩ := hr.ex
  exact ⟨_, pk_cons p p', snd_cons s s'⟩
end
end Pv

/-! Pv7: statements; what a def's body is to show. -/
namespace Pv
open PySem PySem.Spec PyProof.Rows L2

structure Kt where
  nx : Env → Prop
  rt : Res → Env → Prop
  bk : Env → Prop := fun _ => False
  ct : Env → Prop := fun _ => False
abbrev FS := Env → Kt → Prop
/-- the written parameters' slots are not stored at -/
def Keep (io : Nat → Bool) (σ σ' : Sg) : Prop := σ'.length = σ.length ∧ ∀ j : Nat, io j = true → σ'[j]? = σ[j]?
theorem Keep.refl {io : Nat → Bool} {σ : Sg} : Keep io σ σ := ⟨rfl, fun _ _ => rfl⟩
theorem Keep.trans {io : Nat → Bool} {σ σ1 σ2 : Sg} (a : Keep io σ σ1) (b : Keep io σ1 σ2) : Keep io σ σ2 := ⟨b.1.trans a.1, fun j h => (b.2 j h).trans (a.2 j h)⟩
theorem Keep.set {io : Nat → Bool} {σ : Sg} {i : Nat} {o : Option V} (h : io i = false) : Keep io σ (σ.set i o) := ⟨List.length_set, fun j hj => by
  have ne : i ≠ j := fun e => by subst e; rw [h] at hj; cases hj
  rw [List.getElem?_set_ne ne]⟩
/-- the ends over data and those over the heap -/
structure KR (K : Fg) (io : Nat → Bool) (ω : Om) (σ : Sg) (H : Hp) (k : Kt) (E : Ends) : Prop where
  nx : ∀ σ' H' ω' env', Rel K ω' env' σ' H' → Step ω H ω' H' → Free ω' 0 → Keep io σ σ' → k.nx env' → E.nx σ' H'
  bk : ∀ σ' H' ω' env', Rel K ω' env' σ' H' → Step ω H ω' H' → Free ω' 0 → Keep io σ σ' → k.bk env' → E.bk σ' H'
  ct : ∀ σ' H' ω' env', Rel K ω' env' σ' H' → Step ω H ω' H' → Free ω' 0 → Keep io σ σ' → k.ct env' → E.ct σ' H'
  rt : ∀ v σ' H' ω' env' r, Rel K ω' env' σ' H' → Step ω H ω' H' → Free ω' 1 → Keep io σ σ' → ResR K ω' H' σ' env' 0 v r → k.rt r env' → E.rt v H'
theorem KR.next {K : Fg} {io : Nat → Bool} {ω ω1 : Om} {σ σ1 : Sg} {H H1 : Hp} {k : Kt} {E : Ends} (h : KR K io ω σ H k E) (st : Step ω H ω1 H1) (kp : Keep io σ σ1) : KR K io ω1 σ1 H1 k E where
  nx := fun σ' H' ω' env' a b c d e => h.nx σ' H' ω' env' a (st.trans b) c (kp.trans d) e
  bk := fun σ' H' ω' env' a b c d e => h.bk σ' H' ω' env' a (st.trans b) c (kp.trans d) e
  ct := fun σ' H' ω' env' a b c d e => h.ct σ' H' ω' env' a (st.trans b) c (kp.trans d) e
  rt := fun v σ' H' ω' env' r a b c d e f => h.rt v σ' H' ω' env' r a (st.trans b) c (kp.trans d) e f
def SndS (K : Fg) (io : Nat → Bool) (t : TS) (f : FS) : Prop := ∀ (ω : Om) (env : Env) (σ : Sg) (H : Hp) (E : Ends) (k : Kt), Rel K ω env σ H → Free ω 0 → f env k → KR K io ω σ H k E → t E σ H
structure SSt (X : Cx) (io : Nat → Bool) (st : Stmt) (f : FS) : Prop where
  ex : ∃ t : TS, PS X st t ∧ SndS X.K io t f
structure SSs (X : Cx) (io : Nat → Bool) (st : List Stmt) (f : FS) : Prop where
  ex : ∃ t : TS, PSs X st t ∧ SndS X.K io t f

/-! ### blocks -/
def fNext : FS := fun env k => k.nx env
def fSeq (f g : FS) : FS := fun env k => f env { k with nx := fun e => g e k }
def fBreak : FS := fun env k => k.bk env
def fCont : FS := fun env k => k.ct env
def fDrop (fa : FE) : FS := fun env k => fa env fun _ e => k.nx e
def fRet (fa : FE) : FS := fun env k => fa env k.rt
def fRetN : FS := fun env k => k.rt (.v 0 .none) env
def fIfS (c : FT) (f g : FS) : FS := fun env k => c env fun b e => match b with
  | true => f e k
  | false => g e k
section
variable {K : Fg} {io : Nat → Bool}
theorem snd_next : SndS K io tNext fNext := fun ω env σ H E k rel fr h kr => kr.nx σ H ω env rel Step.refl fr Keep.refl h
theorem snd_seq {t u : TS} {f g : FS} (h1 : SndS K io t f) (h2 : SndS K io u g) : SndS K io (tSeq t u) (fSeq f g) := by
  intro ω env σ H E k rel fr h kr
  refine h1 ω env σ H _ _ rel fr h ⟨fun σ' H' ω' env' a b c d e => ?_, kr.bk, kr.ct, kr.rt⟩
  exact h2 ω' env' σ' H' E k a c e (kr.next b d)
theorem snd_drop {t : TE} {f : FE} (h : SndE K t f) : SndS K io (tDrop t) (fDrop f) := by
  intro ω env σ H E k rel fr hf kr
  refine h ω 0 env σ H _ _ rel fr hf fun v H1 ω1 e1 r rel1 st1 fr1 rr1 h1 => ?_
  exact kr.nx σ H1 (gc 0 ω1) e1 (rel1.gc 0) (st1.gc fr) gc_free Keep.refl h1
theorem snd_ret {t : TE} {f : FE} (h : SndE K t f) : SndS K io (tRet t) (fRet f) := by
  intro ω env σ H E k rel fr hf kr
  refine h ω 0 env σ H _ _ rel fr hf fun v H1 ω1 e1 r rel1 st1 fr1 rr1 h1 => ?_
  exact kr.rt v σ H1 ω1 e1 r rel1 st1 fr1 Keep.refl rr1 h1
theorem snd_ifS {c : TT} {t u : TS} {fc : FT} {f g : FS} (hc : SndT K c fc) (h : SndS K io t f) (h' : SndS K io u g) : SndS K io (tIfS c t u) (fIfS fc f g) := by
  intro ω env σ H E k rel fr hf kr
  refine hc ω 0 env σ H _ _ rel fr hf fun b H1 ω1 e1 rel1 st1 fr1 h1 => ?_
  cases b with
  | true => exact h ω1 e1 σ H1 E k rel1 fr1 h1 (kr.next st1 Keep.refl)
  | false => exact h' ω1 e1 σ H1 E k rel1 fr1 h1 (kr.next st1 Keep.refl)
end
section
variable {X : Cx} {io : Nat → Bool} {st : Stmt} {rest sa sb : List Stmt} {e : Expr} {fa : FE} {f g : FS} {pos : Pos}
theorem ss_nil : SSs X io [] fNext := ⟨_, pss_nil, snd_next⟩
theorem ss_cons (h1 : SSt X io st f) (h2 : SSs X io rest g) : SSs X io (st :: rest) (fSeq f g) := by
  obtain ⟨t, p, s⟩ := h1.ex
  obtain ⟨u, p', s'⟩ := h2.ex
  exact ⟨_, pss_cons p p', snd_seq s s'⟩
theorem ss_one (h1 : SSt X io st f) : SSs X io [st] f := by
  obtain ⟨t, p, s⟩ := h1.ex
  exact ⟨_, pss_one p, s⟩
theorem ss_expr (ha : SE X e fa) (hs : swapsWith e none pos.line X.env = pure false := by rfl) : SSt X io (.Expr e pos) (fDrop fa) := by
  obtain ⟨t, p, s⟩ := ha.ex
  exact ⟨_, ps_expr p hs, snd_drop s⟩
theorem ss_ret (ha : SE X e fa) : SSt X io (.Return (some e) pos) (fRet fa) := by
  obtain ⟨t, p, s⟩ := ha.ex
  exact ⟨_, ps_ret p, snd_ret s⟩
theorem ss_if {c : Expr} {gc : FT} (hc : STs X c gc) (ha : SSs X io sa f) (hb : SSs X io sb g) : SSt X io (.If c sa sb pos) (fIfS gc f g) := by
  obtain ⟨r, p0, s0⟩ := hc.ex
  obtain ⟨t, p, s⟩ := ha.ex
  obtain ⟨u, p', s'⟩ := hb.ex
  exact ⟨_, ps_if p0 p p', snd_ifS s0 s s'⟩
end

/-! ### stores -/
/-- x = e, shared from then on -/
def fAsg (i : Nat) (fa : FE) : FS := fun env k => fa env fun r e => match r with
  | .v _ d => k.nx (e.set i (some (sh d)))
  | .b _ _ _ => False
/-- x = e, the slot's own from then on -/
def fAsgO (i : Nat) (fa : FE) : FS := fun env k => fa env fun r e => match r with
  | .v n d => k.nx (e.set i (some ⟨n, d⟩))
  | .b _ _ _ => False
section
variable {K : Fg} {io : Nat → Bool} {ω : Om} {env : Env} {σ : Sg} {H : Hp}
theorem Rel.put (rel : Rel K ω env σ H) {i : Nat} {v : V} {c : Cell} (h : OwR K ω H c.k (Ow.own i) [] v c.d) : Rel K ω (env.set i (some c)) (σ.set i (some v)) H := by
  refine ⟨rel.tab, by rw [List.length_set, List.length_set]; exact rel.len, fun j c' e => ?_⟩
  by_cases hj : i = j
  · subst hj
    have hl : i < env.length := by
      have := (List.getElem?_eq_some_iff.mp e).1
      rwa [List.length_set] at this
    rw [List.getElem?_set_self hl] at e
    cases e
    exact ⟨v, by rw [List.getElem?_set_self (by rw [rel.len]; exact hl)], h⟩
  · rw [List.getElem?_set_ne hj] at e
    obtain ⟨v', hv, ho⟩ := rel.cell j c' e
    exact ⟨v', by rw [List.getElem?_set_ne hj]; exact hv, ho⟩
theorem Rel.drop (rel : Rel K ω env σ H) {i : Nat} {o : Option V} : Rel K ω (env.set i none) (σ.set i o) H := by
  refine ⟨rel.tab, by rw [List.length_set, List.length_set]; exact rel.len, fun j c' e => ?_⟩
  have hj : i ≠ j := fun z => by
    subst z
    have hl : i < env.length := by
      have := (List.getElem?_eq_some_iff.mp e).1
      rwa [List.length_set] at this
    rw [List.getElem?_set_self hl] at e
    cases e
  rw [List.getElem?_set_ne hj] at e
  obtain ⟨v', hv, ho⟩ := rel.cell j c' e
  exact ⟨v', by rw [List.getElem?_set_ne hj]; exact hv, ho⟩
theorem snd_asg {t : TE} {f : FE} (h : SndE K t f) {i : Nat} (hi : io i = false) : SndS K io (tAsg t (gName i)) (fAsg i f) := by
  intro ω env σ H E k rel fr hf kr
  refine h ω 0 env σ H _ _ rel fr hf fun v H1 ω1 e1 r rel1 st1 fr1 rr1 h1 => ?_
  cases r with
  | b _ _ _ => exact h1.elim
  | v n d =>
    have rp : Rp K (gc 0 ω1) H1 v d := rr1.gc rel1 (Nat.le_refl _)
    exact kr.nx _ H1 (gc 0 ω1) _ ((rel1.gc 0).put (c := sh d) rp) (st1.gc fr) gc_free (Keep.set hi) h1
def asO (i : Nat) : Ow → Ow
  | .tmp t p => if t = 0 then .own i p else .shr
  | o => o
theorem snd_asgO {t : TE} {f : FE} (h : SndE K t f) {i : Nat} (hi : io i = false) : SndS K io (tAsg t (gName i)) (fAsgO i f) := by
  intro ω env σ H E k rel fr hf kr
  refine h ω 0 env σ H _ _ rel fr hf fun v H1 ω1 e1 r rel1 st1 fr1 rr1 h1 => ?_
  cases r with
  | b _ _ _ => exact h1.elim
  | v n d =>
    have gsh : Sh ω1 H1 (ren (asO i) ω1) H1 := fun a o h e => ⟨h, by show asO i (ω1 a) = _; rw [e]; rfl⟩
    have rel2 : Rel K (ren (asO i) ω1) e1 σ H1 := by
      refine ⟨rel1.tab.ren rfl, rel1.len, fun j c e => ?_⟩
      obtain ⟨v', hv, ho⟩ := rel1.cell j c e
      exact ⟨v', hv, OwR.go gsh (fun a u p z1 z2 => ⟨z1, by show asO i (ω1 a) = _; rw [z2]; rfl⟩) _ _ _ _ ho⟩
    have ow : OwR K (ren (asO i) ω1) H1 n (Ow.own i) [] v d := OwR.go gsh (fun a u p z1 z2 => ⟨z1, by
      show asO i (ω1 a) = _
      rw [z2]
      show (if (0 : Nat) = 0 then Ow.own i p else Ow.shr) = _
      rw [if_pos rfl]⟩) _ _ _ _ rr1
    refine kr.nx _ H1 (ren (asO i) ω1) _ (rel2.put (c := ⟨n, d⟩) ow) (fun a o h n => ?_) (fun a t p e => ?_) (Keep.set hi) h1
    · rcases st1 a o h n with z | ⟨z1, z2⟩
      · exact .inl z
      · refine .inr ⟨z1, ?_⟩
        show asO i (ω1 a) = _
        rw [z2]
        cases y : ω a with
        | tmp t p => exact absurd (fr a t p y) (Nat.not_lt_zero _)
        | _ => rfl
    · have e' : asO i (ω1 a) = .tmp t p := e
      cases y : ω1 a with
      | tmp t' p' =>
        rw [y] at e'
        have e2 : (if t' = 0 then Ow.own i p' else .shr) = .tmp t p := e'
        by_cases h0 : t' = 0
        · rw [if_pos h0] at e2; cases e2
        · rw [if_neg h0] at e2; cases e2
      | _ => rw [y] at e'; cases e'
end
section
variable {X : Cx} {io : Nat → Bool} {e : Expr} {fa : FE} {pos pos' : Pos} {x : Str}
theorem ss_set (i : Nat) (hN : X.N.Nodup) (ha : SE X e fa) (hi : X.N[i]? = some x := by rfl) (hx : Loc X.env.scope x := by first | exact Or.inl rfl | exact Or.inr rfl) (hio : io i = false := by decide)
    (hs : swapsWith e (some (.Name x pos')) pos.line X.env = pure false := by rfl) (hf : X.fn x = true ∨ X.env.scope.names.lookup x = some .local := by first | exact .inl rfl | exact .inr rfl | assumption) : SSt X io (.Assign [.Name x pos'] e pos) (fAsg i fa) := by
  obtain ⟨t, p, s⟩ := ha.ex
  exact ⟨_, ps_set hN hi hx p hs hf, snd_asg s hio⟩
theorem ss_setO (i : Nat) (hN : X.N.Nodup) (ha : SE X e fa) (hi : X.N[i]? = some x := by rfl) (hx : Loc X.env.scope x := by first | exact Or.inl rfl | exact Or.inr rfl) (hio : io i = false := by decide)
    (hs : swapsWith e (some (.Name x pos')) pos.line X.env = pure false := by rfl) (hf : X.fn x = true ∨ X.env.scope.names.lookup x = some .local := by first | exact .inl rfl | exact .inr rfl | assumption) : SSt X io (.Assign [.Name x pos'] e pos) (fAsgO i fa) := by
  obtain ⟨t, p, s⟩ := ha.ex
  exact ⟨_, ps_set hN hi hx p hs hf, snd_asgO s hio⟩
end

/-! ### methods of a slot's own list -/
abbrev MT := List D → List D → (D → List D → Prop) → Prop
def SndM (K : Fg) (r : V → List V → Hp → VK → Prop) (m : MT) : Prop := ∀ ω H a vs ds xs es (R : D → List D → Prop) (Q : VK), H a = some (.lst vs) → RpAll K ω H vs ds → RpAll K ω H xs es → m ds es R →
  (∀ y vs' res ds', RpAll K ω H vs' ds' → Rp K ω H y res → R res ds' → Q y (upd H a (.lst vs'))) → r (.ref a) xs H Q
def isOwn : Option Cell → Prop
  | some ⟨1, .list _⟩ => True
  | _ => False
def onOwn (c : Option Cell) (P : List D → Prop) : Prop := match c with
  | some ⟨1, .list ds⟩ => P ds
  | _ => False
def fMth (i : Nat) (m : MT) (fa : FA) : FE := fun env R => isOwn (getC env i) ∧ fa env fun rs e => noB rs ∧ onOwn (getC e i) fun ds => m ds (dsOf rs) fun res ds' => R (.v 0 res) (e.set i (some (ow (.list ds'))))
theorem onOwn_ex {c : Option Cell} {P : List D → Prop} (h : onOwn c P) : ∃ ds, c = some (ow (.list ds)) ∧ P ds := by
  match c, h with
  | some ⟨1, .list ds⟩, h => exact ⟨ds, rfl, h⟩
theorem isOwn_ex {c : Option Cell} (h : isOwn c) : ∃ ds, c = some (ow (.list ds)) := by
  match c, h with
  | some ⟨1, .list ds⟩, h => exact ⟨ds, rfl⟩
section
variable {K : Fg} {ω : Om} {env : Env} {σ : Sg} {H : Hp}
theorem Rel.own (rel : Rel K ω env σ H) {i : Nat} {ds : List D} (h : getC env i = some (ow (.list ds))) : ∃ a vs, σ[i]? = some (some (.ref a)) ∧ H a = some (.lst vs) ∧ ω a = .own i [] ∧ RpAll K ω H vs ds := by
  obtain ⟨v, hv, ho⟩ := rel.cell i _ (getC_some h)
  have ho' : OwR K ω H 1 (Ow.own i) [] v (.list ds) := ho
  rcases ho' with ⟨z, _⟩ | ⟨a, vs, ds', e1, e2, h1, h2, el, hc⟩ | ⟨_, _, _, _, e2, _⟩ | ⟨_, _, _, _, _, _, _, e2, _⟩ | ⟨_, _, _, _, e2, _⟩
  · cases z
  · cases e2
    subst e1
    exact ⟨a, vs, hv, h1, h2, RpAll.of_get el hc⟩
  · cases e2
  · cases e2
  · first | (cases e2; done) | exact (dct_not_otp e2).elim | exact (dct_not_otp e2.symm).elim | exact (ins_not_otp e2.symm).elim | exact (ins_not_otp e2).elim | exact (exc_not_otp e2).elim | (subst e2; cases f; done)
theorem sh_upd {a : Addr} {u : HO} (h : ω a ≠ .shr) : Sh ω H ω (upd H a u) := fun b o hb e => by
  have ne : b ≠ a := fun z => by subst z; exact h e
  exact ⟨by rw [upd_ne ne]; exact hb, e⟩
/-- a slot's own list is written -/
theorem Rel.wr (rel : Rel K ω env σ H) {i : Nat} {a : Addr} {vs : List V} {ds : List D} (hσ : σ[i]? = some (some (.ref a))) (hi : i < env.length) (ho : ω a = .own i []) (h : RpAll K ω H vs ds) :
    Rel K ω (env.set i (some (ow (.list ds)))) σ (upd H a (.lst vs)) ∧ Step ω H ω (upd H a (.lst vs)) := by
  have hs : Sh ω H ω (upd H a (.lst vs)) := sh_upd (by rw [ho]; exact fun z => by cases z)
  refine ⟨⟨rel.tab.go fun b o hb e => ⟨by rw [upd_ne (fun z => by subst z; rw [ho] at e; cases e)]; exact hb, e⟩, by rw [List.length_set]; exact rel.len, fun j c e => ?_⟩, fun b o hb _ => ?_⟩
  · by_cases hj : i = j
    · subst hj
      rw [List.getElem?_set_self hi] at e
      cases e
      refine ⟨_, hσ, .inr (.inl ⟨a, vs, ds, rfl, rfl, upd_same, ho, h.length, fun n v' d' z1 z2 => ?_⟩)⟩
      exact Rp.sh hs _ _ (h.get z1 z2)
    · rw [List.getElem?_set_ne hj] at e
      obtain ⟨v', hv', ho'⟩ := rel.cell j c e
      refine ⟨v', hv', OwR.go hs (fun b u p z1 z2 => ⟨?_, z2⟩) _ _ _ _ ho'⟩
      have ne : b ≠ a := fun z => by subst z; rw [ho] at z2; cases z2; exact hj rfl
      rw [upd_ne ne]; exact z1
  · by_cases e : b = a
    · subst e; exact .inl ⟨i, [], ho⟩
    · exact .inr ⟨by rw [upd_ne e]; exact hb, rfl⟩
theorem snd_mth {i : Nat} {r : V → List V → Hp → VK → Prop} {m : MT} {t : TA} {fa : FA} (hm : SndM K r m) (ha : SndA K t fa) : SndE K (tBM K "list" r (tVar i) t) (fMth i m fa) := by
  intro ω T env σ H R Q rel fr hR q
  obtain ⟨hi, hR⟩ := hR
  obtain ⟨ds0, e0⟩ := isOwn_ex hi
  obtain ⟨a0, vs0, hσ, hH, _, _⟩ := rel.own e0
  refine ⟨.ref a0, hσ, .inl ⟨rfl, vs0, .inl (.inl hH)⟩, ?_⟩
  refine ha ω T env σ H _ _ rel fr hR fun xs H1 ω1 e1 rs rel1 st1 fr1 rr1 h1 => ?_
  obtain ⟨nb, h1⟩ := h1
  obtain ⟨ds, e2, h2⟩ := onOwn_ex h1
  obtain ⟨a, vs, hσ1, hH1, ho1, hp1⟩ := rel1.own e2
  have ea : a0 = a := by
    rw [hσ] at hσ1
    exact V.ref.inj (Option.some.inj (Option.some.inj hσ1))
  subst ea
  have il : i < e1.length := (List.getElem?_eq_some_iff.mp (getC_some e2)).1
  have va := rr1.gc (T0 := T) rel1 (Nat.le_refl _)
  have ho2 : gc T ω1 a0 = .own i [] := by show gcO T (ω1 a0) = _; rw [ho1]; rfl
  refine hm (gc T ω1) H1 a0 vs ds xs (dsOf rs) _ Q hH1 (RpAll.sh gc_sh _ _ hp1) (va.rp nb) h2 fun y vs' res ds' hv hy hR' => ?_
  obtain ⟨rel2, st2⟩ := (rel1.gc T).wr hσ1 il ho2 hv
  refine q y _ (gc T ω1) _ (.v 0 res) rel2 ((st1.gc fr).trans st2) gc_free.up ?_ hR'
  exact Rp.sh (sh_upd (by rw [ho2]; exact fun z => by cases z)) _ _ hy
end
def mAppend : MT := fun ds es R => match es with
  | [d] => ds.length < sizeLine ∧ R .none (ds ++ [d])
  | _ => False
def mExtend : MT := fun ds es R => match es with
  | [.list xs] => ds.length + xs.length ≤ sizeLine ∧ R .none (ds ++ xs)
  | _ => False
def mPopAt : MT := fun ds es R => match es with
  | [.int i] => ∃ j d, seqIndex? i ds.length = some j ∧ ds[j]? = some d ∧ (-(2 ^ 63) ≤ i ∧ i < 2 ^ 63) ∧ R d (ds.eraseIdx j)
  | _ => False
def mInsert : MT := fun ds es R => match es with
  | [.int i, d] => (ds.length < sizeLine ∧ 0 ≤ i ∧ i < 2 ^ 63) ∧ R .none (ds.take i.toNat ++ [d] ++ ds.drop i.toNat)
  | _ => False
section
variable {X : Cx} {K : Fg}
theorem sm_append : SndM K rAppend mAppend := by
  intro ω H a vs ds xs es R Q hH hp he h q
  match es, xs, he, h with
  | [d], [x], .cons hx .nil, h => exact ⟨a, vs, x, rfl, rfl, hH, by rw [hp.length]; exact h.1, q _ _ _ _ (hp.append (.cons hx .nil)) .non h.2⟩
theorem sm_popAt : SndM K rPopAt mPopAt := by
  intro ω H a vs ds xs es R Q hH hp he h q
  match es, xs, he, h with
  | [.int i], [x], .cons hx .nil, h =>
    obtain ⟨j, d, h1, h2, ⟨h3, h4⟩, h5⟩ := h
    obtain ⟨y, hy, ry⟩ := hp.at_ h2
    cases hx
    exact ⟨a, vs, i, j, y, rfl, rfl, hH, h3, h4, by rw [hp.length]; exact h1, hy, q _ _ _ _ (hp.eraseIdx j) ry h5⟩
theorem sm_insert : SndM K (fun x vs H Q => ∃ (l : Addr) (xs : List V) (i : Int) (y : V), x = .ref l ∧ vs = [.int i, y] ∧ H l = some (.lst xs) ∧ xs.length < sizeLine ∧ 0 ≤ i ∧ i < 2 ^ 63 ∧ Q .non (upd H l (.lst (xs.take i.toNat ++ [y] ++ xs.drop i.toNat)))) mInsert := by
  intro ω H a vs ds xs es R Q hH hp he h q
  match es, xs, he, h with
  | [.int i, d], [x, y], .cons hx (.cons hy .nil), h =>
    cases hx
    exact ⟨a, vs, i, y, rfl, rfl, hH, by rw [hp.length]; exact h.1.1, h.1.2.1, h.1.2.2, q _ _ _ _ (((hp.take _).append (.cons hy .nil)).append (hp.drop _)) .non h.2⟩
variable {e : Expr} {es : List Expr} {fa : FA} {x : Str} {p apos cpos : Pos}
theorem se_append (i : Nat) (ha : SA X [e] fa) (hN : X.N[i]? = some x := by rfl) (hv : Vis X.env.scope x := by first | exact Or.inl rfl | exact Or.inr (Or.inl rfl) | exact Or.inr (Or.inr rfl)) (hbase : attributeBase (.Name x p) "append" X.env (eval (.Name x p) X.env) = eval (.Name x p) X.env := by rfl)
    (hfew : ((backTo cpos (starEach [e] X.env)).all (fun x => !x.1) && (backToKw cpos (keywordEach [] X.env)).all (fun x => x.1.isSome) && decide ([e].length + ([] : List Keyword).length + (if ([] : List Keyword).isEmpty then 0 else 1) < 30)) = true := by rfl)
    (hline : (apos.endLine == cpos.line) = true := by rfl) (hs : starEach [e] X.env = (false, eval e X.env) :: starEach [] X.env := by rfl) (hd : (x == ("__debug__" : Str)) = false := by decide) (hcd : (x == ("__classdict__" : Str)) = false := by decide) :
    SE X (.Call (.Attribute (.Name x p) "append" apos) [e] [] cpos) (fMth i mAppend fa) := by
  obtain ⟨t, q, s⟩ := ha.ex
  exact ⟨_, pe_bm PySem.F.plainAttrs_list PySem.F.slot_list_append PySem.F.type_list_append mt_append (pe_var hN hv hd hcd) q hbase hfew hline hs rfl, snd_mth sm_append s⟩
end
end Pv

/-! Pv8: pop, stores at a place, several targets, loops. -/
namespace Pv
open PySem PySem.Spec PyProof.Rows L2

section
variable {X : Cx} {e e2 : Expr} {fa : FA} {x : Str} {p apos cpos : Pos}
theorem se_popAt (i : Nat) (ha : SA X [e] fa) (hN : X.N[i]? = some x := by rfl) (hv : Vis X.env.scope x := by first | exact Or.inl rfl | exact Or.inr (Or.inl rfl) | exact Or.inr (Or.inr rfl)) (hbase : attributeBase (.Name x p) "pop" X.env (eval (.Name x p) X.env) = eval (.Name x p) X.env := by rfl)
    (hfew : ((backTo cpos (starEach [e] X.env)).all (fun x => !x.1) && (backToKw cpos (keywordEach [] X.env)).all (fun x => x.1.isSome) && decide ([e].length + ([] : List Keyword).length + (if ([] : List Keyword).isEmpty then 0 else 1) < 30)) = true := by rfl)
    (hline : (apos.endLine == cpos.line) = true := by rfl) (hs : starEach [e] X.env = (false, eval e X.env) :: starEach [] X.env := by rfl) (hd : (x == ("__debug__" : Str)) = false := by decide) (hcd : (x == ("__classdict__" : Str)) = false := by decide) :
    SE X (.Call (.Attribute (.Name x p) "pop" apos) [e] [] cpos) (fMth i mPopAt fa) := by
  obtain ⟨t, q, s⟩ := ha.ex
  exact ⟨_, pe_bm PySem.F.plainAttrs_list PySem.F.slot_list_pop PySem.F.type_list_pop mt_popAt (pe_var hN hv hd hcd) q hbase hfew hline hs rfl, snd_mth sm_popAt s⟩
end

/-! ### x[j] = e -/
def atInt (P : Int → Prop) : D → Prop
  | .int i => P i
  | _ => False
/-- .. of a slot's own list -/
def fSetIx (i : Nat) (fa fj : FE) : FS := fun env k => fa env fun r e1 => noB [r] ∧ isOwn (getC e1 i) ∧ fj e1 fun rj e2 => onOwn (getC e2 i) fun ds => atInt (fun j => ∃ n, ixN ds.length j = some n ∧ k.nx (e2.set i (some (ow (.list (ds.set n r.d)))))) rj.d
theorem atInt_ex {P : Int → Prop} {d : D} (h : atInt P d) : ∃ i, d = .int i ∧ P i := by
  cases d <;> first
    | exact h.elim
    | exact ⟨_, rfl, h⟩
section
variable {K : Fg} {io : Nat → Bool}
theorem snd_setIx {i : Nat} {ta tj : TE} {fa fj : FE} (ha : SndE K ta fa) (hj : SndE K tj fj) : SndS K io (tAsg ta (gSub (tVar i) tj rSetL)) (fSetIx i fa fj) := by
  intro ω env σ H E k rel fr hf kr
  refine ha ω 0 env σ H _ _ rel fr hf fun v H1 ω1 e1 r rel1 st1 fr1 rr1 h1 => ?_
  obtain ⟨nb, ho, h1⟩ := h1
  obtain ⟨ds0, e0⟩ := isOwn_ex ho
  obtain ⟨a0, vs0, hσ, hH, _, _⟩ := rel1.own e0
  refine ⟨.ref a0, hσ, ?_⟩
  refine hj ω1 1 e1 σ H1 _ _ rel1 fr1 h1 fun jv H2 ω2 e2 rj rel2 st2 fr2 rr2 h2 => ?_
  obtain ⟨ds, e3, h3⟩ := onOwn_ex h2
  obtain ⟨j, ej, n, hn, hk⟩ := atInt_ex h3
  obtain ⟨a, vs, hσ1, hH2, ho2, hp2⟩ := rel2.own e3
  have ea : a0 = a := by
    rw [hσ] at hσ1
    exact V.ref.inj (Option.some.inj (Option.some.inj hσ1))
  subst ea
  have il : i < e2.length := (List.getElem?_eq_some_iff.mp (getC_some e3)).1
  have rp : Rp K (gc 0 ω2) H2 v r.d := by
    cases r with
    | b _ _ _ => exact nb.elim
    | v kk d => exact ResR.gc (env := e2) (r := .v kk d) (ResR.step (T' := 0) rr1 st2) rel2 (Nat.le_refl _)
  have hog : gc 0 ω2 a0 = .own i [] := by show gcO 0 (ω2 a0) = _; rw [ho2]; rfl
  have hpg : RpAll K (gc 0 ω2) H2 (vs.set n v) (ds.set n r.d) := RpAll.set rp n (RpAll.sh gc_sh _ _ hp2)
  obtain ⟨rel3, st3⟩ := (rel2.gc 0).wr hσ1 il hog hpg
  refine ⟨a0, vs, j, n, rfl, rr2.int_ rel2 ej, hH2, by rw [hp2.length]; exact hn, ?_⟩
  exact kr.nx σ _ (gc 0 ω2) _ rel3 (((st1.trans st2).gc fr).trans st3) gc_free Keep.refl hk
end
section
variable {X : Cx} {io : Nat → Bool} {e j : Expr} {fa fj : FE} {x : Str} {p pos' pos : Pos}
theorem ss_setIx (i : Nat) (ha : SE X e fa) (hj : SE X j fj) (hN : X.N[i]? = some x := by rfl) (hv : Vis X.env.scope x := by first | exact Or.inl rfl | exact Or.inr (Or.inl rfl) | exact Or.inr (Or.inr rfl)) (hd : (x == ("__debug__" : Str)) = false := by decide) (hcd : (x == ("__classdict__" : Str)) = false := by decide)
    (hasg : ∀ v, assign (.Subscript (.Name x p) j pos') X.env v = (do
      let ov ← holding [v] (eval (.Name x p) X.env)
      let iv ← holding [v, ov] (eval j X.env)
      standAt pos'
      holding [v, ov, iv] (setItem ov iv v)
      release [v, ov, iv] []) := by intro _; rfl)
    (hs : swapsWithSole [.Subscript (.Name x p) j pos'] e pos.line X.env = pure false := by rfl) (hw : swappedStores [.Subscript (.Name x p) j pos'] e X.env = pure none := by rfl)
    (h1 : (assignEach [.Subscript (.Name x p) j pos'] X.env).map (·.2) = [assign (.Subscript (.Name x p) j pos') X.env] := by rfl) : SSt X io (.Assign [.Subscript (.Name x p) j pos'] e pos) (fSetIx i fa fj) := by
  obtain ⟨t, q, s⟩ := ha.ex
  obtain ⟨u, q', s'⟩ := hj.ex
  exact ⟨_, ps_asg q (pg_sub (pe_var hN hv hd hcd) q' set_list hasg) hs hw h1, snd_setIx s s'⟩
end

/-! ### x += e of ints -/
def fAug (i : Nat) (op : Int → Int → Int) (fa : FE) : FS := fun env k => ∃ a : Int, getC env i = some (sh (.int a)) ∧ fa env fun r e => atInt (fun b => k.nx (e.set i (some (sh (.int (op a b)))))) r.d
section
variable {K : Fg} {io : Nat → Bool}
end
section
variable {X : Cx} {io : Nat → Bool} {e : Expr} {fa : FE} {x : Str} {pos' pos : Pos}
end

/-! ### targets -/
abbrev FG := D → Env → Option Env
abbrev FGs := List D → Env → Option Env
def SndG (K : Fg) (io : Nat → Bool) (t : TG) (g : FG) : Prop := ∀ (v : V) (d : D) (ω : Om) (env : Env) (σ : Sg) (H : Hp) (env' : Env) (Q : Sg → Hp → Prop), Rel K ω env σ H → Rp K ω H v d → g d env = some env' → (∀ σ', Rel K ω env' σ' H → Keep io σ σ' → Q σ' H) → t v σ H Q
def SndGs (K : Fg) (io : Nat → Bool) (t : TGs) (g : FGs) : Prop := ∀ (vs : List V) (ds : List D) (ω : Om) (env : Env) (σ : Sg) (H : Hp) (env' : Env) (Q : Sg → Hp → Prop), Rel K ω env σ H → RpAll K ω H vs ds → g ds env = some env' → (∀ σ', Rel K ω env' σ' H → Keep io σ σ' → Q σ' H) → t vs σ H Q
structure SG (X : Cx) (io : Nat → Bool) (tg : Expr) (g : FG) : Prop where
  ex : ∃ t : TG, PG X tg t ∧ SndG X.K io t g
structure SGs (X : Cx) (io : Nat → Bool) (tgs : List Expr) (g : FGs) : Prop where
  ex : ∃ t : TGs, PGs X tgs t ∧ SndGs X.K io t g
def gN (i : Nat) : FG := fun d e => some (e.set i (some (sh d)))
def gsNil : FGs := fun ds e => match ds with
  | [] => some e
  | _ => none
def gsCons (g : FG) (gs : FGs) : FGs := fun ds e => match ds with
  | d :: r => match g d e with
    | some e' => gs r e'
    | none => none
  | _ => none
@[irreducible] def unpk (n : Nat) (gs : FGs) (d : D) (e : Env) : Option Env := match d with
  | .tuple ds => if ds.length = n then gs ds e else none
  | .list ds => if ds.length = n then gs ds e else none
  | _ => none
theorem unpk_t {n : Nat} {gs : FGs} {ds : List D} {e : Env} : unpk n gs (.tuple ds) e = if ds.length = n then gs ds e else none := by unfold unpk; rfl
theorem unpk_l {n : Nat} {gs : FGs} {ds : List D} {e : Env} : unpk n gs (.list ds) e = if ds.length = n then gs ds e else none := by unfold unpk; rfl
def gT (n : Nat) (gs : FGs) : FG := fun d e => unpk n gs d e
section
variable {X : Cx} {io : Nat → Bool} {pos : Pos}
theorem PG.or {tg : Expr} {t t' : TG} (h : PG X tg t) (h' : PG X tg t') : PG X tg (fun v σ H Q => t v σ H Q ∨ t' v σ H Q) :=
  ⟨fun pins s σ H v u Q I r w => w.elim (h.run pins s σ H v u Q I r) (h'.run pins s σ H v u Q I r)⟩
theorem sg_name (i : Nat) {x : Str} (hN : X.N.Nodup) (hi : X.N[i]? = some x := by rfl) (hx : Loc X.env.scope x := by first | exact Or.inl rfl | exact Or.inr rfl) (hio : io i = false := by decide)
    (hf : X.fn x = true ∨ X.env.scope.names.lookup x = some .local := by first | exact .inl rfl | exact .inr rfl | assumption) : SG X io (.Name x pos) (gN i) := by
  refine ⟨_, pg_name hN hi hx hf, fun v d ω env σ H env' Q rel rp he q => ?_⟩
  cases he
  exact q _ (rel.put (c := sh d) rp) (Keep.set hio)
theorem sgs_nil : SGs X io [] gsNil := by
  refine ⟨_, pgs_nil, fun vs ds ω env σ H env' Q rel rp he q => ?_⟩
  cases rp with
  | nil => cases he; exact ⟨rfl, q σ rel Keep.refl⟩
  | cons _ _ => cases he
theorem sgs_cons {e : Expr} {es : List Expr} {g : FG} {gs : FGs} (h1 : SG X io e g) (h2 : SGs X io es gs)
    (hs : (assignEach (e :: es) X.env).map (·.2) = assign e X.env :: (assignEach es X.env).map (·.2) := by rfl) : SGs X io (e :: es) (gsCons g gs) := by
  obtain ⟨t, p, s⟩ := h1.ex
  obtain ⟨u, p', s'⟩ := h2.ex
  refine ⟨_, pgs_cons p p' hs, fun vs ds ω env σ H env' Q rel rp he q => ?_⟩
  cases rp with
  | nil => cases he
  | cons r1 r2 =>
    rename_i v vs d ds
    have he' : (match g d env with | some e' => gs ds e' | none => none) = some env' := he
    cases hg : g d env with
    | none => rw [hg] at he'; cases he'
    | some e1 =>
      rw [hg] at he'
      refine ⟨v, vs, rfl, s v d ω env σ H e1 _ rel r1 hg fun σ1 rel1 k1 => ?_⟩
      exact s' vs ds ω e1 σ1 H env' Q rel1 r2 he' fun σ2 rel2 k2 => q σ2 rel2 (k1.trans k2)
theorem sg_tup {es : List Expr} {k n : Nat} {gs : FGs} (hc : X.calm = true) (h : SGs X io es gs)
    (hn : (assignEach es X.env).length = n := by rfl) (hst : (assignEach es X.env).findIdx? (·.1) = none := by rfl) : SG X io (.Tuple es k pos) (gT n gs) := by
  obtain ⟨t, p, s⟩ := h.ex
  refine ⟨_, PG.or (pg_tup hc p hn hst) (pg_unl hc p hn hst), fun v d ω env σ H env' Q rel rp he q => ?_⟩
  unfold gT unpk at he
  cases d <;> first
    | (cases he; done)
    | skip
  · rename_i ds
    have he' : (if ds.length = n then gs ds env else none) = some env' := he
    by_cases hl : ds.length = n
    · rw [if_pos hl] at he'
      cases rp with
      | lst hs ha => exact .inr ⟨_, _, rfl, hs.seq, by rw [ha.length]; exact hl, s _ _ ω env σ H env' Q rel ha he' q⟩
    · rw [if_neg hl] at he'; cases he'
  · rename_i ds
    have he' : (if ds.length = n then gs ds env else none) = some env' := he
    by_cases hl : ds.length = n
    · rw [if_pos hl] at he'
      obtain ⟨a, vs, rfl, hs, ha⟩ := rp.tup_
      exact .inl ⟨_, _, rfl, hs, by rw [ha.length]; exact hl, s _ _ ω env σ H env' Q rel ha he' q⟩
    · rw [if_neg hl] at he'; cases he'
end
/-- targets = e -/
def toEnv (P : Env → Prop) : Option Env → Prop
  | some e => P e
  | none => False
def fUnp (g : FG) (fa : FE) : FS := fun env k => fa env fun r e => noB [r] ∧ toEnv k.nx (g r.d e)
theorem unpk_tE {P : Env → Prop} {n : Nat} {gs : FGs} {ds : List D} {e : Env} (h : toEnv P (if ds.length = n then gs ds e else none)) : toEnv P (unpk n gs (.tuple ds) e) := by rw [unpk_t]; exact h
theorem unpk_lE {P : Env → Prop} {n : Nat} {gs : FGs} {ds : List D} {e : Env} (h : toEnv P (if ds.length = n then gs ds e else none)) : toEnv P (unpk n gs (.list ds) e) := by rw [unpk_l]; exact h
section
variable {X : Cx} {io : Nat → Bool} {tg e : Expr} {g : FG} {fa : FE} {pos : Pos}
theorem toEnv_ex {P : Env → Prop} {o : Option Env} (h : toEnv P o) : ∃ e, o = some e ∧ P e := by
  cases o with
  | none => exact h.elim
  | some e => exact ⟨e, rfl, h⟩
end

/-! ### what is walked -/
def sameAt (r : Res) (σ σ1 : Sg) : Prop := match r with
  | .v _ _ => True
  | .b i _ _ => σ1[i]? = σ[i]?
def Iters (K : Fg) (σ : Sg) (ω : Om) (H : Hp) (J : It) (r : Res) (items : List D) : Prop := ∀ (ω1 : Om) (H1 : Hp) (env1 : Env) (σ1 : Sg), Rel K ω1 env1 σ1 H1 → Sh ω H ω1 H1 → okb env1 r → sameAt r σ σ1 → ∀ i : Nat,
  (∀ d, items[i]? = some d → J.go i H1 ∧ ∀ x H2, J.yld i H1 x H2 → ∃ ω2, Grow ω1 H1 ω2 H2 ∧ (∀ T, Free ω1 T → Free ω2 T) ∧ Rp K ω2 H2 x d) ∧ (items.length ≤ i → J.stop i H1)
abbrev FI := Env → (Res → List D → Env → Prop) → Prop
def SndI (K : Fg) (wi : TI) (f : FI) : Prop := ∀ (ω : Om) (T : Nat) (env : Env) (σ : Sg) (H : Hp) (R : Res → List D → Env → Prop) (Q : It → Hp → Prop), Rel K ω env σ H → Free ω T → f env R →
  (∀ J H' ω' env' r items, Rel K ω' env' σ H' → Step ω H ω' H' → Free ω' T → Iters K σ ω' H' J r items → okb env' r → R r items env' → Q J H') → wi σ H Q
structure SI (X : Cx) (tg iter : Expr) (f : FI) : Prop where
  ex : ∃ wi : TI, PI X tg iter wi ∧ SndI X.K wi f
/-- a list or a tuple -/
def overSeq (r : Res) (P : Res → List D → Prop) : D → Prop
  | .list ds => flat r ∧ P r ds
  | .tuple ds => P (.v 0 .none) ds
  | _ => False
def fSeqI (fa : FE) : FI := fun env R => fa env fun r e => ovr (overSeq r fun r' ds => R r' ds e) r.d
/-- range -/
def rngD (lo hi : Int) : List D := (List.range (hi - lo).toNat).map fun i => PyData.int (lo + (i : Nat))
def fRange1 (fa : FA) : FI := fun env R => fa env fun rs e => match rs with
  | [r] => atInt (fun n => (-(2 ^ 62) ≤ n ∧ n < 2 ^ 62) ∧ R (.v 0 .none) (rngD 0 n) e) r.d
  | _ => False
def fRange2 (fa : FA) : FI := fun env R => fa env fun rs e => match rs with
  | [r, r'] => atInt (fun m => atInt (fun n => (-(2 ^ 62) ≤ m ∧ m < 2 ^ 62 ∧ -(2 ^ 62) ≤ n ∧ n < 2 ^ 62) ∧ R (.v 0 .none) (rngD m n) e) r'.d) r.d
  | _ => False
section
variable {X : Cx} {K : Fg} {σ : Sg} {ω : Om} {H : Hp}
theorem PI.or {tg iter : Expr} {w1 w2 : TI} (h : PI X tg iter w1) (h' : PI X tg iter w2) : PI X tg iter (fun σ H R => w1 σ H R ∨ w2 σ H R) :=
  ⟨fun pins s σ H R I w => w.elim (h.run pins s σ H R I) (h'.run pins s σ H R I)⟩
theorem iters_list {a : Addr} {vs : List V} {ds : List D} (h : H a = some (.lst vs)) (ho : ω a = .shr) (hp : RpAll K ω H vs ds) {k : Nat} {d : D} : Iters K σ ω H (Itl K a) (.v k d) ds := by
  intro ω1 H1 env1 σ1 rel g _ _ i
  obtain ⟨h1, _⟩ := g a _ h ho
  have hs : SqL K H1 a vs := .inl (.inl h1)
  have hp1 := RpAll.sh g _ _ hp
  refine ⟨fun c hc => ?_, fun hl => ⟨vs, hs, by rw [hp.length]; exact hl⟩⟩
  obtain ⟨v, hv, rv⟩ := hp1.at_ hc
  refine ⟨⟨vs, v, hs, hv⟩, fun x H2 y => ?_⟩
  obtain ⟨y1, y2⟩ := y
  subst y1
  have e := y2 vs hs
  rw [hv] at e
  cases e
  exact ⟨ω1, Grow.refl, fun _ f => f, rv⟩
theorem iters_tup {a : Addr} {vs : List V} {ds : List D} (h : SU K ω H a vs) (hp : RpAll K ω H vs ds) {k : Nat} {d : D} : Iters K σ ω H (Itt K a) (.v k d) ds := by
  intro ω1 H1 env1 σ1 rel g _ _ i
  have hs : SqT K H1 a vs := (h.sh g).seq
  have hp1 := RpAll.sh g _ _ hp
  refine ⟨fun c hc => ?_, fun hl => ⟨vs, hs, by rw [hp.length]; exact hl⟩⟩
  obtain ⟨v, hv, rv⟩ := hp1.at_ hc
  refine ⟨⟨vs, v, hs, hv⟩, fun x H2 y => ?_⟩
  obtain ⟨y1, y2⟩ := y
  subst y1
  have e := y2 vs hs
  rw [hv] at e
  cases e
  exact ⟨ω1, Grow.refl, fun _ f => f, rv⟩
theorem iters_own {i0 k : Nat} {a : Addr} {ds : List D} (hσ : σ[i0]? = some (some (.ref a))) (hk : k ≤ 1) : Iters K σ ω H (Itl K a) (.b i0 k (.list ds)) ds := by
  intro ω1 H1 env1 σ1 rel g hb hs i
  obtain ⟨v, hv, ho⟩ := rel.cell i0 _ hb
  have ev : v = .ref a := by
    have e : σ1[i0]? = σ[i0]? := hs
    rw [hv, hσ] at e
    exact Option.some.inj (Option.some.inj e)
  subst ev
  obtain ⟨a', vs, e1, h1, hp1⟩ : ∃ a' vs, V.ref a = .ref a' ∧ H1 a' = some (.lst vs) ∧ RpAll K ω1 H1 vs ds := Vw.lst (r := .b i0 k (.list ds)) ho hk rfl
  cases e1
  have hs : SqL K H1 a vs := .inl (.inl h1)
  refine ⟨fun c hc => ?_, fun hl => ⟨vs, hs, by rw [hp1.length]; exact hl⟩⟩
  obtain ⟨v, hv, rv⟩ := hp1.at_ hc
  refine ⟨⟨vs, v, hs, hv⟩, fun x H2 y => ?_⟩
  obtain ⟨y1, y2⟩ := y
  subst y1
  have e := y2 vs hs
  rw [hv] at e
  cases e
  exact ⟨ω1, Grow.refl, fun _ f => f, rv⟩
theorem iters_rng {lo hi : Int} {k : Nat} {d : D} : Iters K σ ω H (Itr lo (hi - lo).toNat) (.v k d) (rngD lo hi) := by
  intro ω1 H1 env1 σ1 rel g _ _ i
  refine ⟨fun c hc => ?_, fun hl => by
    show (hi - lo).toNat ≤ i
    unfold rngD at hl
    rw [List.length_map, List.length_range] at hl
    exact hl⟩
  unfold rngD at hc
  rw [List.getElem?_map] at hc
  cases hr : (List.range (hi - lo).toNat)[i]? with
  | none => rw [hr] at hc; cases hc
  | some j =>
    obtain ⟨hlt, ej⟩ := List.getElem?_eq_some_iff.mp hr
    rw [List.getElem_range] at ej
    subst ej
    rw [hr] at hc
    cases hc
    rw [List.length_range] at hlt
    refine ⟨hlt, fun x H2 y => ?_⟩
    obtain ⟨y1, y2⟩ := y
    subst y1 y2
    exact ⟨ω1, Grow.refl, fun _ f => f, .int _⟩
def iSeqA (K : Fg) (tl : TE) : TI := fun σ H R => tl σ H fun x H1 => (∃ a, x = .ref a ∧ (∃ xs, SqL K H1 a xs) ∧ R (Itl K a) H1) ∨ (∃ a, x = .ref a ∧ (∃ xs, SqT K H1 a xs) ∧ R (Itt K a) H1)
theorem pi_seqA {tg l : Expr} {tl : TE} (hl : PE X l tl) : PI X tg l (iSeqA X.K tl) := by
  refine ⟨fun pins s σ H R I h => ?_⟩
  refine thn (hl.run pins s σ H _ I h) fun v s1 ⟨x, H1, I1, r1, q1⟩ => ?_
  rcases q1 with q1 | q1
  · obtain ⟨a, e, ⟨xs, hq⟩, q⟩ := q1
    subst e
    cases r1
    obtain ⟨its, rv, p, hz⟩ := I1.list hq
    refine wpAny_pyIter_list p.isList ?_
    refine ⟨s1.heap.objs.size, [s1.heap.objs.size], _, _, H1, rfl, I1.kept (t' := s1.toks) fun b o e => Heap.get?_push_of_some _ e, turn_list a _, ⟨_, Heap.get?_push_size _ rfl, rfl, rfl⟩, fun b hb => ?_, q⟩
    have e : b = s1.heap.objs.size := by simpa using hb
    subst e
    exact I1.fpOk (Nat.le_refl _) (I1.hok.fresh (Nat.le_refl _))
  · obtain ⟨a, e, ⟨xs, hq⟩, q⟩ := q1
    subst e
    cases r1
    obtain ⟨its, rv, p, hz⟩ := I1.tuple hq
    refine wpAny_pyIter_tuple (show s1.heap.IsTuple a its.toArray from p) ?_
    refine ⟨s1.heap.objs.size, [s1.heap.objs.size], _, _, H1, rfl, I1.kept (t' := s1.toks) fun b o e => Heap.get?_push_of_some _ e, turn_tuple a _, ⟨_, Heap.get?_push_size _ rfl, rfl, rfl⟩, fun b hb => ?_, q⟩
    have e : b = s1.heap.objs.size := by simpa using hb
    subst e
    exact I1.fpOk (Nat.le_refl _) (I1.hok.fresh (Nat.le_refl _))
theorem okb_of {ω : Om} {H : Hp} {σ : Sg} {env : Env} {T : Nat} {v : V} {r : Res} (h : ResR K ω H σ env T v r) : okb env r := by
  cases r with
  | v k d => trivial
  | b i k d => exact h.1
theorem snd_seqI {t : TE} {fa : FE} (ha : SndE K t fa) : SndI K (iSeqA K t) (fSeqI fa) := by
  intro ω T env σ H R Q rel fr hR q
  refine ha ω T env σ H _ _ rel fr hR fun x H1 ω1 e1 r rel1 st1 fr1 rr1 h1 => ?_
  have vw := rr1.gc (T := T) rel1 (Nat.le_refl _)
  have ok := okb_of rr1
  have h1 := ovr_cl h1
  generalize ed : r.d = d at h1
  cases d <;> first
    | exact h1.elim
    | skip
  · rename_i ds
    obtain ⟨f, h1⟩ := h1
    cases r with
    | v k d' =>
      have ed' : d' = .list ds := ed
      subst ed'
      have rp : Rp K (gc T ω1) H1 x (.list ds) := vw
      cases rp with
      | lst hs hp => exact .inl ⟨_, rfl, ⟨_, hs.seq⟩, q _ H1 (gc T ω1) e1 _ ds (rel1.gc T) (st1.gc fr) gc_free (iters_list hs.1 hs.2 hp) ok h1⟩
    | b i k d' =>
      have ed' : d' = .list ds := ed
      subst ed'
      obtain ⟨a, vs, rfl, ha', hp⟩ := vw.lst f rfl
      exact .inl ⟨a, rfl, ⟨vs, .inl (.inl ha')⟩, q _ H1 (gc T ω1) e1 _ ds (rel1.gc T) (st1.gc fr) gc_free (iters_own rr1.2 f) ok h1⟩
  · rename_i ds
    have rp := vw.rpT ed
    cases rp with
    | tup hs hp => exact .inr ⟨_, rfl, ⟨_, hs.seq⟩, q _ H1 (gc T ω1) e1 (.v 0 .none) ds (rel1.gc T) (st1.gc fr) gc_free (iters_tup hs hp) trivial h1⟩
theorem si_seq {tg e : Expr} {fa : FE} (ha : SE X e fa) : SI X tg e (fSeqI fa) := by
  obtain ⟨t, p, s⟩ := ha.ex
  exact ⟨_, pi_seqA p, snd_seqI s⟩
theorem VwAll.one {vs : List V} {r : Res} (h : VwAll K ω H vs [r]) : ∃ v, vs = [v] ∧ Vw K ω H v r := by
  match vs, h with
  | [v], h => exact ⟨v, rfl, h.1⟩
theorem VwAll.two {vs : List V} {r r' : Res} (h : VwAll K ω H vs [r, r']) : ∃ v v', vs = [v, v'] ∧ Vw K ω H v r ∧ Vw K ω H v' r' := by
  match vs, h with
  | [v, v'], h => exact ⟨v, v', rfl, h.1, h.2.1⟩
theorem si_range1 {tg a : Expr} {fa : FA} {p pos : Pos} (hm : X.mg "range" = none) (ha : SA X [a] fa) (hg : Gl X "range" := by rfl) (hs : starEach [a] X.env = [(false, eval a X.env)] := by rfl) : SI X tg (.Call (.Name "range" p) [a] [] pos) (fRange1 fa) := by
  obtain ⟨t, p, s⟩ := ha.ex
  refine ⟨_, pi_range1 hg hm p hs, fun ω T env σ H R Q rel fr hR q => ?_⟩
  refine s ω T env σ H _ _ rel fr hR fun vs H1 ω1 e1 rs rel1 st1 fr1 rr1 h1 => ?_
  match rs, h1, rr1 with
  | [r], h1, rr1 =>
    obtain ⟨n, en, ⟨b1, b2⟩, hn⟩ := atInt_ex h1
    obtain ⟨v, rfl, hv⟩ := (rr1.gc (T0 := T) rel1 (Nat.le_refl _)).one
    refine ⟨n, by rw [hv.int en], b1, b2, ?_⟩
    have it : Iters X.K σ (gc T ω1) H1 (Itr 0 n.toNat) (.v 0 .none) (rngD 0 n) := by
      have := iters_rng (K := X.K) (σ := σ) (ω := gc T ω1) (H := H1) (lo := 0) (hi := n) (k := 0) (d := .none)
      rw [show (n - 0).toNat = n.toNat by rw [Int.sub_zero]] at this
      exact this
    exact q _ H1 (gc T ω1) e1 _ _ (rel1.gc T) (st1.gc fr) gc_free it trivial hn
end

/-! ### for, while -/
def forGo (g : FG) (body : FS) (k : Kt) : List D → Env → Prop
  | [], e => k.nx e
  | d :: ds, e => toEnv (fun e1 => body e1 { k with nx := forGo g body k ds, ct := forGo g body k ds, bk := k.nx }) (g d e)
/-- a walk that is looked at as a whole -/
@[irreducible] def apF (P : List D → Env → Prop) (ds : List D) (e : Env) : Prop := P ds e
theorem apF_op {P : List D → Env → Prop} {ds : List D} {e : Env} (h : P ds e) : apF P ds e := by unfold apF; exact h
theorem apF_cl {P : List D → Env → Prop} {ds : List D} {e : Env} (h : apF P ds e) : P ds e := by unfold apF at h; exact h
theorem apF_eq {P : List D → Env → Prop} {ds : List D} {e : Env} : apF P ds e = P ds e := by unfold apF; rfl
@[irreducible] def apL (P : List D → List D → Env → Prop) (ds acc : List D) (e : Env) : Prop := P ds acc e
theorem apL_op {P : List D → List D → Env → Prop} {ds acc : List D} {e : Env} (h : P ds acc e) : apL P ds acc e := by unfold apL; exact h
theorem apL_cl {P : List D → List D → Env → Prop} {ds acc : List D} {e : Env} (h : apL P ds acc e) : P ds acc e := by unfold apL at h; exact h
theorem apL_eq {P : List D → List D → Env → Prop} {ds acc : List D} {e : Env} : apL P ds acc e = P ds acc e := by unfold apL; rfl
def fFor (fi : FI) (g : FG) (body : FS) : FS := fun env k => fi env fun r ds e => noB [r] ∧ apF (forGo g body k) ds e
def whGo (c : FT) (body : FS) (k : Kt) : Nat → Env → Prop
  | 0, _ => False
  | n + 1, e => c e fun b e' => match b with
    | true => body e' { k with nx := whGo c body k n, ct := whGo c body k n, bk := k.nx }
    | false => k.nx e'
def fWhile (c : FT) (body : FS) : FS := fun env k => ∃ n, whGo c body k n env
section
variable {K : Fg} {io : Nat → Bool}
theorem snd_for {wi : TI} {t : TG} {tb : TS} {fi : FI} {g : FG} {body : FS} (hi : SndI K wi fi) (hg : SndG K io t g) (hb : SndS K io tb body) : SndS K io (tFor wi t tb) (fFor fi g body) := by
  intro ω env σ H E k rel fr hf kr
  refine hi ω 0 env σ H _ _ rel fr hf fun J H1 ω1 e1 r items rel1 st1 fr1 it ok1 h1 => ?_
  obtain ⟨nb, h1⟩ := h1
  have h1 := apF_cl h1
  cases r with
  | b _ _ _ => exact nb.elim
  | v kk dd =>
    refine ⟨fun i m σ2 H2 => m = items.length - i ∧ i ≤ items.length ∧ ∃ ω2 e2, Rel K ω2 e2 σ2 H2 ∧ Step ω1 H1 ω2 H2 ∧ Free ω2 0 ∧ Keep io σ σ2 ∧ forGo g body k (items.drop i) e2,
      ⟨items.length, by simp, Nat.zero_le _, ω1, e1, rel1, Step.refl, fr1, Keep.refl, h1⟩, ?_⟩
    rintro i m σ2 H2 ⟨rfl, hil, ω2, e2, rel2, st2, fr2, kp2, h2⟩
    obtain ⟨go, stop⟩ := it ω2 H2 e2 σ2 rel2 st2.sh trivial trivial i
    by_cases hlt : i < items.length
    · refine .inr ?_
      have e0 : items[i]? = some items[i] := List.getElem?_eq_getElem hlt
      have ed : items.drop i = items[i] :: items.drop (i + 1) := List.drop_eq_getElem_cons hlt
      rw [ed] at h2
      obtain ⟨g1, g2⟩ := go _ e0
      refine ⟨g1, fun σ' H' => ∃ ω' e', Rel K ω' e' σ' H' ∧ Step ω1 H1 ω' H' ∧ Free ω' 0 ∧ Keep io σ σ' ∧ forGo g body k (items.drop (i + 1)) e', fun σ' H' ⟨ω', e', a1, a2, a3, a4, a5⟩ => ⟨items.length - (i + 1), by omega, rfl, hlt, ω', e', a1, a2, a3, a4, a5⟩, fun x H3 y => ?_⟩
      obtain ⟨ω3, gr, fr3, rp⟩ := g2 x H3 y
      obtain ⟨e3, he, hbody⟩ := toEnv_ex (P := fun e1 => body e1 { k with nx := forGo g body k (items.drop (i + 1)), ct := forGo g body k (items.drop (i + 1)), bk := k.nx }) h2
      refine hg x _ ω3 e2 σ2 H3 e3 _ (rel2.grow gr) rp he fun σ4 rel4 kp4 => ?_
      refine hb ω3 e3 σ4 H3 _ _ rel4 (fr3 0 fr2) hbody ⟨fun σ' H' ω' env' a b c d e => ?_, fun σ' H' ω' env' a b c d e => ?_, fun σ' H' ω' env' a b c d e => ?_, fun v σ' H' ω' env' r a b c d e f => ?_⟩
      · exact ⟨ω', env', a, (st2.grow gr).trans b, c, (kp2.trans kp4).trans d, e⟩
      · exact kr.nx σ' H' ω' env' a (st1.trans ((st2.grow gr).trans b)) c ((kp2.trans kp4).trans d) e
      · exact ⟨ω', env', a, (st2.grow gr).trans b, c, (kp2.trans kp4).trans d, e⟩
      · exact kr.rt v σ' H' ω' env' r a (st1.trans ((st2.grow gr).trans b)) c ((kp2.trans kp4).trans d) e f
    · have ei : i = items.length := by omega
      subst ei
      rw [List.drop_length] at h2
      exact .inl ⟨stop (Nat.le_refl _), kr.nx σ2 H2 ω2 e2 rel2 (st1.trans st2) fr2 kp2 h2⟩
theorem snd_while {c : TT} {tb : TS} {fc : FT} {body : FS} (hc : SndT K c fc) (hb : SndS K io tb body) : SndS K io (tWhile c tb) (fWhile fc body) := by
  intro ω env σ H E k rel fr hf kr
  obtain ⟨n, hf⟩ := hf
  refine ⟨fun m σ2 H2 => ∃ ω2 e2, Rel K ω2 e2 σ2 H2 ∧ Step ω H ω2 H2 ∧ Free ω2 0 ∧ Keep io σ σ2 ∧ whGo fc body k m e2, ⟨n, ω, env, rel, Step.refl, fr, Keep.refl, hf⟩, ?_⟩
  rintro m σ2 H2 ⟨ω2, e2, rel2, st2, fr2, kp2, h2⟩
  cases m with
  | zero => exact h2.elim
  | succ m =>
    refine hc ω2 0 e2 σ2 H2 _ _ rel2 fr2 h2 fun b H3 ω3 e3 rel3 st3 fr3 h3 => ?_
    cases b with
    | false => exact kr.nx σ2 H3 ω3 e3 rel3 (st2.trans st3) fr3 kp2 h3
    | true =>
      refine ⟨fun σ' H' => ∃ ω' e', Rel K ω' e' σ' H' ∧ Step ω H ω' H' ∧ Free ω' 0 ∧ Keep io σ σ' ∧ whGo fc body k m e', fun σ' H' h => ⟨m, Nat.lt_succ_self _, h⟩, ?_⟩
      refine hb ω3 e3 σ2 H3 _ _ rel3 fr3 h3 ⟨fun σ' H' ω' env' a b c d e => ?_, fun σ' H' ω' env' a b c d e => ?_, fun σ' H' ω' env' a b c d e => ?_, fun v σ' H' ω' env' r a b c d e f => ?_⟩
      · exact ⟨ω', env', a, (st2.trans st3).trans b, c, kp2.trans d, e⟩
      · exact kr.nx σ' H' ω' env' a ((st2.trans st3).trans b) c (kp2.trans d) e
      · exact ⟨ω', env', a, (st2.trans st3).trans b, c, kp2.trans d, e⟩
      · exact kr.rt v σ' H' ω' env' r a ((st2.trans st3).trans b) c (kp2.trans d) e f
end
section
variable {X : Cx} {io : Nat → Bool} {tg iter c : Expr} {body : List Stmt} {fi : FI} {g : FG} {fc : FT} {fb : FS} {pos : Pos}
theorem ss_for (hp : PassesOwn (model X.prog X.w) X.A X.env X.xe) (hc : X.calm = true) (hi : SI X tg iter fi) (hg : SG X io tg g) (hb : SSs X io body fb)
    (hs : ∀ x, foldedSetIterable iter X.env x = pure x := by intro _; rfl) : SSt X io (.For tg iter body [] pos) (fFor fi g fb) := by
  obtain ⟨w, p, s⟩ := hi.ex
  obtain ⟨t, p1, s1⟩ := hg.ex
  obtain ⟨u, p2, s2⟩ := hb.ex
  exact ⟨_, ps_for hp hc p p1 p2 hs, snd_for s s1 s2⟩
theorem ss_while (hp : PassesOwn (model X.prog X.w) X.A X.env X.xe) (hc : STs X c fc) (hb : SSs X io body fb) : SSt X io (.While c body [] pos) (fWhile fc fb) := by
  obtain ⟨t, p, s⟩ := hc.ex
  obtain ⟨u, p', s'⟩ := hb.ex
  exact ⟨_, ps_while hp p p', snd_while s s'⟩
end
end Pv

/-! Pv9: list comprehensions. -/
namespace Pv
open PySem PySem.Spec PyProof.Rows L2

/-! ### readings that lean on the data alone -/
def tOfE (K : Fg) (f : FE) : TE := fun σ H Q => ∃ (ω : Om) (T : Nat) (env : Env) (R : Res → Env → Prop), Rel K ω env σ H ∧ Free ω T ∧ f env R ∧
  ∀ v H' ω' env' r, Rel K ω' env' σ H' → Step ω H ω' H' → Free ω' (T + 1) → ResR K ω' H' σ env' T v r → R r env' → Q v H'
def tOfT (K : Fg) (f : FT) : TT := fun σ H Q => ∃ (ω : Om) (T : Nat) (env : Env) (R : Bool → Env → Prop), Rel K ω env σ H ∧ Free ω T ∧ f env R ∧
  ∀ b H' ω' env', Rel K ω' env' σ H' → Step ω H ω' H' → Free ω' T → R b env' → Q b H'
def tOfG (K : Fg) (pr : Nat → Bool) (g : FG) : TG := fun v σ H Q => ∃ (d : D) (ω : Om) (env env' : Env), Rel K ω env σ H ∧ Rp K ω H v d ∧ g d env = some env' ∧ ∀ σ', Rel K ω env' σ' H → Keep pr σ σ' → Q σ' H
section
variable {X : Cx} {K : Fg}
theorem SE.pe {e : Expr} {f : FE} (h : SE X e f) : PE X e (tOfE X.K f) := by
  obtain ⟨t, p, s⟩ := h.ex
  exact ⟨fun pins st σ H Q I ⟨ω, T, env, R, rel, fr, hf, q⟩ => p.run pins st σ H Q I (s ω T env σ H R Q rel fr hf q)⟩
theorem STs.pt {e : Expr} {f : FT} (h : STs X e f) : PT X e (tOfT X.K f) := by
  obtain ⟨t, p, s⟩ := h.ex
  exact ⟨fun pins st σ H Q I ⟨ω, T, env, R, rel, fr, hf, q⟩ => p.run pins st σ H Q I (s ω T env σ H R Q rel fr hf q)⟩
theorem SG.pg {pr : Nat → Bool} {e : Expr} {g : FG} (h : SG X pr e g) : PG X e (tOfG X.K pr g) := by
  obtain ⟨t, p, s⟩ := h.ex
  exact ⟨fun pins st σ H v u Q I r ⟨d, ω, env, env', rel, rp, he, q⟩ => p.run pins st σ H v u Q I r (s v d ω env σ H env' Q rel rp he q)⟩
end
/-- a comprehension's tests -/
structure SFs (X : Cx) (ifs : List Expr) (f : FT) : Prop where
  ex : ∃ t : TT, PTs X ifs t ∧ SndT X.K t f
def fYes : FT := fun env R => R true env
section
variable {X : Cx}
theorem sf_nil : SFs X [] fYes := ⟨_, pts_nil, fun ω T env σ H R Q rel fr hf q => q true H ω env rel Step.refl fr hf⟩
theorem sf_one {c : Expr} {f : FT} (h : STs X c f) : SFs X [c] f := by
  obtain ⟨t, p, s⟩ := h.ex
  exact ⟨_, pts_one p, s⟩
theorem SFs.pt {ifs : List Expr} {f : FT} (h : SFs X ifs f) : PTs X ifs (tOfT X.K f) := by
  obtain ⟨t, p, s⟩ := h.ex
  exact ⟨fun pins st σ H Q I ⟨ω, T, env, R, rel, fr, hf, q⟩ => p.run pins st σ H Q I (s ω T env σ H R Q rel fr hf q)⟩
end

/-! ### [elt for target in iter if test] -/
def wipeE (env : Env) : List Nat → Env
  | [] => env
  | v :: vs => (wipeE env vs).set v none
/-- the block's own names as they stood ahead of it -/
def keepC : Option Cell → Option Cell
  | some ⟨0, d⟩ => some (sh d)
  | _ => none
def back (env0 : Env) (env : Env) : List Nat → Env
  | [] => env
  | v :: vs => (back env0 env vs).set v (keepC (getC env0 v))
def away (r : Res) (own : List Nat) : Bool := match r with
  | .v _ _ => true
  | .b i _ _ => !own.contains i
def lcGo (own : List Nat) (g : FG) (ft : FT) (fe : FE) (r : Res) (R : List D → Env → Prop) : List D → List D → Env → Prop
  | [], acc, env => okb env r ∧ R acc env
  | d :: ds, acc, env => okb env r ∧ toEnv (fun e1 => ft e1 fun b e2 => match b with
      | true => fe e2 fun ry e3 => noB [ry] ∧ acc.length < sizeLine ∧ lcGo own g ft fe r R ds (acc ++ [ry.d]) (wipeE e3 own)
      | false => lcGo own g ft fe r R ds acc (wipeE e2 own)) (g d env)
def fLc (own : List Nat) (fi : FI) (g : FG) (ft : FT) (fe : FE) : FE := fun env R => fi env fun r ds e1 => away r own = true ∧ apL (lcGo own g ft fe r fun acc e2 => R (.v 1 (.list acc)) (back e1 e2 own)) ds [] (wipeE e1 own)
section
variable {K : Fg} {ω : Om} {H : Hp} {env : Env} {σ : Sg}
theorem wipeE_length {env : Env} : ∀ vs : List Nat, (wipeE env vs).length = env.length
  | [] => rfl
  | v :: vs => by unfold wipeE; rw [List.length_set, wipeE_length vs]
theorem wipeE_some {env : Env} {i : Nat} {c : Cell} : ∀ {vs : List Nat}, (wipeE env vs)[i]? = some (some c) → env[i]? = some (some c) ∧ i ∉ vs
  | [], h => ⟨h, by simp⟩
  | v :: vs, h => by
    unfold wipeE at h
    by_cases e : v = i
    · subst e
      have hl : v < (wipeE env vs).length := by
        have := (List.getElem?_eq_some_iff.mp h).1
        rwa [List.length_set] at this
      rw [List.getElem?_set_self hl] at h
      cases h
    · rw [List.getElem?_set_ne e] at h
      obtain ⟨h1, h2⟩ := wipeE_some h
      exact ⟨h1, by simp [h2, Ne.symm e]⟩
theorem wipe_get {σ : Sg} {i : Nat} : ∀ {vs : List Nat}, i ∉ vs → (wipe σ vs)[i]? = σ[i]?
  | [], _ => rfl
  | v :: vs, h => by
    unfold wipe
    have h1 : v ≠ i := fun e => h (by simp [e])
    rw [List.getElem?_set_ne h1]
    exact wipe_get fun z => h (by simp [z])
theorem wipe_none {σ : Sg} {i : Nat} : ∀ {vs : List Nat}, i ∈ vs → i < σ.length → (wipe σ vs)[i]? = some none
  | [], h, _ => by simp at h
  | v :: vs, h, hl => by
    unfold wipe
    by_cases e : v = i
    · subst e
      rw [List.getElem?_set_self (by rw [wipe_length]; exact hl)]
    · rw [List.getElem?_set_ne e]
      rcases List.mem_cons.mp h with z | z
      · exact absurd z.symm e
      · exact wipe_none z hl
theorem wipe_eq {σ σ' : Sg} {vs : List Nat} (hl : σ'.length = σ.length) (hk : ∀ i, i ∉ vs → σ'[i]? = σ[i]?) : wipe σ' vs = wipe σ vs := by
  apply List.ext_getElem?
  intro i
  by_cases hi : i ∈ vs
  · by_cases hlt : i < σ.length
    · rw [wipe_none hi (by rw [hl]; exact hlt), wipe_none hi hlt]
    · rw [List.getElem?_eq_none (by rw [wipe_length, hl]; omega), List.getElem?_eq_none (by rw [wipe_length]; omega)]
  · rw [wipe_get hi, wipe_get hi, hk i hi]
theorem wipe_wipe {σ : Sg} {vs : List Nat} : wipe (wipe σ vs) vs = wipe σ vs := wipe_eq (wipe_length _ _) fun i hi => wipe_get hi
theorem Rel.wipe (rel : Rel K ω env σ H) (vs : List Nat) : Rel K ω (wipeE env vs) (L2.wipe σ vs) H := by
  refine ⟨rel.tab, by rw [wipeE_length, wipe_length]; exact rel.len, fun i c e => ?_⟩
  obtain ⟨h1, h2⟩ := wipeE_some e
  obtain ⟨v, hv, ho⟩ := rel.cell i c h1
  exact ⟨v, by rw [wipe_get h2]; exact hv, ho⟩
/-- behind the block -/
theorem Rel.back {ω0 : Om} {H0 : Hp} {env0 : Env} (rel0 : Rel K ω0 env0 σ H0) (st : Step ω0 H0 ω H) {own : List Nat} (rel : Rel K ω env (L2.wipe σ own) H) : ∀ {vs : List Nat}, (∀ i ∈ vs, i ∈ own) → Rel K ω (Pv.back env0 env vs) σ H
  | [], _ => by
    refine ⟨rel.tab, by rw [show Pv.back env0 env [] = env from rfl, ← rel.len, wipe_length], fun i c e => ?_⟩
    obtain ⟨v, hv, ho⟩ := rel.cell i c e
    exact ⟨v, (wipe_some hv).1, ho⟩
  | v :: vs, h => by
    have ih := Rel.back rel0 st rel (vs := vs) fun i hi => h i (by simp [hi])
    unfold Pv.back
    have drop : Rel K ω ((Pv.back env0 env vs).set v none) σ H := ⟨ih.tab, by rw [List.length_set]; exact ih.len, fun i c e => by
      by_cases ej : v = i
      · subst ej
        by_cases hl : v < (Pv.back env0 env vs).length
        · rw [List.getElem?_set_self hl] at e; cases e
        · rw [List.getElem?_eq_none (by rw [List.length_set]; omega)] at e; cases e
      · rw [List.getElem?_set_ne ej] at e; exact ih.cell i c e⟩
    cases hc : getC env0 v with
    | none => exact drop
    | some c =>
      obtain ⟨k, d⟩ := c
      cases k with
      | succ k => exact drop
      | zero =>
        obtain ⟨u, hu, ho⟩ := rel0.cell v _ (getC_some hc)
        have rp : Rp K ω H u d := Rp.sh st.sh _ _ ho
        have := ih.put (i := v) (v := u) (c := sh d) rp
        have e : σ.set v (some u) = σ := by
          apply List.ext_getElem?
          intro j
          by_cases ej : v = j
          · subst ej
            have hl : v < σ.length := (List.getElem?_eq_some_iff.mp hu).1
            rw [List.getElem?_set_self hl, hu]
          · rw [List.getElem?_set_ne ej]
        rw [e] at this
        exact this
theorem snd_lc {wi : TI} {fi : FI} {g : FG} {ft : FT} {fe : FE} {own : List Nat} (hi : SndI K wi fi) : SndE K (tLc wi (tOfG K (fun j => !own.contains j) g) (tOfT K ft) (tOfE K fe) own) (fLc own fi g ft fe) := by
  intro ω T env σ H R Q rel fr hR q
  refine hi ω T env σ H _ _ rel fr hR fun J H1 ω1 e1 r items rel1 st1 fr1 it ok1 h1 => ?_
  obtain ⟨haw, h1⟩ := h1
  have h1 := apL_cl h1
  intro D hD
  have sameR : ∀ σ1 : Sg, (∀ i, i ∉ own → σ1[i]? = σ[i]?) → sameAt r σ σ1 := fun σ1 hs => by
    cases r with
    | v _ _ => trivial
    | b i _ _ =>
      refine hs i fun z => ?_
      have haw' : (!own.contains i) = true := haw
      rw [List.contains_iff_mem.mpr z] at haw'
      cases haw'
  have g0 : Grow ω1 H1 (putO D (.tmp T []) ω1) (upd H1 D (.lst [])) := put_grow hD
  refine ⟨fun i m H' => m = items.length - i ∧ i ≤ items.length ∧ ∃ (ω' : Om) (env' : Env) (acc : List V) (accd : List PyData), Rel K ω' env' (L2.wipe σ own) H' ∧ Step ω1 H1 ω' H' ∧ Free ω' (T + 1) ∧ H' D = some (.lst acc) ∧ ω' D = .tmp T [] ∧ RpAll K ω' H' acc accd ∧
      lcGo own g ft fe r (fun acc e2 => R (.v 1 (.list acc)) (Pv.back e1 e2 own)) (items.drop i) accd env',
    ⟨items.length, by simp, Nat.zero_le _, putO D (.tmp T []) ω1, wipeE e1 own, [], [], (rel1.grow g0).wipe own, g0.step, put_free fr1, upd_same, putO_same, .nil, h1⟩, ?_⟩
  rintro i m H2 ⟨rfl, hil, ω2, e2, acc, accd, rel2, st2, fr2, hD2, oD2, rp2, h2⟩
  by_cases hlt : i < items.length
  · have ed : items.drop i = items[i] :: items.drop (i + 1) := List.drop_eq_getElem_cons hlt
    rw [ed] at h2
    obtain ⟨okr, h2⟩ := h2
    obtain ⟨go, _⟩ := it ω2 H2 e2 (L2.wipe σ own) rel2 st2.sh okr (sameR _ fun i hi => wipe_get hi) i
    obtain ⟨g1, g2⟩ := go _ (List.getElem?_eq_getElem hlt)
    refine .inr ⟨g1, fun H' => ∃ (ω' : Om) (env' : Env) (acc : List V) (accd : List PyData), Rel K ω' env' (L2.wipe σ own) H' ∧ Step ω1 H1 ω' H' ∧ Free ω' (T + 1) ∧ H' D = some (.lst acc) ∧ ω' D = .tmp T [] ∧ RpAll K ω' H' acc accd ∧
      lcGo own g ft fe r (fun acc e2 => R (.v 1 (.list acc)) (Pv.back e1 e2 own)) (items.drop (i + 1)) accd env', fun H' h => ⟨items.length - (i + 1), by omega, rfl, hlt, h⟩, fun x H3 y => ?_⟩
    obtain ⟨ω3, gr, fr3, rpx⟩ := g2 x H3 y
    obtain ⟨e3, he, h3⟩ := toEnv_ex h2
    have D3 : H3 D = some (.lst acc) ∧ ω3 D = .tmp T [] := by
      obtain ⟨a, b⟩ := gr D _ hD2
      exact ⟨a, b.trans oD2⟩
    refine ⟨_, ω3, e2, e3, rel2.grow gr, rpx, he, fun σ4 rel4 kp4 => ?_⟩
    have wp4 : L2.wipe σ4 own = L2.wipe σ own := by
      refine (wipe_eq (σ := L2.wipe σ own) kp4.1 fun j hj => ?_).trans wipe_wipe
      exact kp4.2 j (by
        show (!own.contains j) = true
        cases z : own.contains j with
        | false => rfl
        | true => exact absurd (List.contains_iff_mem.mp z) hj)
    refine ⟨wp4, ω3, T + 1, e3, _, rel4, fr3 _ fr2, h3, fun b H5 ω5 e5 rel5 st5 fr5 h5 => ?_⟩
    have D5 : H5 D = some (.lst acc) ∧ ω5 D = .tmp T [] := by
      rcases st5 D _ D3.1 (by rw [D3.2]; exact nofun) with ⟨_, _, z⟩ | ⟨z1, z2⟩
      · rw [D3.2] at z; cases z
      · exact ⟨z1, z2.trans D3.2⟩
    cases b with
    | false =>
      show ∃ _, _
      exact ⟨ω5, wipeE e5 own, acc, accd, by rw [← wp4]; exact rel5.wipe own, (st2.grow gr).trans st5, fr5, D5.1, D5.2, RpAll.sh st5.sh _ _ (RpAll.sh gr.step.sh _ _ rp2), h5⟩
    | true =>
      show tOfE K fe σ4 H5 _
      refine ⟨ω5, T + 1, e5, _, rel5, fr5, h5, fun yv H6 ω6 e6 ry rel6 st6 fr6 rr6 h6 => ?_⟩
      obtain ⟨nb, hlen, h6⟩ := h6
      have D6 : H6 D = some (.lst acc) ∧ ω6 D = .tmp T [] := by
        rcases st6 D _ D5.1 (by rw [D5.2]; exact nofun) with ⟨_, _, z⟩ | ⟨z1, z2⟩
        · rw [D5.2] at z; cases z
        · exact ⟨z1, z2.trans D5.2⟩
      have rp6 : RpAll K ω6 H6 acc accd := RpAll.sh st6.sh _ _ (RpAll.sh st5.sh _ _ (RpAll.sh gr.step.sh _ _ rp2))
      refine ⟨acc, D6.1, by rw [rp6.length]; exact hlen, ?_⟩
      have ry6 : Rp K (gc (T + 1) ω6) H6 yv ry.d := by
        cases ry with
        | b _ _ _ => exact nb.elim
        | v kk dd => exact ResR.gc (env := e6) (r := .v kk dd) rr6 rel6 (Nat.le_refl _)
      have oD : gc (T + 1) ω6 D = .tmp T [] := by
        show gcO (T + 1) (ω6 D) = _
        rw [D6.2]
        show (if T + 1 ≤ T then Ow.shr else .tmp T []) = _
        rw [if_neg (by omega)]
      have shD : Sh (gc (T + 1) ω6) H6 (gc (T + 1) ω6) (upd H6 D (.lst (acc ++ [yv]))) := sh_upd (by rw [oD]; exact fun z => by cases z)
      refine ⟨gc (T + 1) ω6, wipeE e6 own, acc ++ [yv], accd ++ [ry.d], ?_, ?_, gc_free, upd_same, oD, RpAll.sh shD _ _ ((RpAll.sh gc_sh _ _ rp6).append (.cons ry6 .nil)), h6⟩
      · -- the slots' own objects are not the new list
        have rw6 : Rel K (gc (T + 1) ω6) (wipeE e6 own) (L2.wipe σ own) H6 := by rw [← wp4]; exact (rel6.gc (T + 1)).wipe own
        refine ⟨rw6.tab.go fun b o hb e => ⟨by rw [upd_ne (fun z => by subst z; rw [oD] at e; cases e)]; exact hb, e⟩, rw6.len, fun n c e => ?_⟩
        obtain ⟨v', hv, ho⟩ := rw6.cell n c e
        refine ⟨v', hv, OwR.go shD (fun a u p z1 z2 => ⟨?_, z2⟩) _ _ _ _ ho⟩
        have ne : a ≠ D := fun z => by subst z; rw [oD] at z2; cases z2
        rw [upd_ne ne]; exact z1
      · intro a o ha na
        have st : Step ω1 H1 (gc (T + 1) ω6) H6 := (((st2.grow gr).trans st5).trans st6).gc (fun a t p e => Nat.lt_succ_of_lt (fr1 a t p e))
        rcases st a o ha na with z | ⟨z1, z2⟩
        · exact .inl z
        · refine .inr ⟨?_, z2⟩
          rw [upd_ne (ne_of_none ha hD)]; exact z1
  · have ei : i = items.length := by omega
    subst ei
    rw [List.drop_length] at h2
    obtain ⟨_, stop⟩ := it ω2 H2 e2 (L2.wipe σ own) rel2 st2.sh h2.1 (sameR _ fun i hi => wipe_get hi) items.length
    refine .inl ⟨stop (Nat.le_refl _), ?_⟩
    refine q (.ref D) H2 ω2 _ (.v 1 (.list accd)) (Rel.back rel1 st2 rel2 fun i hi => hi) (st1.trans st2) fr2 ?_ h2.2
    exact .inr (.inl ⟨D, acc, accd, rfl, rfl, hD2, oD2, rp2.length, fun j v' d' z1 z2 => rp2.get z1 z2⟩)
end
section
variable {X : Cx} {elt tg iter : Expr} {ifs : List Expr} {scope : Scope} {own : List (Str × Nat)} {pos : Pos} {fi : FI} {g : FG} {ft : FT} {fe : FE}
theorem se_lc (hc : X.calm = true) (hN : X.N.Nodup) (hi : SI X tg iter fi) (ok : BlkOk X.N X.env.scope scope own)
    (hg : ∀ (s : Shared) (H : Hp) (C : Addr) (cl : List (Str × Addr)) (fp : List Addr), SG (X.blk s H scope (compEnvC scope cl C X.env) fp) (fun j => !(own.map (·.2)).contains j) tg g)
    (ht : ∀ (s : Shared) (H : Hp) (C : Addr) (cl : List (Str × Addr)) (fp : List Addr), SFs (X.blk s H scope (compEnvC scope cl C X.env) fp) ifs ft)
    (he : ∀ (s : Shared) (H : Hp) (C : Addr) (cl : List (Str × Addr)) (fp : List Addr), SE (X.blk s H scope (compEnvC scope cl C X.env) fp) elt fe) (hs : ∀ x, foldedSetIterable iter X.env x = pure x := by intro _; rfl) :
    SE X (.ListComp elt [⟨tg, iter, ifs, 0⟩] scope pos) (fLc (own.map (·.2)) fi g ft fe) := by
  obtain ⟨w, p, s⟩ := hi.ex
  exact ⟨_, pe_lc hc hN p ok (fun a b c d e => (hg a b c d e).pg) (fun a b c d e => (ht a b c d e).pt) (fun a b c d e => (he a b c d e).pe) hs, snd_lc s⟩
variable {io : Nat → Bool} {y : Str} {py spos : Pos}
theorem ss_setLc (i : Nat) (hc : X.calm = true) (hN : X.N.Nodup) (hsw : swapsWith (.ListComp elt [⟨tg, iter, ifs, 0⟩] scope pos) (some (.Name y py)) spos.line X.env = pure true) (hi : SI X tg iter fi) (ok : BlkOk X.N X.env.scope scope own)
    (hg : ∀ (s : Shared) (H : Hp) (C : Addr) (cl : List (Str × Addr)) (fp : List Addr), SG (X.blk s H scope (compEnvC scope cl C X.env) fp) (fun j => !(own.map (·.2)).contains j) tg g)
    (ht : ∀ (s : Shared) (H : Hp) (C : Addr) (cl : List (Str × Addr)) (fp : List Addr), SFs (X.blk s H scope (compEnvC scope cl C X.env) fp) ifs ft)
    (he : ∀ (s : Shared) (H : Hp) (C : Addr) (cl : List (Str × Addr)) (fp : List Addr), SE (X.blk s H scope (compEnvC scope cl C X.env) fp) elt fe) (hy : X.N[i]? = some y := by rfl) (hyl : X.env.scope.names.lookup y = some .local := by rfl) (hio : io i = false := by decide) (hs : ∀ x, foldedSetIterable iter X.env x = pure x := by intro _; rfl) :
    SSt X io (.Assign [.Name y py] (.ListComp elt [⟨tg, iter, ifs, 0⟩] scope pos) spos) (fAsg i (fLc (own.map (·.2)) fi g ft fe)) := by
  obtain ⟨w, p, s⟩ := hi.ex
  exact ⟨_, ps_setLc hc hN hy hyl hsw p ok (fun a b c d e => (hg a b c d e).pg) (fun a b c d e => (ht a b c d e).pt) (fun a b c d e => (he a b c d e).pe) hs, snd_asg (snd_lc s) hio⟩
end
end Pv

/-! Pv10: a def's promise by its body; calls with keywords; several stores at once. -/
namespace Pv
open PySem PySem.Spec PyProof.Rows L2

/-! ### the promise of a def -/
def startE (n : Nat) (args : List Cell) : Env := args.map some ++ List.replicate (n - args.length) none
def ioP (ms : List Bool) : Nat → Bool := fun j => ms.getD j false
def ioC : List Bool → Env → (List Cell → Prop) → Prop
  | [], _, P => P []
  | true :: ms, some c :: e, P => ioC ms e fun cs => P (c :: cs)
  | false :: ms, _ :: e, P => ioC ms e P
  | _, _, _ => False
def defK (ms : List Bool) (R : Cell → List Cell → Prop) : Kt where
  nx := fun e => ioC ms e fun ios => R (sh .none) ios
  rt := fun r e => match r with
    | .v k d => ioC ms e fun ios => R ⟨k, d⟩ ios
    | .b _ _ _ => False
section
variable {K : Fg} {ω : Om} {H : Hp}
theorem ArgR.at_ : ∀ {vs : List V} {ms : List Bool} {cs : List Cell} {j i : Nat} {c : Cell}, ArgR K ω H j vs ms cs → cs[i]? = some c → ∃ v, vs[i]? = some v ∧ OwR K ω H c.k (Ow.own (j + i)) [] v c.d
  | v :: vs, true :: ms, c' :: cs, j, 0, c, h, e => by
    have e' := Option.some.inj e
    subst e'
    exact ⟨v, rfl, h.1⟩
  | v :: vs, false :: ms, c' :: cs, j, 0, c, h, e => by
    have e' := Option.some.inj e
    subst e'
    refine ⟨v, rfl, ?_⟩
    rw [h.1.1]
    exact h.1.2
  | v :: vs, true :: ms, c' :: cs, j, i + 1, c, h, e => by
    obtain ⟨u, hu, ho⟩ := ArgR.at_ (i := i) h.2 (by simpa using e)
    exact ⟨u, by simpa using hu, by rw [show j + (i + 1) = j + 1 + i by omega]; exact ho⟩
  | v :: vs, false :: ms, c' :: cs, j, i + 1, c, h, e => by
    obtain ⟨u, hu, ho⟩ := ArgR.at_ (i := i) h.2 (by simpa using e)
    exact ⟨u, by simpa using hu, by rw [show j + (i + 1) = j + 1 + i by omega]; exact ho⟩
  | [], [], [], _, _, _, _, e => by simp at e
  | [], [], _ :: _, _, _, _, h, _ => h.elim
  | [], _ :: _, _, _, _, _, h, _ => h.elim
  | _ :: _, [], _, _, _, _, h, _ => h.elim
  | _ :: _, true :: _, [], _, _, _, h, _ => h.elim
  | _ :: _, false :: _, [], _, _, _, h, _ => h.elim
theorem io_out : ∀ {ms : List Bool} {e : Env} {vs : List V} {P : List Cell → Prop} (j : Nat), vs.length = ms.length → (∀ (n : Nat) (c : Cell) (v : V), e[n]? = some (some c) → ms[n]? = some true → vs[n]? = some v → OwR K ω H c.k (Ow.own (j + n)) [] v c.d) → ioC ms e P →
    ∃ ios, P ios ∧ IoOut K ω H j vs ms ios
  | [], e, [], P, j, _, _, h => ⟨[], h, trivial⟩
  | [], _, _ :: _, _, _, hl, _, _ => by cases hl
  | _ :: _, _, [], _, _, hl, _, _ => by cases hl
  | true :: ms, some c :: e, v :: vs, P, j, hl, ho, h => by
    obtain ⟨ios, h1, h2⟩ := io_out (ms := ms) (e := e) (vs := vs) (j + 1) (Nat.succ.inj hl) (fun n c v a b d => by
      have := ho (n + 1) c v (by simpa using a) (by simpa using b) (by simpa using d)
      rw [show j + 1 + n = j + (n + 1) by omega]; exact this) h
    exact ⟨c :: ios, h1, ho 0 c v rfl rfl rfl, h2⟩
  | false :: ms, o :: e, v :: vs, P, j, hl, ho, h => by
    obtain ⟨ios, h1, h2⟩ := io_out (ms := ms) (e := e) (vs := vs) (j + 1) (Nat.succ.inj hl) (fun n c v a b d => by
      have := ho (n + 1) c v (by simpa using a) (by simpa using b) (by simpa using d)
      rw [show j + 1 + n = j + (n + 1) by omega]; exact this) h
    exact ⟨ios, h1, h2⟩
  | true :: _, none :: _, _ :: _, _, _, _, _, h => h.elim
  | true :: _, [], _ :: _, _, _, _, _, h => h.elim
  | false :: _, [], _ :: _, _, _, _, _, h => h.elim
end
section
variable {P : Program} {w : World} {K : Fg} {mg : Str → Option Value} {base : Heap}
/-- THE RULE of a def -/
theorem fnok_mkC {x qual : Str} {st : Stmt} {f : Addr} {fd : FuncData} {N ps : List Str} {k : Nat} {ms : List Bool} {φ : Phi} (F : Fun K x qual st f fd) (S : FnScope N ps (defScope st)) (body : FS)
    (hbody : ∀ (cdv : Value), fd.code = cdv → ∀ (A : Around) (outer : List PySem.Env) (s : Shared) (H : Hp) (E : XK), Room k (A.deeper (envOfC qual (defScope st) s.heap.objs.size f cdv)) → (A.deeper (envOfC qual (defScope st) s.heap.objs.size f cdv)).guards = some [] → SSs (cxOf CX0 P w K mg base N qual (defScope st) f cdv A outer s H E).nox (ioP ms) (defBody st) body)
    (vc : ∀ args R, φ args R → body (startE N.length args) (defK ms R)) (hms : ms.length = ps.length := by rfl) : FnG P w K mg base CX0 (k + 1) f fd ps (spOf K ms φ) := by
  refine fng_of F S (fun vs H Q E h => (spOf_len h).trans hms) (fun cdv hcdv A outer s H vs Q E hr hG h => ?_)
  obtain ⟨ω, args, R, ha, ⟨tab, fr⟩, hφ, q⟩ := h
  obtain ⟨t, pt, sn⟩ := (hbody cdv hcdv A outer s H E hr hG).ex
  refine ⟨t, pt, ?_⟩
  obtain ⟨l1, l2⟩ := ha.length
  have σ0 : ∀ (n : Nat) (v : V), vs[n]? = some v → (L2.start N vs)[n]? = some (some v) := fun n v hv => by
    unfold L2.start
    have hl : n < vs.length := (List.getElem?_eq_some_iff.mp hv).1
    rw [List.getElem?_append_left (by rw [List.length_map]; exact hl), List.getElem?_map, hv]
    rfl
  have rel : Rel K ω (startE N.length args) (L2.start N vs) H := by
    refine ⟨tab, by unfold startE L2.start; rw [List.length_append, List.length_append, List.length_map, List.length_map, List.length_replicate, List.length_replicate, l2], fun i c e => ?_⟩
    unfold startE at e
    by_cases hi : i < args.length
    · rw [List.getElem?_append_left (by rw [List.length_map]; exact hi), List.getElem?_map] at e
      cases hc : args[i]? with
      | none => rw [hc] at e; cases e
      | some c' =>
        rw [hc] at e
        have e' : c' = c := Option.some.inj (Option.some.inj e)
        subst e'
        obtain ⟨v, hv, ho⟩ := ha.at_ hc
        rw [Nat.zero_add] at ho
        exact ⟨v, σ0 i v hv, ho⟩
    · rw [List.getElem?_append_right (by rw [List.length_map]; omega)] at e
      have := List.mem_of_getElem? e
      have := List.eq_of_mem_replicate this
      cases this
  have fin : ∀ {σ' : Sg} {H' : Hp} {ω' : Om} {env' : Env} {Pk : List Cell → Prop}, Rel K ω' env' σ' H' → Keep (ioP ms) (L2.start N vs) σ' → ioC ms env' Pk → ∃ ios, Pk ios ∧ IoOut K ω' H' 0 vs ms ios := fun {σ' H' ω' env' Pk} rel' kp h => by
    refine io_out 0 l1 (fun n c v a b d => ?_) h
    obtain ⟨v', hv, ho⟩ := rel'.cell n c a
    have e1 := kp.2 n (by unfold ioP; rw [List.getD_eq_getElem?_getD, b]; rfl)
    rw [hv, σ0 n v d] at e1
    have e2 : v' = v := Option.some.inj (Option.some.inj e1)
    subst e2
    rw [Nat.zero_add]
    exact ho
  refine sn ω (startE N.length args) (L2.start N vs) H _ (defK ms R) rel fr (vc args R hφ) ⟨fun σ' H' ω' env' a b c d e => ?_, fun σ' H' ω' env' a b c d e => e, fun σ' H' ω' env' a b c d e => e, fun v σ' H' ω' env' r a b c d e f => ?_⟩
  · obtain ⟨ios, h1, h2⟩ := fin a d e
    exact q .non H' ω' (sh .none) ios ⟨a.tab, b⟩ h2 Rp.non h1
  · cases r with
    | b _ _ _ => exact f.elim
    | v kk dd =>
      obtain ⟨ios, h1, h2⟩ := fin a d f
      exact q v H' ω' ⟨kk, dd⟩ ios ⟨a.tab, b⟩ h2 e h1
theorem fnok_mk {x qual : Str} {st : Stmt} {f : Addr} {fd : FuncData} {N ps : List Str} {k : Nat} {ms : List Bool} {φ : Phi} (F : Fun K x qual st f fd) (S : FnScope N ps (defScope st)) (body : FS)
    (hbody : ∀ (cdv : Value) (A : Around) (outer : List PySem.Env) (s : Shared) (H : Hp) (E : XK), Room k (A.deeper (envOfC qual (defScope st) s.heap.objs.size f cdv)) → (A.deeper (envOfC qual (defScope st) s.heap.objs.size f cdv)).guards = some [] → SSs (cxOf CX0 P w K mg base N qual (defScope st) f cdv A outer s H E).nox (ioP ms) (defBody st) body)
    (vc : ∀ args R, φ args R → body (startE N.length args) (defK ms R)) (hms : ms.length = ps.length := by rfl) : FnG P w K mg base CX0 (k + 1) f fd ps (spOf K ms φ) := fnok_mkC F S body (fun cdv _ A outer s H E => hbody cdv A outer s H E) vc hms
/-- a promise of nothing -/
theorem fnok_no {x qual : Str} {st : Stmt} {f : Addr} {fd : FuncData} {N ps : List Str} {k : Nat} {ms : List Bool} (F : Fun K x qual st f fd) (S : FnScope N ps (defScope st)) : FnG P w K mg base CX0 (k + 1) f fd ps (spOf K ms fun _ _ => False) :=
  fng_of F S (fun vs H Q E h => by obtain ⟨_, _, _, _, _, z, _⟩ := h; exact z.elim) (fun cdv _ A outer s H vs Q E hr hG h => by obtain ⟨_, _, _, _, _, z, _⟩ := h; exact z.elim)
/-- a weaker promise -/
theorem Fnc.imp {k : Nat} {x : Str} {ms : List Bool} {φ ψ : Phi} (h : Fnc P w K mg base k x ms φ) (hi : ∀ args R, ψ args R → φ args R) : Fnc P w K mg base k x ms ψ := by
  obtain ⟨f, fd, ps, F, a, b, c⟩ := h.ex
  exact ⟨f, fd, ps, F.imp fun vs H Q E ⟨ω, args, R, z1, z2, z3, z4⟩ => ⟨ω, args, R, z1, z2, hi args R z3, z4⟩, a, b, c⟩
theorem Fnc.mono {j k : Nat} {x : Str} {ms : List Bool} {φ : Phi} (h : Fnc P w K mg base j x ms φ) (hk : j ≤ k) : Fnc P w K mg base k x ms φ := by
  obtain ⟨f, fd, ps, F, a, b, c⟩ := h.ex
  exact ⟨f, fd, ps, F.mono hk, a, b, c⟩
end

/-! ### f(.., k = v) -/
/-- how a call with keywords binds: perm tells, parameter by parameter, which of the values as written it takes -/
def KwB (K : Fg) (fd : FuncData) (ps : List Str) (n : Nat) (ks : List Str) (perm : List Nat) : Prop := KBn K fd ps n ks (fun us ws => permU perm (us ++ ws)) (fun vs zs => permV perm (vs ++ zs))
theorem kwb_of {K : Fg} {x qual : Str} {st : Stmt} {f : Addr} {fd : FuncData} {ps ks : List Str} {n : Nat} {perm : List Nat} (F : Fun K x qual st f fd)
    (h : ∀ (kV doc pm : Value) (an : Option Addr) (cdv ct : Value) (us ws : List Value), us.length = n → ws.length = ks.length → bindArgs (PySem.W.fnOf x qual (defArgs st) (defBody st) (defScope st) .none kV doc pm an cdv ct) ⟨us, ks.zip ws⟩ = pure (ps.zip (permU perm (us ++ ws)))) : KwB K fd ps n ks perm := by
  obtain ⟨oc, od, kV, doc, pm, an, cdv, ct, osl, rfl, lk, hcd⟩ := F.ex
  exact ⟨fun s us ws _ l1 l2 => .of_eq (h kV doc pm an cdv ct us ws l1 l2), fun r1 r2 => Pv.Vals.perm (r1.append r2) perm⟩
/-- a def that may be called with these keywords -/
structure FncK (P : Program) (w : World) (K : Fg) (mg : Str → Option Value) (base : Heap) (k : Nat) (x : Str) (m n : Nat) (ks : List Str) (perm : List Nat) (φ : Phi) : Prop where
  ex : ∃ (f : Addr) (fd : FuncData) (ps : List Str), FnG P w K mg base CX0 k f fd ps (spOf K (List.replicate m false) φ) ∧ mg x = some (.ref f) ∧ PySem.W.keepIn K (.ref f) = true ∧ KwB K fd ps n ks perm
section
variable {X : Cx} {K : Fg}
theorem snd_callK {m n nk : Nat} {perm : List Nat} {φ : Phi} {ta tk : TA} {fa fk : FA} (hp : perm.length = m) (ha : SndA K ta fa) (hk : SndA K tk fk) :
    SndE K (tCallN n nk (spOf K (List.replicate m false) φ) (fun vs zs => permV perm (vs ++ zs)) (fun _ _ _ => False) ta tk) (fCallK n nk perm φ fa fk) := by
  intro ω T env σ H R Q rel fr hR q
  refine ha ω T env σ H _ _ rel fr hR fun vs H1 ω1 e1 rs rel1 st1 fr1 rr1 h1 => ?_
  obtain ⟨nb, hl, h1⟩ := h1
  have va := (rr1.gc (T0 := T) rel1 (Nat.le_refl _)).rp nb
  refine hk (gc T ω1) T e1 σ H1 _ _ (rel1.gc T) gc_free h1 fun zs H2 ω2 e2 ks' rel2 st2 fr2 rr2 h2 => ?_
  obtain ⟨nb2, hkl, h2⟩ := h2
  have vz := (rr2.gc (T0 := T) rel2 (Nat.le_refl _)).rp nb2
  have va2 : RpAll K (gc T ω2) H2 vs (dsOf rs) := RpAll.sh gc_sh _ _ (RpAll.sh st2.sh _ _ va)
  have all := RpAll.perm (va2.append vz) perm
  have lz : (permD perm (dsOf rs ++ dsOf ks')).length = m := by unfold permD; rw [List.length_map]; exact hp
  refine ⟨?_, ?_, ?_⟩
  · rw [va.length]; unfold dsOf; rw [List.length_map]; exact hl
  · rw [vz.length]; unfold dsOf; rw [List.length_map]; exact hkl
  · refine call_core (T := T) (rs := allV (permD perm (dsOf rs ++ dsOf ks'))) (R := R) fr (rel2.gc T) (((st1.gc fr).trans st2).gc fr) (resAll_v T all) ?_ ?_ (args := (permD perm (dsOf rs ++ dsOf ks')).map sh) ?_ q
    · rw [ioIx_v]; rfl
    · rw [← lz]; exact mkArgs_v _
    · have e : (fun (c : Cell) (ios : List Cell) => R (.v c.k c.d) (putIos e2 (List.replicate m false) (allV (permD perm (dsOf rs ++ dsOf ks'))) ios)) = fun c _ => R (.v c.k c.d) e2 := by
        funext c ios
        rw [putIos_v]
      rw [e]
      exact (apP_cl h2)
variable {k j m n nk : Nat} {x : Str} {ks : List Str} {perm : List Nat} {φ : Phi} {e : Expr} {es : List Expr} {kws : List Keyword} {fa fk : FA} {p pos : Pos}
theorem se_callK0 (c : FncK X.prog X.w X.K X.mg X.base k x m 0 ks perm φ) (hr : Room j X.A) (hG : X.A.guards = some []) (hkw : SK X kws fk) (hp : perm.length = m := by rfl) (hk : k ≤ j := by decide) (hg : Gl X x := by rfl)
    (hall : (backToKw pos (keywordEach kws X.env)).all (·.1.isSome) = true := by rfl) (hks : (backToKw pos (keywordEach kws X.env)).filterMap (·.1) = ks := by rfl)
    (hdb : (x == ("__debug__" : Str)) = false := by decide) (hpl : ((backTo pos (starEach [] X.env)).any (·.1) || (backToKw pos (keywordEach kws X.env)).any (·.1.isNone)) = false := by rfl) (hnk : ks.length = nk := by rfl) : SE X (.Call (.Name x p) [] kws pos) (fCallK 0 nk perm φ fNil fk) := by
  subst hnk
  obtain ⟨f, fd, ps, F, hm, hkp, hb⟩ := c.ex
  obtain ⟨u, q', s'⟩ := hkw.ex
  exact ⟨_, pe_gN0 F hG (hr.mono hk) hg hm hkp hb q' hall hks hdb hpl, snd_callK hp snd_nil s'⟩
end

/-! ### a, b = x, y -/
def setRes : List Nat → List Bool → List Res → Env → Option Env
  | [], [], [], e => some e
  | i :: is, b :: bs, .v n d :: rs, e => setRes is bs rs (e.set i (some (if b then ⟨n, d⟩ else sh d)))
  | _, _, _, _ => none
def fPar (is : List Nat) (bs : List Bool) (fa : FA) : FS := fun env k => fa env fun rs e => toEnv k.nx (setRes is bs rs e)
def setSt : List Nat → List V → Sg → Sg
  | i :: is, v :: vs, σ => setSt is vs (σ.set i (some v))
  | _, _, σ => σ
def parO (is : List Nat) (bs : List Bool) : Ow → Ow
  | .tmp t p => match is[t]?, bs[t]? with
    | some i, some true => .own i p
    | _, _ => .shr
  | o => o
section
variable {K : Fg} {io : Nat → Bool} {ω : Om} {H : Hp}
theorem set_res {IS : List Nat} {BS : List Bool} {σ0 : Sg} {env0 : Env} : ∀ {is : List Nat} {bs : List Bool} {vs : List V} {rs : List Res} {env env' : Env} {σ : Sg} (j : Nat), (∀ n, is[n]? = IS[j + n]?) → (∀ n, bs[n]? = BS[j + n]?) → ResAll K ω H σ0 env0 j vs rs → Rel K (ren (parO IS BS) ω) env σ H → (∀ i ∈ is, io i = false) → setRes is bs rs env = some env' →
    Rel K (ren (parO IS BS) ω) env' (setSt is vs σ) H ∧ Keep io σ (setSt is vs σ)
  | [], [], [], [], env, env', σ, j, _, _, _, rel, _, h => by
    cases h
    exact ⟨rel, Keep.refl⟩
  | i :: is, b :: bs, v :: vs, .v n d :: rs, env, env', σ, j, hi, hb, hA, rel, hio, h => by
    obtain ⟨h1, h2⟩ := hA
    have gsh : Sh ω H (ren (parO IS BS) ω) H := fun a o h e => ⟨h, by show parO IS BS (ω a) = _; rw [e]; rfl⟩
    have i0 : IS[j]? = some i := (hi 0).symm
    have b0 : BS[j]? = some b := (hb 0).symm
    have ow : OwR K (ren (parO IS BS) ω) H (if b then (⟨n, d⟩ : Cell) else sh d).k (Ow.own i) [] v (if b then (⟨n, d⟩ : Cell) else sh d).d := by
      cases b with
      | true =>
        exact OwR.go gsh (fun a u p z1 z2 => ⟨z1, by
          show parO IS BS (ω a) = _
          rw [z2]
          show (match IS[j]?, BS[j]? with | some i, some true => Ow.own i p | _, _ => Ow.shr) = _
          rw [i0, b0]⟩) _ _ _ _ h1
      | false =>
        exact OwR.fz gsh (fun a u p z1 z2 => ⟨z1, by
          show parO IS BS (ω a) = _
          rw [z2]
          show (match IS[j]?, BS[j]? with | some i, some true => Ow.own i p | _, _ => Ow.shr) = _
          rw [i0, b0]⟩) _ _ _ _ h1
    have rel' := rel.put (i := i) ow
    have hr := set_res (j + 1) (is := is) (bs := bs) (vs := vs) (rs := rs) (fun n => by
      have := hi (n + 1)
      rw [List.getElem?_cons_succ] at this
      rw [this]; congr 1; omega) (fun n => by
      have := hb (n + 1)
      rw [List.getElem?_cons_succ] at this
      rw [this]; congr 1; omega) h2 rel' (fun i' hi' => hio i' (List.mem_cons_of_mem _ hi')) h
    exact ⟨hr.1, (Keep.set (hio i List.mem_cons_self)).trans hr.2⟩
  | [], [], [], _ :: _, _, _, _, _, _, _, hA, _, _, _ => hA.elim
  | [], [], _ :: _, [], _, _, _, _, _, _, hA, _, _, _ => hA.elim
  | [], [], _ :: _, _ :: _, _, _, _, _, _, _, _, _, _, h => by cases h
  | [], _ :: _, _, _, _, _, _, _, _, _, _, _, _, h => by cases h
  | _ :: _, [], _, _, _, _, _, _, _, _, _, _, _, h => by cases h
  | _ :: _, _ :: _, _, [], _, _, _, _, _, _, _, _, _, h => by cases h
  | _ :: _, _ :: _, _, .b _ _ _ :: _, _, _, _, _, _, _, _, _, _, h => by cases h
  | _ :: _, _ :: _, [], .v _ _ :: _, _, _, _, _, _, _, hA, _, _, _ => hA.elim
theorem par_fin {is : List Nat} {bs : List Bool} {σ : Sg} {E : Ends} {k : Kt} {vs : List V} {H1 : Hp} {ω1 : Om} {e1 : Env} {rs : List Res} (hio : ∀ i ∈ is, io i = false) (fr : Free ω 0) (kr : KR K io ω σ H k E)
    (rel1 : Rel K ω1 e1 σ H1) (st1 : Step ω H ω1 H1) (rr1 : ResAll K ω1 H1 σ e1 0 vs rs) (h1 : toEnv k.nx (setRes is bs rs e1)) :
    vs.length = is.length ∧ ∀ H2, (H2 = H1 ∨ ∃ p, H1 p = none ∧ H2 = upd H1 p (.tup vs)) → E.nx (setSt is vs σ) H2 := by
  obtain ⟨e2, he, hk⟩ := toEnv_ex h1
  have rel2 : Rel K (ren (parO is bs) ω1) e1 σ H1 := by
    refine ⟨rel1.tab.ren rfl, rel1.len, fun j c e => ?_⟩
    obtain ⟨v', hv, ho⟩ := rel1.cell j c e
    exact ⟨v', hv, OwR.go (fun a o h e => ⟨h, by show parO is bs (ω1 a) = _; rw [e]; rfl⟩) (fun a u p z1 z2 => ⟨z1, by show parO is bs (ω1 a) = _; rw [z2]; rfl⟩) _ _ _ _ ho⟩
  obtain ⟨rel3, kp3⟩ := set_res (io := io) 0 (fun n => by rw [Nat.zero_add]) (fun n => by rw [Nat.zero_add]) rr1 rel2 hio he
  have stp : Step ω H (ren (parO is bs) ω1) H1 := fun a o h n => by
    rcases st1 a o h n with z | ⟨z1, z2⟩
    · exact .inl z
    · refine .inr ⟨z1, ?_⟩
      show parO is bs (ω1 a) = _
      rw [z2]
      cases y : ω a with
      | tmp t p => exact absurd (fr a t p y) (Nat.not_lt_zero _)
      | _ => rfl
  have frp : Free (ren (parO is bs) ω1) 0 := fun a t p e => by
    have e' : parO is bs (ω1 a) = .tmp t p := e
    cases y : ω1 a with
    | tmp t' p' =>
      rw [y] at e'
      have e2 : (match is[t']?, bs[t']? with | some i, some true => Ow.own i p' | _, _ => Ow.shr) = .tmp t p := e'
      revert e2
      cases is[t']? with
      | none => intro z; cases z
      | some i =>
        cases bs[t']? with
        | none => intro z; cases z
        | some b => cases b <;> (intro z; cases z)
    | shr => rw [y] at e'; cases e'
    | far => rw [y] at e'; cases e'
    | tab => rw [y] at e'; cases e'
    | own _ _ => rw [y] at e'; cases e'
  refine ⟨?_, fun H2 hH2 => ?_⟩
  · have : ∀ (is : List Nat) (bs : List Bool) (vs : List V) (rs : List Res) (T : Nat) (e e' : Env), ResAll K ω1 H1 σ e1 T vs rs → setRes is bs rs e = some e' → vs.length = is.length := by
      intro is
      induction is with
      | nil =>
        intro bs vs rs T e e' hA h
        cases bs with
        | cons _ _ => cases h
        | nil =>
          cases rs with
          | cons _ _ => cases h
          | nil =>
            cases vs with
            | nil => rfl
            | cons _ _ => exact hA.elim
      | cons i is ih =>
        intro bs vs rs T e e' hA h
        cases bs with
        | nil => cases h
        | cons b bs =>
          cases rs with
          | nil => cases h
          | cons r rs =>
            cases r with
            | b _ _ _ => cases h
            | v n d =>
              cases vs with
              | nil => exact hA.elim
              | cons v vs => rw [List.length_cons, List.length_cons, ih bs vs rs _ _ _ hA.2 h]
    exact this is bs vs rs 0 e1 e2 rr1 he
  · rcases hH2 with rfl | ⟨p, hp, rfl⟩
    · exact kr.nx _ _ (ren (parO is bs) ω1) e2 rel3 stp frp kp3 hk
    · have gr : Grow (ren (parO is bs) ω1) H1 (ren (parO is bs) ω1) (upd H1 p (.tup vs)) := fun a x h => ⟨by rw [upd_ne (ne_of_none h hp)]; exact h, rfl⟩
      exact kr.nx _ _ (ren (parO is bs) ω1) e2 (rel3.grow gr) (stp.grow gr) frp kp3 hk
end
section
variable {X : Cx} {io : Nat → Bool} {fa : FA} {pos : Pos} {bs : List Bool}
theorem ss_par2 {x y : Str} {a b : Expr} {px py pt : Pos} {kt k2 pt2} (i j : Nat) (bs : List Bool) (hc : X.calm = true) (hN : X.N.Nodup)
    (ha : SA X [a, b] fa) (hw : swappedStores [.Tuple [.Name x px, .Name y py] kt pt] (.Tuple [a, b] k2 pt2) X.env = pure (some [x, y])) (hi : X.N[i]? = some x := by rfl) (hj : X.N[j]? = some y := by rfl) (hij : i ≠ j := by decide)
    (hx : X.env.scope.names.lookup x = some .local := by rfl) (hy : X.env.scope.names.lookup y = some .local := by rfl) (h1 : io i = false := by decide) (h2 : io j = false := by decide)
    (hs : swapsWithSole [.Tuple [.Name x px, .Name y py] kt pt] (.Tuple [a, b] k2 pt2) pos.line X.env = pure false := by rfl) :
    SSt X io (.Assign [.Tuple [.Name x px, .Name y py] kt pt] (.Tuple [a, b] k2 pt2) pos) (fPar [i, j] bs fa) := by
  obtain ⟨t, p, s⟩ := ha.ex
  have hio : ∀ n ∈ [i, j], io n = false := fun n hn => by
    rcases List.mem_cons.mp hn with z | z
    · rw [z]; exact h1
    · rw [List.mem_singleton.mp z]; exact h2
  refine ⟨_, ps_par hc hN hi hj hij hx hy p hw hs, fun ω env σ H E k rel fr hf kr => ?_⟩
  refine s ω 0 env σ H _ _ rel fr hf fun vs H1 ω1 e1 rs rel1 st1 fr1 rr1 h1 => ?_
  obtain ⟨hl, h⟩ := par_fin hio fr kr rel1 st1 rr1 h1
  match vs, hl, h with
  | [v, w], _, h => exact ⟨v, w, rfl, h H1 (.inl rfl)⟩
/-- names alone -/
def gNm (is : List Nat) : TGs := fun vs σ H Q => vs.length = is.length ∧ Q (setSt is vs σ) H
theorem pgs_nm0 : PGs X [] (gNm []) := by
  refine ⟨fun pins s σ H vs us Q I r ⟨hl, h⟩ => ?_⟩
  have e : vs = [] := List.eq_nil_of_length_eq_zero hl
  subst e
  exact pgs_nil.run pins s σ H [] us Q I r ⟨rfl, h⟩
theorem pgs_nm {x : Str} {xp : Pos} {es : List Expr} {is : List Nat} (i : Nat) (hN : X.N.Nodup) (h : PGs X es (gNm is)) (hi : X.N[i]? = some x := by rfl) (hx : Loc X.env.scope x := by first | exact Or.inl rfl | exact Or.inr rfl)
    (hs : (assignEach (.Name x xp :: es) X.env).map (·.2) = assign (.Name x xp) X.env :: (assignEach es X.env).map (·.2) := by rfl) (hf : X.fn x = true ∨ X.env.scope.names.lookup x = some .local := by first | exact .inl rfl | exact .inr rfl | assumption) : PGs X (.Name x xp :: es) (gNm (i :: is)) := by
  refine ⟨fun pins s σ H vs us Q I r ⟨hl, q⟩ => ?_⟩
  match vs, hl, r, q with
  | v :: vs, hl, r, q => exact (pgs_cons (pg_name hN hi hx hf) h hs).run pins s σ H (v :: vs) us Q I r ⟨v, vs, rfl, Nat.succ.inj hl, q⟩
/-- .. by way of the tuple -/
theorem ss_parT {tgs es : List Expr} {is : List Nat} {kt k2 : Nat} {pt pt2 : Pos} {n : Nat} (bs : List Bool) (hc : X.calm = true) (hg : PGs X tgs (gNm is)) (ha : SA X es fa) (hio : ∀ i ∈ is, io i = false := by decide) (hz : is.length ≤ sizeLine := by decide)
    (hn : (assignEach tgs X.env).length = n := by rfl) (hst : (assignEach tgs X.env).findIdx? (·.1) = none := by rfl) (hin : is.length = n := by rfl)
    (hs : swapsWithSole [.Tuple tgs kt pt] (.Tuple es k2 pt2) pos.line X.env = pure false := by rfl) (hw : swappedStores [.Tuple tgs kt pt] (.Tuple es k2 pt2) X.env = pure none := by rfl)
    (h1 : (assignEach [.Tuple tgs kt pt] X.env).map (·.2) = [assign (.Tuple tgs kt pt) X.env] := by rfl) : SSt X io (.Assign [.Tuple tgs kt pt] (.Tuple es k2 pt2) pos) (fPar is bs fa) := by
  obtain ⟨t, p, s⟩ := ha.ex
  refine ⟨_, ps_asg (pe_tup p) (pg_tup hc hg hn hst) hs hw h1, fun ω env σ H E k rel fr hf kr => ?_⟩
  refine s ω 0 env σ H _ _ rel fr hf fun vs H1 ω1 e1 rs rel1 st1 fr1 rr1 h1 => ?_
  obtain ⟨hl, h⟩ := par_fin hio fr kr rel1 st1 rr1 h1
  refine ⟨by rw [hl]; exact hz, fun q hq => ⟨q, vs, rfl, .inl (.inl upd_same), by rw [hl]; exact hin, hl, h _ (.inr ⟨q, hq, rfl⟩)⟩⟩
end
end Pv

/-! Pv11: isinstance, all, any, min, max, sorted, in, zip, enumerate. -/
namespace Pv
open PySem PySem.Spec PyProof.Rows L2

/-! ### isinstance -/
def tyD : D → String
  | .none => "NoneType"
  | .bool _ => "bool"
  | .int _ => "int"
  | .str _ => "str"
  | .list _ => "list"
  | .tuple _ => "tuple"
  | .dict kvs => bif isScr kvs then "list" else "dict"
def tyNames : List String := ["NoneType", "bool", "int", "str", "list", "tuple", "dict"]
def isiD (T : String) (d : D) : Bool := (L2.kitB (tyD d) T).getD false
theorem tyD_mem (d : D) : tyD d ∈ tyNames := by
  cases d with
  | dict kvs => cases h : isScr kvs <;> simp [tyD, tyNames, h]
  | _ => simp [tyD, tyNames]
theorem isiD_ok {T : String} (h : tyNames.all (fun s => (L2.kitB s T).isSome) = true) (d : D) : L2.kitB (tyD d) T = some (isiD T d) := by
  have := List.all_eq_true.mp h _ (tyD_mem d)
  unfold isiD
  cases e : L2.kitB (tyD d) T with
  | none => rw [e] at this; cases this
  | some b => rfl
theorem isi_list {ds} : isiD "list" (.list ds) = true := by show (L2.kitB "list" "list").getD false = true; decide +kernel
theorem isi_list_tup {ds} : isiD "list" (.tuple ds) = false := by show (L2.kitB "tuple" "list").getD false = false; decide +kernel
theorem isi_list_int {i} : isiD "list" (.int i) = false := by show (L2.kitB "int" "list").getD false = false; decide +kernel
theorem isi_list_str {i} : isiD "list" (.str i) = false := by show (L2.kitB "str" "list").getD false = false; decide +kernel
theorem isi_list_bl {i} : isiD "list" (.bool i) = false := by show (L2.kitB "bool" "list").getD false = false; decide +kernel
theorem isi_list_non : isiD "list" .none = false := by show (L2.kitB "NoneType" "list").getD false = false; decide +kernel
theorem isi_tuple_list {ds} : isiD "tuple" (.list ds) = false := by show (L2.kitB "list" "tuple").getD false = false; decide +kernel
theorem isi_tuple {ds} : isiD "tuple" (.tuple ds) = true := by show (L2.kitB "tuple" "tuple").getD false = true; decide +kernel
theorem isi_tuple_int {i} : isiD "tuple" (.int i) = false := by show (L2.kitB "int" "tuple").getD false = false; decide +kernel
theorem isi_tuple_str {i} : isiD "tuple" (.str i) = false := by show (L2.kitB "str" "tuple").getD false = false; decide +kernel
theorem isi_tuple_bl {i} : isiD "tuple" (.bool i) = false := by show (L2.kitB "bool" "tuple").getD false = false; decide +kernel
theorem isi_tuple_non : isiD "tuple" .none = false := by show (L2.kitB "NoneType" "tuple").getD false = false; decide +kernel
theorem isi_bool_list {ds} : isiD "bool" (.list ds) = false := by show (L2.kitB "list" "bool").getD false = false; decide +kernel
theorem isi_bool_tup {ds} : isiD "bool" (.tuple ds) = false := by show (L2.kitB "tuple" "bool").getD false = false; decide +kernel
theorem isi_bool_int {i} : isiD "bool" (.int i) = false := by show (L2.kitB "int" "bool").getD false = false; decide +kernel
theorem isi_bool_str {i} : isiD "bool" (.str i) = false := by show (L2.kitB "str" "bool").getD false = false; decide +kernel
theorem isi_bool {i} : isiD "bool" (.bool i) = true := by show (L2.kitB "bool" "bool").getD false = true; decide +kernel
theorem isi_bool_non : isiD "bool" .none = false := by show (L2.kitB "NoneType" "bool").getD false = false; decide +kernel
theorem isi_str_list {ds} : isiD "str" (.list ds) = false := by show (L2.kitB "list" "str").getD false = false; decide +kernel
theorem isi_str_tup {ds} : isiD "str" (.tuple ds) = false := by show (L2.kitB "tuple" "str").getD false = false; decide +kernel
theorem isi_str_int {i} : isiD "str" (.int i) = false := by show (L2.kitB "int" "str").getD false = false; decide +kernel
theorem isi_str {i} : isiD "str" (.str i) = true := by show (L2.kitB "str" "str").getD false = true; decide +kernel
theorem isi_str_bl {i} : isiD "str" (.bool i) = false := by show (L2.kitB "bool" "str").getD false = false; decide +kernel
theorem isi_str_non : isiD "str" .none = false := by show (L2.kitB "NoneType" "str").getD false = false; decide +kernel
theorem isi_int_list {ds} : isiD "int" (.list ds) = false := by show (L2.kitB "list" "int").getD false = false; decide +kernel
theorem isi_int_tup {ds} : isiD "int" (.tuple ds) = false := by show (L2.kitB "tuple" "int").getD false = false; decide +kernel
theorem isi_int {i} : isiD "int" (.int i) = true := by show (L2.kitB "int" "int").getD false = true; decide +kernel
theorem isi_int_str {i} : isiD "int" (.str i) = false := by show (L2.kitB "str" "int").getD false = false; decide +kernel
theorem isi_int_bl {i} : isiD "int" (.bool i) = true := by show (L2.kitB "bool" "int").getD false = true; decide +kernel
theorem isi_int_non : isiD "int" .none = false := by show (L2.kitB "NoneType" "int").getD false = false; decide +kernel
/-- no instance, no exception -/
def plainD (d : D) : Prop := ∀ nm fs, d ≠ insD nm fs ∧ d ≠ excD nm fs ∧ (∀ l, d ≠ dcD (.bool true, l)) ∧ ∀ ds, d ≠ otpD ds
def isP : D → Prop → Prop
  | .dict ((.bool false, _) :: _), _ => False
  | .dict ((.bool true, .bool true) :: _), _ => False
  | _, P => P
theorem isP_ex {d : D} {P : Prop} (h : isP d P) : plainD d ∧ P := by
  unfold isP at h
  split at h
  · exact h.elim
  · exact h.elim
  · rename_i hne hne2
    refine ⟨fun nm fs => ⟨fun e => ?_, fun e => ?_, fun l e => ?_, fun ds e => ?_⟩, h⟩
    · exact hne _ _ e
    · exact hne _ _ e
    · exact hne2 _ e
    · exact hne _ _ e
section
variable {K : Fg} {ω : Om} {H : Hp} {v : V} {r : Res}
theorem Rp.ty {d : D} (hp : plainD d) (h : Rp K ω H v d) : TyX K H v (.type (tyD d)) := by
  cases h with
  | non => exact .base .non
  | bl b => exact .base (.bl b)
  | int i => exact .base (.int i)
  | str x => exact .base (.str x)
  | lst hs ha => exact .base (.lst hs.1)
  | tup hs ha =>
    rcases hs with ⟨o, h, _⟩ | ⟨o, _, _, h, c, _⟩
    · exact .fTuple h
    · exact .kTuple h c
  | scr hs =>
    rename_i a ns
    have e : tyD (scrD ns) = "list" := by show (bif isScr (ns.map fun n => (PyData.none, PyData.int n)) then "list" else "dict") = "list"; rw [isScr_map]; rfl
    rw [e]
    rcases hs with ⟨h | ⟨o, h⟩, _⟩ | ⟨o, _, _, h, c, _⟩
    · exact .base (.lst h)
    · exact .base (.frz h)
    · exact .kList h c
  | dct h _ hd => cases hd with
    | int _ => exact .base (.dK h)
    | tup _ => exact absurd rfl ((hp Str.empty []).2.2.1 _)
  | ins _ _ _ _ _ _ => exact absurd rfl (hp _ _).1
  | exc _ _ _ _ => exact absurd rfl (hp _ _).2.1
  | otp _ _ => exact absurd rfl ((hp Str.empty []).2.2.2 _)
theorem Vw.ty (hp : plainD r.d) (h : Vw K ω H v r) : TyX K H v (.type (tyD r.d)) := by
  cases r with
  | v k d => exact Rp.ty (d := d) hp h
  | b j k d =>
    have h' : OwR K ω H k (Ow.own j) [] v d := h
    cases k with
    | zero => exact Rp.ty (d := d) hp h'
    | succ k =>
      rcases h' with ⟨_, h'⟩ | ⟨a, vs, ds, e1, e2, h1, _⟩ | ⟨a, kvs, es, e1, e2, h1, _, hd⟩ | ⟨_, _, _, _, nm, fs, _, e2, _⟩ | ⟨_, _, _, _, e2, _⟩
      · exact Rp.ty hp h'
      · subst e1; subst e2; exact .base (.lst h1)
      · subst e1
        cases hd with
        | int _ => rw [e2]; exact .base (.dK h1)
        | tup _ => exact absurd e2 ((hp Str.empty []).2.2.1 _)
      · exact absurd e2 (hp nm fs).1
      · exact absurd e2 ((hp Str.empty []).2.2.2 _)
end
def oIsi (Ts : List String) : O1 := fun r R => isP r.d (R 0 (.bool (Ts.any fun T => isiD T r.d)))
theorem clsV_all : ∀ Ts : List String, Paired ClsV (Ts.map V.ty) (Ts.map Value.type)
  | [] => .nil
  | T :: Ts => .cons (.ty T) (clsV_all Ts)
theorem kit_any {K : Fg} {d : D} : ∀ Ts : List String, (Ts.all fun T => tyNames.all fun s => (L2.kitB s T).isSome) = true → PySem.W.kitAny K (.type (tyD d)) (Ts.map Value.type) = some (Ts.any fun T => isiD T d)
  | [], _ => rfl
  | T :: Ts, h => by
    rw [List.all_cons, Bool.and_eq_true] at h
    refine kitAny_cons (kit_ty (isiD_ok h.1 d)) (fun e => ?_) (fun e => ?_)
    · rw [List.any_cons, e, Bool.false_or]
      exact kit_any Ts h.2
    · rw [List.any_cons, e, Bool.true_or]
section
variable {X : Cx} {e : Expr} {fa : FE} {p p2 p3 pos : Pos} {T : Str} {t : String}
theorem se_isi (t : String) (hm : X.mg "isinstance" = none) (hm2 : X.mg T = none) (ha : SE X e fa) (hg : Gl X "isinstance" := by rfl) (hg2 : Gl X T := by rfl) (hv : bootBuiltins T = some (.type t) := by decide +kernel) (ht : (tyNames.all fun s => (L2.kitB s t).isSome) = true := by decide +kernel)
    (hn : T ≠ "__name__" := by decide) (hd : (T == ("__debug__" : Str)) = false := by decide)
    (he : starEach [e, .Name T p2] X.env = (false, eval e X.env) :: starEach [.Name T p2] X.env := by rfl) (he2 : starEach [.Name T p2] X.env = (false, eval (.Name T p2) X.env) :: starEach [] X.env := by rfl) (hpl : (backTo pos (starEach [.Name T p2] X.env)).any (·.1) = false := by rfl) :
    SE X (.Call (.Name "isinstance" p) [e, .Name T p2] [] pos) (fOp1 (oIsi [t]) fa) := by
  obtain ⟨w, q, s⟩ := ha.ex
  refine ⟨_, pe_callB call_isi hg hm (id := "isinstance") (by decide +kernel) (pa_cons q (pa_cons (pe_bltn (v := .ty t) (u := .type t) hg2 hm2 hv rfl hn hd) pa_nil he2) he) (by decide) (by decide) he hpl, fun ω T' env σ H R Q rel fre hR qq => ?_⟩
  refine s ω T' env σ H _ _ rel fre hR fun v H1 ω1 e1 r rel1 st1 fr1 rr1 h1 => ?_
  obtain ⟨hpl, h2⟩ := isP_ex (ap1_cl h1)
  refine ⟨v, .ty t, _, _, _, rfl, .ty t, (rr1.gc (T := T') rel1 (Nat.le_refl _)).ty hpl, kit_ty (isiD_ok ht r.d), ?_⟩
  have h2 : R (.v 0 (.bool ([t].any fun T => isiD T r.d))) e1 := h2
  rw [List.any_cons, List.any_nil, Bool.or_false] at h2
  exact (out_of (R := R) (rel1.gc T') (st1.gc fre) qq).bl gc_free h2
theorem se_isiT {es : List Expr} {k : Nat} (Ts : List String) {ta : TA} (hm : X.mg "isinstance" = none) (ha : SE X e fa) (hts : PA X es ta) (hta : ∀ σ H Q, Q (Ts.map V.ty) H → ta σ H Q) (hg : Gl X "isinstance" := by rfl) (ht : (Ts.all fun T => tyNames.all fun s => (L2.kitB s T).isSome) = true := by decide +kernel) (hl : Ts.length ≤ sizeLine := by decide)
    (he : starEach [e, .Tuple es k p2] X.env = (false, eval e X.env) :: starEach [.Tuple es k p2] X.env := by rfl) (he2 : starEach [.Tuple es k p2] X.env = (false, eval (.Tuple es k p2) X.env) :: starEach [] X.env := by rfl) (hpl : (backTo pos (starEach [.Tuple es k p2] X.env)).any (·.1) = false := by rfl) :
    SE X (.Call (.Name "isinstance" p) [e, .Tuple es k p2] [] pos) (fOp1 (oIsi Ts) fa) := by
  obtain ⟨w, q, s⟩ := ha.ex
  refine ⟨_, pe_callB call_isiT hg hm (id := "isinstance") (by decide +kernel) (pa_cons q (pa_cons (pe_tup hts) pa_nil he2) he) (by decide) (by decide) he hpl, fun ω T' env σ H R Q rel fre hR qq => ?_⟩
  refine s ω T' env σ H _ _ rel fre hR fun v H1 ω1 e1 r rel1 st1 fr1 rr1 h1 => ?_
  refine hta _ _ _ ⟨by rw [List.length_map]; exact hl, fun a ha' => ?_⟩
  have vw := rr1.gc (T := T') rel1 (Nat.le_refl _)
  have gr : Grow (gc T' ω1) H1 (putO a .far (gc T' ω1)) (upd H1 a (.tup (Ts.map V.ty))) := put_grow ha'
  have vw2 : Vw X.K (putO a .far (gc T' ω1)) (upd H1 a (.tup (Ts.map V.ty))) v r := by
    cases r with
    | v kk d => exact Rp.sh gr.step.sh _ _ vw
    | b j kk d => exact OwR.go gr.step.sh (fun b u p z1 z2 => by obtain ⟨y1, y2⟩ := gr b u z1; exact ⟨y1, y2.trans z2⟩) _ _ _ _ vw
  obtain ⟨hpl2, h2⟩ := isP_ex (ap1_cl h1)
  refine ⟨v, a, _, _, _, _, rfl, upd_same, clsV_all Ts, vw2.ty hpl2, kit_any Ts ht, ?_⟩
  have fr2 : Free (putO a .far (gc T' ω1)) T' := fun b t p e => by
    by_cases hb : b = a
    · subst hb; rw [putO_same] at e; cases e
    · rw [putO_ne hb] at e; exact gc_free b t p e
  exact (out_of (R := R) ((rel1.gc T').grow gr) ((st1.gc fre).grow gr) qq).bl fr2 h2
theorem pa_ty0 : PA X [] (fun σ H Q => Q (([] : List String).map V.ty) H) := pa_nil
theorem pa_tyC {es : List Expr} {t : String} {Ts : List String} (hr : PA X es (fun σ H Q => Q (Ts.map V.ty) H)) (hm2 : X.mg T = none) (hg2 : Gl X T := by rfl) (hv : bootBuiltins T = some (.type t) := by decide +kernel)
    (hn : T ≠ "__name__" := by decide) (hd : (T == ("__debug__" : Str)) = false := by decide) (he2 : starEach (.Name T p2 :: es) X.env = (false, eval (.Name T p2) X.env) :: starEach es X.env := by rfl) :
    PA X (.Name T p2 :: es) (fun σ H Q => Q ((t :: Ts).map V.ty) H) := pa_cons (pe_bltn (v := .ty t) (u := .type t) hg2 hm2 hv rfl hn hd) hr he2
end

section
variable {X : Cx}
/-- sorted of a list of pairs of ints, held or known: a new list of the same pairs -/
def rSortedPT (K : PySem.W.Frag) : List V → Hp → VK → Prop := fun vs H Q => ∃ a xs, vs = [V.ref a] ∧ SqL K H a xs ∧ (∀ x ∈ xs, ∃ t i j, x = V.ref t ∧ SqT K H t [V.int i, V.int j]) ∧
  ∀ ys p, ys.Perm xs → H p = none → Q (.ref p) (upd H p (.lst ys))
end
/-- a pair of ints -/
def ijD (p : Int × Int) : D := .tuple [.int p.1, .int p.2]
theorem RpAll.pairs {K : Fg} {ω : Om} {H : Hp} : ∀ {xs : List V} {ps : List (Int × Int)}, RpAll K ω H xs (ps.map ijD) → ∀ x ∈ xs, ∃ t i j, x = V.ref t ∧ SqT K H t [V.int i, V.int j]
  | _, [], .nil => fun x hx => nomatch hx
  | _, p :: ps, .cons a b => fun x hx => by
    rcases List.mem_cons.mp hx with e | hx
    · subst e
      cases a with
      | tup h r =>
        cases r with
        | cons r1 r2 =>
          cases r2 with
          | cons r2 r3 =>
            cases r3
            cases r1
            cases r2
            exact ⟨_, _, _, rfl, h.seq⟩
    · exact RpAll.pairs b x hx
/-! ### sorted of a tuple of ints -/
section
variable {prog : Program} {w : World} {A : Around} {E : Value → Shared → Prop} {s : Shared}
open SrtO Srt in
end
def rSortedIT (K : PySem.W.Frag) : List V → Hp → VK → Prop := fun vs H Q => ∃ (a : Addr) (ns : List Int), vs = [V.ref a] ∧ SqT K H a (ns.map V.int) ∧
  ∀ (ns' : List Int) (p : Addr), ns'.Perm ns → ns'.Pairwise (· ≤ ·) → H p = none → Q (.ref p) (upd H p (.lst (ns'.map V.int)))
/-! ### all, any, min, max, sorted -/
def dAll (f : Prop) (R : KC) : D → Prop
  | .list ds => f ∧ ∃ bs : List Bool, ds = bs.map PyData.bool ∧ R 0 (.bool (bs.all id))
  | _ => False
def dAny (f : Prop) (R : KC) : D → Prop
  | .list ds => f ∧ ∃ bs : List Bool, ds = bs.map PyData.bool ∧ R 0 (.bool (bs.any id))
  | _ => False
def dMax (f : Prop) (R : KC) : D → Prop
  | .list ds => f ∧ ∃ ns : List Int, ds = ns.map PyData.int ∧ 0 < ns.length ∧ ∀ m, m ∈ ns → (∀ y, y ∈ ns → y ≤ m) → R 0 (.int m)
  | .tuple ds => ∃ ns : List Int, ds = ns.map PyData.int ∧ 0 < ns.length ∧ ∀ m, m ∈ ns → (∀ y, y ∈ ns → y ≤ m) → R 0 (.int m)
  | _ => False
def dMin (f : Prop) (R : KC) : D → Prop
  | .list ds => f ∧ ∃ ns : List Int, ds = ns.map PyData.int ∧ 0 < ns.length ∧ ∀ m, m ∈ ns → (∀ y, y ∈ ns → m ≤ y) → R 0 (.int m)
  | .tuple ds => ∃ ns : List Int, ds = ns.map PyData.int ∧ 0 < ns.length ∧ ∀ m, m ∈ ns → (∀ y, y ∈ ns → m ≤ y) → R 0 (.int m)
  | _ => False
def dSorted (f : Prop) (R : KC) : D → Prop
  | .list ds => f ∧ ((∃ ns : List Int, ds = ns.map PyData.int ∧ ∀ ns' : List Int, ns'.Perm ns → ns'.Pairwise (· ≤ ·) → R 1 (.list (ns'.map PyData.int))) ∨ (∃ ps : List (Int × Int), ds = ps.map ijD ∧ ∀ ps' : List (Int × Int), ps'.Perm ps → R 1 (.list (ps'.map ijD))))
  | .tuple ds => ∃ ns : List Int, ds = ns.map PyData.int ∧ ∀ ns' : List Int, ns'.Perm ns → ns'.Pairwise (· ≤ ·) → R 1 (.list (ns'.map PyData.int))
  | _ => False
def oAll : O1 := fun r R => dAll (flat r) R r.d
def oAny : O1 := fun r R => dAny (flat r) R r.d
def oMax : O1 := fun r R => dMax (flat r) R r.d
def oMin : O1 := fun r R => dMin (flat r) R r.d
def oSorted : O1 := fun r R => dSorted (flat r) R r.d
section
variable {X : Cx}
theorem alikeAll_ints (ns : List Int) : PySem.W.AlikeAll (ns.map PyData.int) := by
  refine ⟨fun x hx y hy => ?_, fun x hx => ?_⟩
  · obtain ⟨i, _, rfl⟩ := List.mem_map.mp hx
    obtain ⟨j, _, rfl⟩ := List.mem_map.mp hy
    rfl
  · obtain ⟨i, _, rfl⟩ := List.mem_map.mp hx
    exact fun z => nomatch z
theorem depth_ints : ∀ ns : List Int, PyData.depthAll (ns.map PyData.int) = 0
  | [] => rfl
  | n :: ns => by rw [List.map_cons, PyData.depthAll, depth_ints ns]; rfl
theorem dpAll_ints {K : Fg} {H : Hp} : ∀ ns : List Int, DpAll K H (ns.map V.int) (ns.map PyData.int)
  | [] => .nil
  | n :: ns => .cons (.int n) (dpAll_ints ns)
theorem foldl_max : ∀ (ns : List Int) (n : Int), (ns.foldl max n) ∈ n :: ns ∧ ∀ y ∈ n :: ns, y ≤ ns.foldl max n
  | [], n => ⟨by simp, by simp⟩
  | k :: ns, n => by
    obtain ⟨h1, h2⟩ := foldl_max ns (max n k)
    rw [List.foldl_cons]
    refine ⟨?_, fun y hy => ?_⟩
    · rcases List.mem_cons.mp h1 with e | e
      · rw [e]
        by_cases z : n ≤ k
        · rw [Int.max_eq_right z]; simp
        · rw [Int.max_eq_left (by omega)]; simp
      · simp [e]
    · have h3 := h2 (max n k) (by simp)
      rcases List.mem_cons.mp hy with e | hy
      · subst e; omega
      · rcases List.mem_cons.mp hy with e | hy
        · subst e; omega
        · exact h2 y (by simp [hy])
theorem foldl_min : ∀ (ns : List Int) (n : Int), (ns.foldl min n) ∈ n :: ns ∧ ∀ y ∈ n :: ns, ns.foldl min n ≤ y
  | [], n => ⟨by simp, by simp⟩
  | k :: ns, n => by
    obtain ⟨h1, h2⟩ := foldl_min ns (min n k)
    rw [List.foldl_cons]
    refine ⟨?_, fun y hy => ?_⟩
    · rcases List.mem_cons.mp h1 with e | e
      · rw [e]
        by_cases z : n ≤ k
        · rw [Int.min_eq_left z]; simp
        · rw [Int.min_eq_right (by omega)]; simp
      · simp [e]
    · have h3 := h2 (min n k) (by simp)
      rcases List.mem_cons.mp hy with e | hy
      · subst e; omega
      · rcases List.mem_cons.mp hy with e | hy
        · subst e; omega
        · exact h2 y (by simp [hy])
def rMaxT (K : Fg) : List V → Hp → VK → Prop := fun vs H Q => ∃ (a : Addr) (ns : List Int), vs = [V.ref a] ∧ SqT K H a (ns.map V.int) ∧ 0 < ns.length ∧ ∀ m, m ∈ ns → (∀ y, y ∈ ns → y ≤ m) → Q (.int m) H
def rMinT (K : Fg) : List V → Hp → VK → Prop := fun vs H Q => ∃ (a : Addr) (ns : List Int), vs = [V.ref a] ∧ SqT K H a (ns.map V.int) ∧ 0 < ns.length ∧ ∀ m, m ∈ ns → (∀ y, y ∈ ns → m ≤ y) → Q (.int m) H
theorem cr_maxT (hc : X.calm = true) (hu : X.A.units + 1 < cLine) : CallR X (.builtin "max") (rMaxT X.K) := by
  intro pins s σ H vs us Q I r h
  obtain ⟨a, ns, rfl, hs, hne, q⟩ := h
  obtain ⟨its, rv, hl, _⟩ := I.tuple hs
  rw [Vals.ref1 r]
  match ns, hne with
  | n :: ns, _ =>
    obtain ⟨as, ra⟩ := Dp.readsAll I ((n :: ns).map PyData.int) _ _ (dpAll_ints (n :: ns)) rv
    refine PySem.W.max_tuple_data (I.ok.hd hc) (show s.heap.IsTuple a its.toArray from hl) (x := .int n) (xs := ns.map PyData.int) (as := as) (by simpa using ra) (alikeAll_ints (n :: ns)) (by
      have := depth_ints (n :: ns)
      rw [List.map_cons] at this
      rw [this]; exact hu) fun i v h' tk bs _ hr hk => ?_
    rw [PySem.W.maxD_ints] at hr
    cases hr with
    | int _ t =>
      obtain ⟨m1, m2⟩ := foldl_max ns n
      exact ⟨.int _, H, I.kept hk, ⟨_, rfl⟩, q _ m1 m2⟩
theorem cr_minT (hc : X.calm = true) (hu : X.A.units + 1 < cLine) : CallR X (.builtin "min") (rMinT X.K) := by
  intro pins s σ H vs us Q I r h
  obtain ⟨a, ns, rfl, hs, hne, q⟩ := h
  obtain ⟨its, rv, hl, _⟩ := I.tuple hs
  rw [Vals.ref1 r]
  match ns, hne with
  | n :: ns, _ =>
    obtain ⟨as, ra⟩ := Dp.readsAll I ((n :: ns).map PyData.int) _ _ (dpAll_ints (n :: ns)) rv
    refine PySem.W.min_tuple_data (I.ok.hd hc) (show s.heap.IsTuple a its.toArray from hl) (x := .int n) (xs := ns.map PyData.int) (as := as) (by simpa using ra) (alikeAll_ints (n :: ns)) (by
      have := depth_ints (n :: ns)
      rw [List.map_cons] at this
      rw [this]; exact hu) fun i v h' tk bs _ hr hk => ?_
    rw [PySem.W.minD_ints] at hr
    cases hr with
    | int _ t =>
      obtain ⟨m1, m2⟩ := foldl_min ns n
      exact ⟨.int _, H, I.kept hk, ⟨_, rfl⟩, q _ m1 m2⟩
theorem cr_or {u : Value} {r r' : List V → Hp → VK → Prop} (h : CallR X u r) (h' : CallR X u r') : CallR X u (fun xs H Q => r xs H Q ∨ r' xs H Q) := fun pins s σ H xs us Q I rv q => q.elim (h pins s σ H xs us Q I rv) (h' pins s σ H xs us Q I rv)
theorem so_all {K : Fg} : SndO1 K (fun x H Q => rAll K [x] H Q) oAll := by
  intro ω T H x r1 R Q fr v1 h q
  have h' : dAll (flat r1) R r1.d := h
  generalize e1 : r1.d = d1 at h'
  cases d1 <;> first
    | exact h'.elim
    | skip
  obtain ⟨f, bs, rfl, hR⟩ := h'
  obtain ⟨a, vs, rfl, ha, hp⟩ := v1.lst f e1
  exact ⟨a, bs, rfl, .inl (.inl (by rw [← RpAll.of_bools bs hp]; exact ha)), q.bl fr hR⟩
theorem so_max {K : Fg} : SndO1 K (fun x H Q => rMax K [x] H Q ∨ rMaxT K [x] H Q) oMax := by
  intro ω T H x r1 R Q fr v1 h q
  have h' : dMax (flat r1) R r1.d := h
  generalize e1 : r1.d = d1 at h'
  cases d1 <;> first
    | exact h'.elim
    | skip
  · obtain ⟨f, ns, rfl, hn, hR⟩ := h'
    obtain ⟨a, vs, rfl, ha, hp⟩ := v1.lst f e1
    exact .inl ⟨a, ns, rfl, .inl (.inl (by rw [← RpAll.of_ints ns hp]; exact ha)), hn, fun m h1 h2 => q.int fr (hR m h1 h2)⟩
  · obtain ⟨ns, rfl, hn, hR⟩ := h'
    obtain ⟨a, vs, rfl, ha, hp⟩ := v1.tup e1
    exact .inr ⟨a, ns, rfl, by rw [← RpAll.of_ints ns hp]; exact ha, hn, fun m h1 h2 => q.int fr (hR m h1 h2)⟩
theorem so_min {K : Fg} : SndO1 K (fun x H Q => rMin K [x] H Q ∨ rMinT K [x] H Q) oMin := by
  intro ω T H x r1 R Q fr v1 h q
  have h' : dMin (flat r1) R r1.d := h
  generalize e1 : r1.d = d1 at h'
  cases d1 <;> first
    | exact h'.elim
    | skip
  · obtain ⟨f, ns, rfl, hn, hR⟩ := h'
    obtain ⟨a, vs, rfl, ha, hp⟩ := v1.lst f e1
    exact .inl ⟨a, ns, rfl, .inl (.inl (by rw [← RpAll.of_ints ns hp]; exact ha)), hn, fun m h1 h2 => q.int fr (hR m h1 h2)⟩
  · obtain ⟨ns, rfl, hn, hR⟩ := h'
    obtain ⟨a, vs, rfl, ha, hp⟩ := v1.tup e1
    exact .inr ⟨a, ns, rfl, by rw [← RpAll.of_ints ns hp]; exact ha, hn, fun m h1 h2 => q.int fr (hR m h1 h2)⟩
variable {e : Expr} {fa : FA} {p pos : Pos}
theorem c1 {u : Value} {r : List V → Hp → VK → Prop} (h : CallR X u r) : CallR X u (fun xs H Q => ∃ x, xs = [x] ∧ r [x] H Q) := cimp h fun xs H Q ⟨x, e, h⟩ => by subst e; exact h
theorem se_all (hc : X.calm = true) (hm : X.mg "all" = none) (ha : SA X [e] fa) (hg : Gl X "all" := by rfl) (he : starEach [e] X.env = [(false, eval e X.env)] := by rfl) : SE X (.Call (.Name "all" p) [e] [] pos) (fOpN (at1 oAll) fa) :=
  se_callB (c1 (cr_all hc)) (so_at1 so_all) (id := "all") (by decide +kernel) hm ha hg (by decide) (by decide) he rfl
theorem se_max {k : Nat} (hc : X.calm = true) (hr : Room k X.A) (hm : X.mg "max" = none) (ha : SA X [e] fa) (hg : Gl X "max" := by rfl) (he : starEach [e] X.env = [(false, eval e X.env)] := by rfl) : SE X (.Call (.Name "max" p) [e] [] pos) (fOpN (at1 oMax) fa) :=
  se_callB (c1 (cr_or (cr_max hc) (cr_maxT hc (by have := hu64 hr; omega)))) (so_at1 so_max) (id := "max") (by decide +kernel) hm ha hg (by decide) (by decide) he rfl
theorem se_min {k : Nat} (hc : X.calm = true) (hr : Room k X.A) (hm : X.mg "min" = none) (ha : SA X [e] fa) (hg : Gl X "min" := by rfl) (he : starEach [e] X.env = [(false, eval e X.env)] := by rfl) : SE X (.Call (.Name "min" p) [e] [] pos) (fOpN (at1 oMin) fa) :=
  se_callB (c1 (cr_or (cr_min hc) (cr_minT hc (by have := hu64 hr; omega)))) (so_at1 so_min) (id := "min") (by decide +kernel) hm ha hg (by decide) (by decide) he rfl
end

/-! ### in, not in; list * int; is of bools -/
def flatD : D → Bool
  | .none => true
  | .bool _ => true
  | .int _ => true
  | .str _ => true
  | _ => false
def inD (d : D) (ds : List D) : Bool := ds.any fun z => PyData.eqv z d
def dIn (p : Bool → Bool) (x : D) (R : KC) : D → Prop
  | .tuple ds => shp x ∧ shp (.tuple ds) ∧ R 0 (.bool (p (inD x ds)))
  | .list ds => shp x ∧ shp (.list ds) ∧ R 0 (.bool (p (inD x ds)))
  | _ => False
def oIn : O2 := fun r1 r2 R => dIn (fun b => b) r1.d R r2.d
def oNotIn : O2 := fun r1 r2 R => dIn (fun b => !b) r1.d R r2.d
def dMulA (f : Prop) (R : KC) : D → D → Prop
  | .int i, .int j => CMul i j ∧ R 0 (.int (i * j))
  | .list ds, .int k => (f ∧ -(2 ^ 63) ≤ k ∧ k < 2 ^ 63 ∧ ds.length * k.toNat ≤ sizeLine) ∧ R 1 (.list (List.replicate k.toNat ds).flatten)
  | .tuple ds, .int k => (ds ≠ [] ∧ 1 ≤ k ∧ k ≤ 1000 ∧ ds.length ≤ 1000) ∧ R 0 (.tuple (List.replicate k.toNat ds).flatten)
  | _, _ => False
def oMulA : O2 := fun r1 r2 R => dMulA (flat r1) R r1.d r2.d
def dIsB (R : KC) : D → D → Prop
  | .bool a, .bool b => R 0 (.bool (decide (a = b)))
  | .none, .bool _ => R 0 (.bool false)
  | _, _ => False
def oIsB : O2 := fun r1 r2 R => dIsB R r1.d r2.d
def dNotB (R : KC) : D → D → Prop
  | .bool a, .bool b => R 0 (.bool (!decide (a = b)))
  | .none, .bool _ => R 0 (.bool true)
  | _, _ => False
def oNotB : O2 := fun r1 r2 R => dNotB R r1.d r2.d
section
variable {X : Cx} {K : Fg} {ω : Om} {H : Hp}
theorem Rp.flatV {v : V} {d : D} (h : Rp K ω H v d) (f : flatD d = true) : L2.flatV v = true := by
  cases h <;> first
    | rfl
    | cases f
theorem Rp.eqV {v w : V} {d e : D} (h : Rp K ω H v d) (h' : Rp K ω H w e) (f : flatD d = true) (f' : flatD e = true) : L2.eqV v w = PyData.eqv d e := by
  cases h <;> first
    | (cases f; done)
    | (cases h' <;> first
        | (cases f'; done)
        | (simp [L2.eqV, PyData.eqv]; done))
theorem Vw.flat {v : V} {r : Res} (h : Vw K ω H v r) (f : flatD r.d = true) : Rp K ω H v r.d := by
  cases r with
  | v k d => exact h
  | b j k d =>
    have h' : OwR K ω H k (Ow.own j) [] v d := h
    cases k with
    | zero => exact h'
    | succ k =>
      rcases h' with ⟨_, h'⟩ | ⟨_, _, _, _, e2, _⟩ | ⟨_, _, _, _, e2, _⟩ | ⟨_, _, _, _, _, _, _, e2, _⟩ | ⟨_, _, _, _, e2, _⟩
      · exact h'
      · subst e2; cases f
      · subst e2; cases f
      · subst e2; cases f
      · first | (cases e2; done) | exact (dct_not_otp e2).elim | exact (dct_not_otp e2.symm).elim | exact (ins_not_otp e2.symm).elim | exact (ins_not_otp e2).elim | exact (exc_not_otp e2).elim | (subst e2; cases f; done)
def rInDT (K : PySem.W.Frag) (p : Bool → Bool) : R2 := fun x y H Q => ∃ d ds, Dp K H x d ∧ Dp K H y (.tuple ds) ∧ SeqAt.shaped d = true ∧ SeqAt.shaped (.tuple ds) = true ∧ Q (.bl (p (ds.any fun z => PyData.eqv z d))) H
theorem op_inDT (hu : X.A.units + 65 < cLine) : OpR X (compareOp .In) (rInDT X.K fun b => b) := by
  intro pins s σ H x y v u Q I rx ry h
  obtain ⟨d, ds, hd, he, sd, se, q⟩ := h
  obtain ⟨as, r1⟩ := Dp.reads I d x v hd rx
  obtain ⟨bs, r2⟩ := Dp.reads I (.tuple ds) y u he ry
  exact SeqAt.in_tuple_reads r2 r1 (SeqAt.canLay_of_shaped se) (SeqAt.canLay_of_shaped sd) (room_in_shaped sd hu) ⟨.bl _, H, I, rfl, q⟩
theorem op_notInDT (hu : X.A.units + 65 < cLine) : OpR X (compareOp .NotIn) (rInDT X.K fun b => !b) := by
  intro pins s σ H x y v u Q I rx ry h
  obtain ⟨d, ds, hd, he, sd, se, q⟩ := h
  obtain ⟨as, r1⟩ := Dp.reads I d x v hd rx
  obtain ⟨bs, r2⟩ := Dp.reads I (.tuple ds) y u he ry
  exact SeqAt.notIn_tuple_reads r2 r1 (SeqAt.canLay_of_shaped se) (SeqAt.canLay_of_shaped sd) (room_in_shaped sd hu) ⟨.bl _, H, I, rfl, q⟩
theorem so_in : SndO2 K (fun x y H Q => rInDT K (fun b => b) x y H Q ∨ rInD K x y H Q) oIn := by
  intro ω T H x y r1 r2 R Q fr v1 v2 h q
  have h' : dIn (fun b => b) r1.d R r2.d := h
  generalize e2 : r2.d = d2 at h'
  cases d2 <;> first
    | exact h'.elim
    | skip
  · obtain ⟨s1, s2, hR⟩ := h'
    refine .inr ⟨_, _, v1.dp (SeqAt.canLay_of_shaped s1), ?_, s1, s2, q.bl fr hR⟩
    have := v2.dp (by rw [e2]; exact SeqAt.canLay_of_shaped s2)
    rw [e2] at this
    exact this
  · obtain ⟨s1, s2, hR⟩ := h'
    refine .inl ⟨_, _, v1.dp (SeqAt.canLay_of_shaped s1), ?_, s1, s2, q.bl fr hR⟩
    have := v2.dp (by rw [e2]; exact SeqAt.canLay_of_shaped s2)
    rw [e2] at this
    exact this
theorem so_notIn : SndO2 K (fun x y H Q => rInDT K (fun b => !b) x y H Q ∨ rNotInD K x y H Q) oNotIn := by
  intro ω T H x y r1 r2 R Q fr v1 v2 h q
  have h' : dIn (fun b => !b) r1.d R r2.d := h
  generalize e2 : r2.d = d2 at h'
  cases d2 <;> first
    | exact h'.elim
    | skip
  · obtain ⟨s1, s2, hR⟩ := h'
    refine .inr ⟨_, _, v1.dp (SeqAt.canLay_of_shaped s1), ?_, s1, s2, q.bl fr hR⟩
    have := v2.dp (by rw [e2]; exact SeqAt.canLay_of_shaped s2)
    rw [e2] at this
    exact this
  · obtain ⟨s1, s2, hR⟩ := h'
    refine .inl ⟨_, _, v1.dp (SeqAt.canLay_of_shaped s1), ?_, s1, s2, q.bl fr hR⟩
    have := v2.dp (by rw [e2]; exact SeqAt.canLay_of_shaped s2)
    rw [e2] at this
    exact this
theorem RpAll.rep {vs : List V} {ds : List D} (h : RpAll K ω H vs ds) : ∀ n : Nat, RpAll K ω H (List.replicate n vs).flatten (List.replicate n ds).flatten
  | 0 => .nil
  | n + 1 => by
    rw [List.replicate_succ, List.replicate_succ, List.flatten_cons, List.flatten_cons]
    exact h.append (RpAll.rep h n)
theorem tuple_mul1 (l : Addr) (items : Array Value) (n : Nat) (dd : Option Addr) (sl : Array (Option Value)) (u : Tok) :
    Meets (Builtin.«tuple.__mul__» ⟨[.ref l, .int 1 u], []⟩) (fun _ R s => s.heap.get? l = some { cls := .type "tuple", dict := dd, data := .seq items n, slots := sl } ∧
      R (.ok (.ret (Value.ref l))) s) :=
  .of_wp fun prog w A R s h => by
    obtain ⟨hp, g, d, tk, os⟩ := s
    obtain ⟨hl, h⟩ := h
    have f1 := AutoSeq1.idx_int
    have c1 : (items.isEmpty || (1 : Int) == 1) = true := by rw [Bool.or_eq_true]; exact .inr rfl
    wp_walk using wpAny_loadPart' hl
    repeat (first
      | (refine wpAny_ite_true (decide_eq_true (by rw [c1])) ?_; wp_walk using wpAny_loadPart' hl))
    exact ⟨_, rfl, h⟩
/-- a tuple once over is the same tuple -/
def rRep1 (K : Fg) : R2 := fun x y H Q => ∃ l xs, x = .ref l ∧ y = .int 1 ∧ SqT K H l xs ∧ Q (.ref l) H
theorem op_rep1 : OpR X (binaryOp .Mult) (rRep1 X.K) := by
  intro pins s σ H x y v u Q I rx ry h
  obtain ⟨l, xs, rfl, rfl, hT, q⟩ := h
  cases rx
  obtain ⟨t, rfl⟩ := ry
  obtain ⟨its, r, ⟨⟨cls, dd, data, sl⟩, ho, hc, n, hd⟩, hs⟩ := I.tuple hT
  simp only at hc hd
  subst hc hd
  refine wpAny_binaryOp_repeat_ref (T := "tuple") (U := "int") (by decide) ⟨_, ho, rfl⟩ (fun s' => typeIs_int s' 1 t) noFill_tuple_mul F.fills_int_mul F.slot_int_rmul repeat_tuple F.slot_int_index.lookup
    (call_meets F.slot_int_rmul (typeIs_int s 1 t) F.entry_int_rmul (F.args_int_rmul_2 _ _) (int_rmul_tuple 1 t l its.toArray n dd sl)
      ⟨ho, rfl, ⟨_, ho, rfl⟩, call_meets F.slot_tuple_mul ⟨_, ho, rfl⟩ F.entry_tuple_mul (F.args_tuple_mul_2 _ _) (tuple_mul1 l its.toArray n dd sl t) ⟨ho, ?_⟩⟩)
  exact ⟨.ref l, H, I, rfl, q⟩
theorem so_mulA : SndO2 K (fun x y H Q => rI CMul (fun i j => .int (i * j)) x y H Q ∨ (rRep x y H Q ∨ (rRepF K x y H Q ∨ rRep1 K x y H Q))) oMulA := by
  intro ω T H x y r1 r2 R Q fr v1 v2 h q
  have h' : dMulA (flat r1) R r1.d r2.d := h
  generalize e1 : r1.d = d1 at h'
  generalize e2 : r2.d = d2 at h'
  cases d1 <;> cases d2 <;> first
    | exact h'.elim
    | skip
  · exact .inl ⟨_, _, v1.int e1, v2.int e2, h'.1, q.int fr h'.2⟩
  · obtain ⟨⟨f, b1, b2, hl⟩, hR⟩ := h'
    obtain ⟨a, vs, rfl, ha, hp⟩ := v1.lst f e1
    exact .inr (.inl ⟨a, _, vs, rfl, v2.int e2, ha, b1, b2, by rw [hp.length]; exact hl, fun p hp' => q.lst fr hp' (hp.rep _) hR⟩)
  · obtain ⟨⟨hne, b1, b2, hl⟩, hR⟩ := h'
    rename_i ds k
    have w1 := v1.rpT e1
    obtain ⟨a, vs, rfl, ha, hp⟩ := v1.tup e1
    by_cases hk : k = 1
    · subst hk
      refine .inr (.inr (.inr ⟨a, vs, rfl, v2.int e2, ha, q.same fr w1 ?_⟩))
      have : (List.replicate (1 : Int).toNat ds).flatten = ds := by simp
      rw [this] at hR
      exact hR
    · refine .inr (.inr (.inl ⟨a, _, vs, rfl, v2.int e2, ha, fun z => ?_, by omega, b2, by rw [hp.length]; exact hl, fun p o hp' ho => q.tup fr hp' ho (hp.rep _) hR⟩))
      subst z
      cases hp
      exact hne rfl
def rIsB2 : R2 := fun x y H Q => rIsB x y H Q ∨ (x = .non ∧ ∃ b : Bool, y = .bl b ∧ Q (.bl false) H)
def rNotB2 : R2 := fun x y H Q => rNotB x y H Q ∨ (x = .non ∧ ∃ b : Bool, y = .bl b ∧ Q (.bl true) H)
theorem op_isB2 : OpR X (compareOp .Is) rIsB2 := OpR.or op_isBl (by
  intro pins s σ H x y v u Q I rx ry ⟨hx, b, hy, q⟩
  subst hx
  subst hy
  cases (show v = Value.none from rx)
  cases (show u = Value.bool b from ry)
  exact wpAny_is_other rfl (fun z => by cases z) ⟨.bl false, H, I, rfl, q⟩)
theorem so_isB : SndO2 K rIsB2 oIsB := by
  intro ω T H x y r1 r2 R Q fr v1 v2 h q
  have h' : dIsB R r1.d r2.d := h
  generalize e1 : r1.d = d1 at h'
  generalize e2 : r2.d = d2 at h'
  cases d1 <;> cases d2 <;> first
    | exact h'.elim
    | exact .inl ⟨_, _, v1.bl e1, v2.bl e2, q.bl fr h'⟩
    | exact .inr ⟨v1.non e1, _, v2.bl e2, q.bl fr h'⟩
variable {a b c : Expr} {fa fb fc : FE} {pos : Pos}
theorem hu65 {A : Around} {k : Nat} (hr : Room k A) : A.units + 65 < cLine := by have := hr.un; omega
theorem se_in {k : Nat} (hr : Room k X.A) (ha : SE X a fa) (hb : SE X b fb) (hm : behindInMarks .In b = false := by with_unfolding_all rfl) : SE X (.Compare a [.In] [b] pos) (fOp2 oIn fa fb) := se_cmp (OpR.or (op_inDT (hu65 hr)) (op_inD (hu65 hr))) so_in ha hb hm
theorem st_notIn {k : Nat} (hr : Room k X.A) (ha : SE X a fa) (hb : SE X b fb) (hm : behindInMarks .NotIn b = false := by with_unfolding_all rfl) : STs X (.Compare a [.NotIn] [b] pos) (fTst (fOp2 oNotIn fa fb)) := st_cmp (OpR.or (op_notInDT (hu65 hr)) (op_notInD (hu65 hr))) so_notIn ha hb hm
theorem se_mulA (ha : SE X a fa) (hb : SE X b fb) : SE X (.BinOp a .Mult b pos) (fOp2 oMulA fa fb) := se_op (OpR.or op_mul (OpR.or op_rep (OpR.or op_repF op_rep1))) so_mulA ha hb
theorem se_isB (ha : SE X a fa) (hb : SE X b fb) : SE X (.Compare a [.Is] [b] pos) (fOp2 oIsB fa fb) := se_cmp op_isB2 so_isB ha hb
end
end Pv

/-! Pv12: zip, enumerate. -/
namespace Pv
open PySem PySem.Spec PyProof.Rows L2
open AutoSeq1 (wpAny_loadPart')
open RZ (ItzT iZipA pi_zipA)

/-! ### enumerate of a tuple -/
def IteT (K : Fg) (a : Addr) : It :=
  ⟨fun i H => ∃ (xs : List V) (x : V), SqT K H a xs ∧ xs[i]? = some x, fun i H v H' => ∃ T x, v = .ref T ∧ H T = none ∧ H' = upd H T (.tup [.int (i : Nat), x]) ∧ ∀ xs, SqT K H a xs → xs[i]? = some x, fun i H => ∃ xs : List V, SqT K H a xs ∧ xs.length ≤ i⟩
def iEnumA (K : Fg) (ta : TA) : TI := fun σ H R => ta σ H fun vs H1 => ∃ a xs, vs = [.ref a] ∧ ((SqL K H1 a xs ∧ R (Ite K a) H1) ∨ (SqT K H1 a xs ∧ R (IteT K a) H1))
/-! ### over data -/
def enumD : Nat → List D → List D
  | _, [] => []
  | n, d :: ds => .tuple [.int n, d] :: enumD (n + 1) ds
def zipD : List D → List D → List D
  | d :: ds, e :: es => .tuple [d, e] :: zipD ds es
  | _, _ => []
theorem zipD_len : ∀ (ds es : List D), (zipD ds es).length = min ds.length es.length
  | [], _ => by simp [zipD]
  | _ :: _, [] => by simp [zipD]
  | d :: ds, e :: es => by show (zipD ds es).length + 1 = _; rw [zipD_len ds es, List.length_cons, List.length_cons]; omega
theorem zipD_get : ∀ {ds es : List D} {i : Nat} {c : D}, (zipD ds es)[i]? = some c → ∃ d e, ds[i]? = some d ∧ es[i]? = some e ∧ c = .tuple [d, e]
  | [], _, _, _, h => by simp [zipD] at h
  | _ :: _, [], _, _, h => by simp [zipD] at h
  | d :: ds, e :: es, 0, c, h => by
    have h' := Option.some.inj h
    subst h'
    exact ⟨d, e, rfl, rfl, rfl⟩
  | d :: ds, e :: es, i + 1, c, h => by
    have h' : (zipD ds es)[i]? = some c := by simpa [zipD] using h
    obtain ⟨x, y, h1, h2, h3⟩ := zipD_get h'
    exact ⟨x, y, by simpa using h1, by simpa using h2, h3⟩
def overEnum (P : List D → Prop) : D → Prop
  | .list ds => P (enumD 0 ds)
  | .tuple ds => P (enumD 0 ds)
  | _ => False
def fEnum (fa : FA) : FI := fun env R => fa env fun rs e => noB rs ∧ match rs with
  | [r] => ovr (overEnum fun ds => R (.v 0 .none) ds e) r.d
  | _ => False
def overZip (P : List D → Prop) : D → D → Prop
  | .list ds, .list es => P (zipD ds es)
  | .tuple ds, .tuple es => P (zipD ds es)
  | _, _ => False
def fZip (fa : FA) : FI := fun env R => fa env fun rs e => noB rs ∧ match rs with
  | [r, r'] => ovr2 (overZip fun ds => R (.v 0 .none) ds e) r.d r'.d
  | _ => False
section
variable {X : Cx} {K : Fg} {σ : Sg} {ω : Om} {H : Hp}
theorem new_pair {H1 H2 : Hp} {ω1 : Om} {T : Addr} {x y : V} {d e : D} (hT : pairF T x y H1 H2) (hx : Rp K ω1 H1 x d) (hy : Rp K ω1 H1 y e) : ∃ ω2, Grow ω1 H1 ω2 H2 ∧ (∀ T0, Free ω1 T0 → Free ω2 T0) ∧ Rp K ω2 H2 (.ref T) (.tuple [d, e]) := by
  obtain ⟨o, ho, hT, rfl⟩ := hT
  have gr : Grow ω1 H1 (putO T .shr ω1) (upd H1 T (.frz o (.tup [x, y]))) := put_grow hT
  refine ⟨putO T .shr ω1, gr, fun T0 f a t p e => ?_, .tup (.inl ⟨o, upd_same, ho, putO_same⟩) (.cons (Rp.sh gr.step.sh _ _ hx) (.cons (Rp.sh gr.step.sh _ _ hy) .nil))⟩
  by_cases h : a = T
  · subst h; rw [putO_same] at e; cases e
  · rw [putO_ne h] at e; exact f a t p e
theorem iters_zipL {a b : Addr} {vs ws : List V} {ds es : List D} (h : H a = some (.lst vs)) (ho : ω a = .shr) (hp : RpAll K ω H vs ds) (h' : H b = some (.lst ws)) (ho' : ω b = .shr) (hp' : RpAll K ω H ws es) : Iters K σ ω H (ItzLF K a b) (.v 0 .none) (zipD ds es) := by
  intro ω1 H1 env1 σ1 rel g _ _ i
  have hs : SqL K H1 a vs := .inl (.inl (g a _ h ho).1)
  have hs' : SqL K H1 b ws := .inl (.inl (g b _ h' ho').1)
  have hp1 := RpAll.sh g _ _ hp
  have hp2 := RpAll.sh g _ _ hp'
  refine ⟨fun c hc => ?_, fun hl => ⟨vs, ws, hs, hs', by rw [zipD_len] at hl; rw [hp.length, hp'.length]; omega⟩⟩
  obtain ⟨d, e, hd, he, rfl⟩ := zipD_get hc
  obtain ⟨v, hv, rv⟩ := hp1.at_ hd
  obtain ⟨u, hu, ru⟩ := hp2.at_ he
  refine ⟨⟨vs, ws, v, u, hs, hs', hv, hu⟩, fun x H2 y => ?_⟩
  obtain ⟨T, p, q, y1, y2, y4, y5⟩ := y
  subst y1
  have e1 := y4 vs hs
  rw [hv] at e1
  cases e1
  have e2 := y5 ws hs'
  rw [hu] at e2
  cases e2
  exact new_pair y2 rv ru
theorem iters_zipT {a b : Addr} {vs ws : List V} {ds es : List D} (h : SU K ω H a vs) (hp : RpAll K ω H vs ds) (h' : SU K ω H b ws) (hp' : RpAll K ω H ws es) : Iters K σ ω H (ItzTF K a b) (.v 0 .none) (zipD ds es) := by
  intro ω1 H1 env1 σ1 rel g _ _ i
  have hs : SqT K H1 a vs := (h.sh g).seq
  have hs' : SqT K H1 b ws := (h'.sh g).seq
  have hp1 := RpAll.sh g _ _ hp
  have hp2 := RpAll.sh g _ _ hp'
  refine ⟨fun c hc => ?_, fun hl => ⟨vs, ws, hs, hs', by rw [zipD_len] at hl; rw [hp.length, hp'.length]; omega⟩⟩
  obtain ⟨d, e, hd, he, rfl⟩ := zipD_get hc
  obtain ⟨v, hv, rv⟩ := hp1.at_ hd
  obtain ⟨u, hu, ru⟩ := hp2.at_ he
  refine ⟨⟨vs, ws, v, u, hs, hs', hv, hu⟩, fun x H2 y => ?_⟩
  obtain ⟨T, p, q, y1, y2, y4, y5⟩ := y
  subst y1
  have e1 := y4 vs hs
  rw [hv] at e1
  cases e1
  have e2 := y5 ws hs'
  rw [hu] at e2
  cases e2
  exact new_pair y2 rv ru
theorem si_zip {elts : List Expr} {kk : Nat} {tpos : Pos} {a b : Expr} {fa : FA} {p pos : Pos} (hm : X.mg "zip" = none) (ha : SA X [a, b] fa) (hg : Gl X "zip" := by rfl) (hs : starEach [a, b] X.env = (false, eval a X.env) :: starEach [b] X.env := by rfl) (hpl : (backTo pos (starEach [b] X.env)).any (·.1) = false := by rfl) : SI X (.Tuple elts kk tpos) (.Call (.Name "zip" p) [a, b] [] pos) (fZip fa) := by
  obtain ⟨t, p, s⟩ := ha.ex
  refine ⟨_, pi_zipF hg hm p hs hpl, fun ω T env σ H R Q rel fr hR q => ?_⟩
  refine s ω T env σ H _ _ rel fr hR fun vs H1 ω1 e1 rs rel1 st1 fr1 rr1 h1 => ?_
  obtain ⟨nb, h1⟩ := h1
  match rs, nb, h1, rr1 with
  | [.v k d, .v k' d'], nb, h1, rr1 =>
    obtain ⟨v, v', rfl, hv, hv'⟩ := (rr1.gc (T0 := T) rel1 (Nat.le_refl _)).two
    have rp : Rp X.K (gc T ω1) H1 v d := hv
    have rp' : Rp X.K (gc T ω1) H1 v' d' := hv'
    have h2 : overZip (fun ds => R (.v 0 .none) ds e1) d d' := ovr2_cl h1
    cases d <;> cases d' <;> first
      | exact h2.elim
      | skip
    · cases rp with
      | lst hs hp =>
        cases rp' with
        | lst hs' hp' => exact ⟨_, _, _, _, rfl, .inl ⟨hs.seq, hs'.seq, q _ H1 (gc T ω1) e1 _ _ (rel1.gc T) (st1.gc fr) gc_free (iters_zipL hs.1 hs.2 hp hs'.1 hs'.2 hp') trivial h2⟩⟩
    · cases rp with
      | tup hs hp =>
        cases rp' with
        | tup hs' hp' => exact ⟨_, _, _, _, rfl, .inr ⟨hs.seq, hs'.seq, q _ H1 (gc T ω1) e1 _ _ (rel1.gc T) (st1.gc fr) gc_free (iters_zipT hs hp hs' hp') trivial h2⟩⟩
end
end Pv

/-! Pv13: constants of a module, tuple(range(..)), list(range(..)). -/
namespace Pv
open PySem PySem.Spec PyProof.Rows L2

section
variable {X : Cx}
end
/-! ### tuple(range(..)), list(range(..)) -/
def fRngT1 (fa : FE) : FE := fun env R => fa env fun r e => atInt (fun n => RgOk 0 n ∧ R (.v 0 (.tuple (rngD 0 n))) e) r.d
def fRngL1 (fa : FE) : FE := fun env R => fa env fun r e => atInt (fun n => RgOk 0 n ∧ R (.v 1 (.list (rngD 0 n))) e) r.d
def fRngT2 (fa fb : FE) : FE := fun env R => fa env fun r e => atInt (fun m => fb e fun r' e' => atInt (fun n => RgOk m n ∧ R (.v 0 (.tuple (rngD m n))) e') r'.d) r.d
def fRngL2 (fa fb : FE) : FE := fun env R => fa env fun r e => atInt (fun m => fb e fun r' e' => atInt (fun n => RgOk m n ∧ R (.v 1 (.list (rngD m n))) e') r'.d) r.d
section
variable {X : Cx} {K : Fg} {ω : Om} {H : Hp} {a b : Expr} {fa fb : FE} {p p2 pos pos2 : Pos}
end
end Pv

/-! Pv14: list(range(i, j, -1)), index, more methods of an own list, chains. -/
namespace Pv
open PySem PySem.Spec PyProof.Rows L2
/-! ### list(range(i, j, -1)) -/
def rgDn (a b : Int) : List V := (List.range (a - b).toNat).map fun i => V.int (a - (i : Nat))
def rngDn (a b : Int) : List D := (List.range (a - b).toNat).map fun i => PyData.int (a - (i : Nat))
def RgDn (a b : Int) : Prop := -(2 ^ 62) ≤ a ∧ a < 2 ^ 62 ∧ -(2 ^ 62) ≤ b ∧ b < 2 ^ 62 ∧ (a - b).toNat ≤ 2 ^ 24
def tLR3 (ta : TA) : TE := fun σ H Q => ta σ H fun vs H1 => ∃ i j : Int, vs = [.int i, .int j, .int (-1)] ∧ RgDn i j ∧ ∀ q, H1 q = none → Q (.ref q) (upd H1 q (.lst (rgDn i j)))
section
variable {X : Cx}
end
section
variable {K : Fg} {ω : Om} {H : Hp}
end
def dI3 (R : Int → Int → Prop) : List Res → Prop
  | [r, r', r''] => atInt (fun i => atInt (fun j => atInt (fun c => c = -1 ∧ R i j) r''.d) r'.d) r.d
  | _ => False
def fRngL3 (fa : FA) : FE := fun env R => fa env fun rs e => dI3 (fun i j => RgDn i j ∧ R (.v 1 (.list (rngDn i j))) e) rs
section
variable {X : Cx}
end
/-! ### xs.index(y) of a list of flat things -/
def firstAt (d : D) : List D → Option Nat
  | [] => none
  | e :: es => if PyData.eqv e d then some 0 else (firstAt d es).map (· + 1)
def isL : D → Prop
  | .list _ => True
  | _ => False
def dIndex (f : Prop) (d : D) (R : KC) : D → Prop
  | .list ds => (f ∧ flatD d = true ∧ ds.all flatD = true) ∧ ∃ j, firstAt d ds = some j ∧ R 0 (.int (j : Nat))
  | _ => False
def oIndex : O2 := fun r1 r2 R => dIndex (flat r1) r2.d R r1.d
def fIdx (fa fb : FE) : FE := fun env R => fa env fun r1 e1 => (isL r1.d ∧ flat r1) ∧ fb e1 fun r2 e2 => okb e2 r1 ∧ ap2 oIndex r1 r2 fun k d => R (.v k d) e2
section
variable {K : Fg}
theorem allFlat {ω : Om} {H : Hp} : ∀ {vs : List V} {ds : List D}, RpAll K ω H vs ds → ds.all flatD = true → vs.all L2.flatV = true
  | _, _, .nil, _ => rfl
  | _, _, .cons h t, z => by
    rw [List.all_cons, Bool.and_eq_true] at z
    rw [List.all_cons, Rp.flatV h z.1, allFlat t z.2]; rfl
end
section
variable {X : Cx} {o e : Expr} {fa fb : FE} {apos cpos : Pos}
end
/-! ### methods of an own list without arguments -/
def fMth0 (i : Nat) (m : MT) : FE := fun env R => onOwn (getC env i) fun ds => m ds [] fun res ds' => R (.v 0 res) (env.set i (some (ow (.list ds'))))
def mReverse : MT := fun ds es R => match es with
  | [] => R .none ds.reverse
  | _ => False
def mClear : MT := fun ds es R => match es with
  | [] => R .none []
  | _ => False
def mPop : MT := fun ds es R => match es with
  | [] => ∃ y, ds.getLast? = some y ∧ R y ds.dropLast
  | _ => False
section
variable {K : Fg}
theorem RpAll.dropLast {ω : Om} {H : Hp} {vs : List V} {ds : List D} (h : RpAll K ω H vs ds) : RpAll K ω H vs.dropLast ds.dropLast := by
  rw [List.dropLast_eq_take, List.dropLast_eq_take, h.length]
  exact h.take _
end
section
variable {X : Cx} {x : Str} {p apos cpos : Pos}
theorem se_mth1 {nm : Str} {id : String} {r : V → List V → Hp → VK → Prop} {m : MT} {e : Expr} {es : List Expr} {fa : FA} (i : Nat) (slot : Slot "list" nm id) (hty : typeOf (.builtin id) = pure (.type "method_descriptor")) (hm : MtR X id r) (sm : SndM X.K r m) (ha : SA X (e :: es) fa)
    (hN : X.N[i]? = some x := by rfl) (hv : Vis X.env.scope x := by first | exact Or.inl rfl | exact Or.inr (Or.inl rfl) | exact Or.inr (Or.inr rfl)) (hbase : attributeBase (.Name x p) nm X.env (eval (.Name x p) X.env) = eval (.Name x p) X.env := by rfl)
    (hfew : ((backTo cpos (starEach (e :: es) X.env)).all (fun x => !x.1) && (backToKw cpos (keywordEach [] X.env)).all (fun x => x.1.isSome) && decide ((e :: es).length + ([] : List Keyword).length + (if ([] : List Keyword).isEmpty then 0 else 1) < 30)) = true := by rfl)
    (hline : (apos.endLine == cpos.line) = true := by rfl) (hs : starEach (e :: es) X.env = (false, eval e X.env) :: starEach es X.env := by rfl) (hpl : (backTo cpos (starEach es X.env)).any (·.1) = false := by rfl) (hd : (x == ("__debug__" : Str)) = false := by decide) (hcd : (x == ("__classdict__" : Str)) = false := by decide) :
    SE X (.Call (.Attribute (.Name x p) nm apos) (e :: es) [] cpos) (fMth i m fa) := by
  obtain ⟨t, q, s⟩ := ha.ex
  exact ⟨_, pe_bm PySem.F.plainAttrs_list slot hty hm (pe_var hN hv hd hcd) q hbase hfew hline hs hpl, snd_mth sm s⟩
end
end Pv

/-! Pv15: a test that borrows a slot's own list. -/
namespace Pv
open PySem PySem.Spec PyProof.Rows L2
/-- behind a test that borrows slot i: it and the boxes as they were, of the other slots what is shared -/
def lendG (i : Nat) (bx : List Nat) : Nat → Env → Env
  | _, [] => []
  | n, c :: e => (bif (n == i || bx.contains n) then c else keepC c) :: lendG i bx (n + 1) e
def fLend (i : Nat) (bx : List Nat) (fc : FT) : FT := fun env R => match getC env i with
  | some c => fc (env.set i (some (sh c.d))) fun b e' => (∀ j ∈ bx, e'[j]? = env[j]? ∧ ∃ ns : List Int, env[j]? = some (some ⟨1, .list (ns.map .int)⟩)) ∧ R b (lendG i bx 0 env)
  | none => False
section
variable {K : Fg}
end
end Pv

/-! Pv16: chains of comparisons, tuples of the module, what is never reached. -/
namespace Pv
open PySem PySem.Spec PyProof.Rows L2
/-! ### a op b op' c -/
def fChain (o o' : O2) (fa fb fc : FE) : FE := fun env R => fa env fun r1 e1 => fb e1 fun r2 e2 => okb e2 r1 ∧ ap2 o r1 r2 fun _ d => dB (fun b => match b with
  | true => fc e2 fun r3 e3 => okb e3 r2 ∧ ap2 o' r2 r3 fun k d => R (.v k d) e3
  | false => R (.v 0 (.bool false)) e2) d
section
variable {K : Fg}
end
section
variable {X : Cx} {a b c : Expr} {fa fb fc : FE} {pos : Pos}
/-! ### constants of the module -/
theorem se_gk {x : Str} {d : D} {pos : Pos} (h : ∃ u, X.mg x = some u ∧ KD X.K u d) (hg : Gl X x := by rfl) (hd : (x == ("__debug__" : Str)) = false := by decide) : SE X (.Name x pos) (fC d) := by
  obtain ⟨u, h, k⟩ := h
  exact se_glob h k hg hd
end
theorem kd_tupS {K : Fg} {a : Addr} {its : Array Value} {n : Nat} {sl : Array (Option Value)} (xs : List Str) (l : K.lookup a = some ⟨.type "tuple", none, .seq its n, sl⟩) (hv : Vals (xs.map V.str) its.toList) (hn : its.size ≤ sizeLine) : KD K (.ref a) (.tuple (xs.map .str)) :=
  ⟨.ref a, rfl, fun ω H => .tup (.inr ⟨_, its, n, l, rfl, rfl, rfl, hn, hv⟩) (by
    clear hv
    induction xs with
    | nil => exact .nil
    | cons x xs ih => exact .cons (.str x) ih)⟩
/-! ### what is never reached -/
def fNoS : FS := fun _ _ => False
def fNoE : FE := fun _ _ => False
end Pv

/-! Pv17: max(.., default=i) of a list of ints. -/
namespace Pv
open PySem PySem.Spec PyProof.Rows L2
def mxD (i : Int) : List Int → Int
  | [] => i
  | n :: ns => ns.foldl max n
def dMaxDf (f : Prop) (R : KC) (i : Int) : D → Prop
  | .list ds => f ∧ ∃ ns : List Int, ds = ns.map PyData.int ∧ R 0 (.int (mxD i ns))
  | _ => False
def oMaxDf (i : Int) : O1 := fun r R => dMaxDf (flat r) R i r.d
def rMaxDf (K : Fg) (i : Int) : List V → Hp → VK → Prop := fun vs H Q => ∃ (a : Addr) (ns : List Int), vs = [V.ref a] ∧ SqL K H a (ns.map V.int) ∧ Q (.int (mxD i ns)) H
section
variable {X : Cx}
end
end Pv

/-! Pv18: x[i], x[j] = a, b (ints, of a slot's own list). -/
namespace Pv
open PySem PySem.Spec PyProof.Rows L2
def fSwp (i : Nat) (fa : FA) (f1 f2 : FE) : FS := fun env k => fa env fun rs e1 => match rs with
  | [r1, r2] => atInt (fun a => atInt (fun b => isOwn (getC e1 i) ∧ f1 e1 fun rj e2 => onOwn (getC e2 i) fun ds => atInt (fun j => ∃ n, ixN ds.length j = some n ∧
      (isOwn (getC (e2.set i (some (ow (.list (ds.set n (.int a)))))) i) ∧ f2 (e2.set i (some (ow (.list (ds.set n (.int a)))))) fun rl e3 => onOwn (getC e3 i) fun ds2 => atInt (fun l => ∃ n2, ixN ds2.length l = some n2 ∧ k.nx (e3.set i (some (ow (.list (ds2.set n2 (.int b))))))) rl.d)) rj.d) r2.d) r1.d
  | _ => False
section
variable {K : Fg} {io : Nat → Bool}
end
section
variable {X : Cx} {io : Nat → Bool} {a b j1 j2 : Expr} {fa : FA} {f1 f2 : FE} {x : Str} {p1 p2 q1 q2 pt pt2 pos : Pos} {kt k2 : Nat}
end
end Pv

/-! Pv19: {text: text, ..}[e], written where it is looked at. -/
namespace Pv
open PySem PySem.Spec PyProof.Rows L2
def cPairs (kvs : List (Str × Str)) : List (TE × TE) := kvs.map fun p => (tC (.str p.1), tC (.str p.2))
structure DKs (X : Cx) (pos : Pos) (keys : List (Option Expr)) (values : List Expr) (kvs : List (Str × Str)) : Prop where
  pps : PPs X pos keys values (cPairs kvs)
def keyS (kvs : List (Str × Str)) : List (Key × V) := kvs.map fun p => (Sum.inr p.1, V.str p.2)
def lkS (kvs : List (Str × Str)) (s : Str) : Option Str := match valV (mergeK [] (keyS kvs)) (.inr s) with
  | some (.str v) => some v
  | _ => none
def pickT (R : KC) : Option Str → Prop
  | some v => R 0 (.str v)
  | none => False
def dLk (kvs : List (Str × Str)) (R : KC) : D → Prop
  | .str s => pickT R (lkS kvs s)
  | _ => False
def oLk (kvs : List (Str × Str)) : O1 := fun r R => dLk kvs R r.d
section
variable {X : Cx} {pos : Pos} {keys : List (Option Expr)} {values : List Expr} {kvs : List (Str × Str)} {a b : Str} {p1 p2 : Pos}
end
end Pv

/-! Pv20: dicts whose keys are ints. -/
namespace Pv
open PySem PySem.Spec PyProof.Rows L2
/-! ### rules of the machine -/
def rEq0 (p : Bool → Bool) : R2 := fun x y H Q => ∃ a b ks ls, x = .ref a ∧ y = .ref b ∧ H a = some (.dK ks) ∧ H b = some (.dK ls) ∧ (ks = [] ∨ ls = []) ∧ Q (.bl (p (ks.length == ls.length))) H
def rUpdD : V → List V → Hp → VK → Prop := fun x vs H Q => ∃ (a b : Addr) (kvs more : List (Key × V)), x = .ref a ∧ vs = [.ref b] ∧ H a = some (.dK kvs) ∧ H b = some (.dK more) ∧ a ≠ b ∧ kvs.length + more.length ≤ sizeLine ∧ Q .non (upd H a (.dK (mergeK kvs more)))
section
variable {X : Cx}
end
/-! ### the data -/
def putE (es : List (Int × D)) (i : Int) (d : D) : List (Int × D) := if (es.any fun p => decide (p.1 = i)) = true then es.map (fun p => if p.1 = i then (p.1, d) else p) else es ++ [(i, d)]
def valE (es : List (Int × D)) (i : Int) : Option D := (es.find? fun p => decide (p.1 = i)).map (·.2)
def mergeE (es more : List (Int × D)) : List (Int × D) := more.foldl (fun acc p => putE acc p.1 p.2) es
/-- what a dict's value may be -/
def isDV (d : D) : Prop := (∃ b, d = .bool b) ∨ (∃ i, d = .int i) ∨ ∃ ns : List Int, d = .list (ns.map .int)
section
variable {K : Fg} {ω : Om} {H : Hp}
theorem DVal.rp {v : V} {d : D} (h : DVal ω H v d) : Rp K ω H v d := by
  cases h with
  | bl b => exact .bl b
  | int i => exact .int i
  | il h => exact .lst h (RpAll.ints _)
theorem DPs.length : ∀ {kvs : List (Key × V)} {es : List (Int × D)}, DPs ω H kvs es → kvs.length = es.length
  | _, _, .nil => rfl
  | _, _, .cons _ t => congrArg (· + 1) t.length
theorem DPs.keys : ∀ {kvs : List (Key × V)} {es : List (Int × D)}, DPs ω H kvs es → (kvs.map fun kv => kV kv.1) = (es.map (·.1)).map V.int
  | _, _, .nil => rfl
  | _, _, .cons _ t => congrArg (_ :: ·) t.keys
theorem DPs.any (i : Int) : ∀ {kvs : List (Key × V)} {es : List (Int × D)}, DPs ω H kvs es → (kvs.any fun kv => decide (kv.1 = .inl i)) = es.any fun p => decide (p.1 = i)
  | _, _, .nil => rfl
  | _, _, .cons (i := j) _ t => by
    rw [List.any_cons, List.any_cons, DPs.any i t]
    congr 1
    by_cases h : j = i
    · rw [decide_eq_true h, decide_eq_true (by rw [h])]
    · rw [decide_eq_false h, decide_eq_false (fun z => h (Sum.inl.inj z))]
theorem DPs.append : ∀ {kvs kws : List (Key × V)} {es fs : List (Int × D)}, DPs ω H kvs es → DPs ω H kws fs → DPs ω H (kvs ++ kws) (es ++ fs)
  | _, _, _, _, .nil, s => s
  | _, _, _, _, .cons h t, s => .cons h (t.append s)
theorem DPs.over {v : V} {d : D} (i : Int) (hv : DVal ω H v d) : ∀ {kvs : List (Key × V)} {es : List (Int × D)}, DPs ω H kvs es → DPs ω H (kvs.map fun kv => if kv.1 = .inl i then (kv.1, v) else kv) (es.map fun p => if p.1 = i then (p.1, d) else p)
  | _, _, .nil => .nil
  | _, _, .cons (i := j) h t => by
    rw [List.map_cons, List.map_cons]
    by_cases e : j = i
    · subst e
      rw [if_pos rfl, if_pos rfl]
      exact .cons hv (DPs.over _ hv t)
    · rw [if_neg e, if_neg (fun z => e (Sum.inl.inj z))]
      exact .cons h (DPs.over _ hv t)
theorem DPs.put {v : V} {d : D} {i : Int} (hv : DVal ω H v d) {kvs : List (Key × V)} {es : List (Int × D)} (h : DPs ω H kvs es) : DPs ω H (putK kvs (.inl i) v) (putE es i d) := by
  unfold putK putE
  rw [h.any i]
  by_cases e : (es.any fun p => decide (p.1 = i)) = true
  · rw [if_pos e, if_pos e]; exact h.over i hv
  · rw [if_neg e, if_neg e]; exact h.append (.cons hv .nil)
theorem DPs.get {i : Int} {d : D} : ∀ {kvs : List (Key × V)} {es : List (Int × D)}, DPs ω H kvs es → valE es i = some d → ∃ v, valV kvs (.inl i) = some v ∧ DVal ω H v d
  | _, _, .nil, e => by cases e
  | _, _, .cons (i := j) (v := v0) (d := d0) h t, e => by
    unfold valE at e
    unfold valV
    rw [List.find?_cons] at e ⊢
    by_cases z : j = i
    · rw [decide_eq_true z] at e
      rw [decide_eq_true (show (Sum.inl j : Key) = .inl i by rw [z])]
      have e : some d0 = some d := e
      cases e
      exact ⟨v0, rfl, h⟩
    · rw [decide_eq_false z] at e
      rw [decide_eq_false (fun y : (Sum.inl j : Key) = .inl i => z (Sum.inl.inj y))]
      exact DPs.get t e
theorem dctD_inj : ∀ {es fs : List (Int × D)}, dctD es = dctD fs → es = fs := by
  intro es fs h
  have h2 := (List.cons.inj (PyData.dict.inj h)).2
  have inj : ∀ (as bs : List (Int × D)), (as.map fun p => (PyData.int p.1, p.2)) = (bs.map fun p => (PyData.int p.1, p.2)) → as = bs := by
    intro as
    induction as with
    | nil => intro bs q; cases bs with
      | nil => rfl
      | cons _ _ => cases q
    | cons a as ih => intro bs q; cases bs with
      | nil => cases q
      | cons b bs =>
        rw [List.map_cons, List.map_cons] at q
        have q1 := Prod.mk.inj (List.cons.inj q).1
        have q3 : a = b := Prod.ext (PyData.int.inj q1.1) q1.2
        rw [q3, ih bs (List.cons.inj q).2]
  exact inj _ _ h2
theorem DcR.int_ {a : Addr} {u : HO} {q : D × List (D × D)} {es : List (Int × D)} (h : DcR K ω H a u q) (e : dctD es = dcD q) : ∃ kvs, u = .dK kvs ∧ DPs ω H kvs es := by
  cases h with
  | int h => cases dctD_inj e; exact ⟨_, rfl, h⟩
  | tup h =>
    have := congrArg headD e
    rw [dcD_int, head_dct, head_dct] at this
    cases this
theorem Rp.dct_ {v : V} {es : List (Int × D)} (h : Rp K ω H v (dctD es)) : ∃ a kvs, v = .ref a ∧ H a = some (.dK kvs) ∧ DPs ω H kvs es ∧ ω a = .shr := by
  generalize e : dctD es = d at h
  cases h with
  | dct h1 h2 h3 => obtain ⟨kvs, rfl, h5⟩ := h3.int_ e; exact ⟨_, _, rfl, h1, h5, h2⟩
  | scr hs =>
    have e2 := congrArg isScr (PyData.dict.inj e)
    rw [isScr_map] at e2
    cases e2
  | _ => cases e
theorem OwR.dct_ {k : Nat} {o : List Nat → Ow} {p : List Nat} {v : V} {es : List (Int × D)} (h : OwR K ω H k o p v (dctD es)) : ∃ a kvs, v = .ref a ∧ H a = some (.dK kvs) ∧ DPs ω H kvs es ∧ (0 < k → ω a = o p) := by
  cases k with
  | zero =>
    obtain ⟨a, kvs, h1, h2, h3, _⟩ := Rp.dct_ (K := K) h
    exact ⟨a, kvs, h1, h2, h3, fun z => by cases z⟩
  | succ k =>
    rcases h with ⟨i, _⟩ | ⟨_, _, _, _, e2, _⟩ | ⟨a, kvs, es', e1, e2, h1, h2, h3⟩ | ⟨_, _, _, _, _, _, _, e2, _⟩ | ⟨_, _, _, _, e2, _⟩
    · cases i
    · cases e2
    · obtain ⟨kvs, rfl, h5⟩ := h3.int_ e2
      exact ⟨a, kvs, e1, h1, h5, fun _ => h2⟩
    · rw [dcD_int] at e2; exact (dct_not_ins e2).elim
    · first | (cases e2; done) | exact (dct_not_otp e2).elim | exact (dct_not_otp e2.symm).elim | exact (ins_not_otp e2.symm).elim | exact (ins_not_otp e2).elim | exact (exc_not_otp e2).elim | (subst e2; cases f; done)
theorem Vw.dct {v : V} {r : Res} (h : Vw K ω H v r) {es : List (Int × D)} (e : r.d = dctD es) : ∃ a kvs, v = .ref a ∧ H a = some (.dK kvs) ∧ DPs ω H kvs es := by
  cases r with
  | v k d =>
    have e' : d = dctD es := e
    have h' : Rp K ω H v d := h
    rw [e'] at h'
    obtain ⟨a, kvs, h1, h2, h3, _⟩ := h'.dct_
    exact ⟨a, kvs, h1, h2, h3⟩
  | b j k d =>
    have e' : d = dctD es := e
    have h' : OwR K ω H k (Ow.own j) [] v d := h
    rw [e'] at h'
    obtain ⟨a, kvs, h1, h2, h3, _⟩ := h'.dct_
    exact ⟨a, kvs, h1, h2, h3⟩
end
/-! ### {} -/
def fDNew : FE := fun env R => R (.v 1 (dctD [])) env
section
variable {X : Cx} {pos : Pos}
end
/-! ### list(d), d == {}, d[k] -/
def oListD : O1 := fun r R => ∃ es, r.d = dctD es ∧ R 1 (.list ((es.map (·.1)).map .int))
def oEqD0 (p : Bool → Bool) : O2 := fun r1 r2 R => ∃ es fs, r1.d = dctD es ∧ r2.d = dctD fs ∧ (es = [] ∨ fs = []) ∧ R 0 (.bool (p (es.length == fs.length)))
def oIxD : O2 := fun r1 r2 R => ∃ es i d, r1.d = dctD es ∧ r2.d = .int i ∧ valE es i = some d ∧ R 0 d
def rListD : V → Hp → VK → Prop := fun x H Q => ∃ a kvs, x = .ref a ∧ H a = some (.dK kvs) ∧ ∀ p, H p = none → Q (.ref p) (upd H p (.lst (kvs.map fun kv => kV kv.1)))
def rIxD0 : R2 := fun x y H Q => ∃ a v, x = .ref a ∧ DGet H a y (some v) ∧ Q v H
section
variable {X : Cx} {K : Fg} {a b e : Expr} {fa fb : FE} {fA : FA} {p pos : Pos}
end
/-! ### a slot's own dict -/
@[irreducible] def onOwnD (c : Option Cell) (P : List (Int × D) → Prop) : Prop := ∃ es, c = some (ow (dctD es)) ∧ P es
theorem ev_onD {es : List (Int × D)} {P : List (Int × D) → Prop} (h : P es) : onOwnD (some (ow (dctD es))) P := by unfold onOwnD; exact ⟨es, rfl, h⟩
section
variable {K : Fg} {ω : Om} {env : Env} {σ : Sg} {H : Hp}
end
/-- x[k] = v -/
def fSetIxD (i : Nat) (fa fj : FE) : FS := fun env k => fa env fun r e1 => noB [r] ∧ onOwnD (getC e1 i) fun _ => fj e1 fun rj e2 => onOwnD (getC e2 i) fun es => atInt (fun j => (isDV r.d ∧ es.length < sizeLine) ∧ k.nx (e2.set i (some (ow (dctD (putE es j r.d)))))) rj.d
section
variable {K : Fg} {io : Nat → Bool}
end
section
variable {X : Cx} {io : Nat → Bool} {e j : Expr} {fa fj : FE} {x : Str} {p pos' pos : Pos}
end
/-- x.update(d) -/
@[irreducible] def at1D (P : List (Int × D) → Prop) : List Res → Prop
  | [r] => noB [r] ∧ ∃ fs, r.d = dctD fs ∧ P fs
  | _ => False
theorem ev_at1D {k : Nat} {fs : List (Int × D)} {P : List (Int × D) → Prop} (h : P fs) : at1D P [.v k (dctD fs)] := by unfold at1D; exact ⟨trivial, fs, rfl, h⟩
def fUpdD (i : Nat) (fa : FA) : FE := fun env R => onOwnD (getC env i) fun _ => fa env fun rs e => at1D (fun fs => onOwnD (getC e i) fun es => es.length + fs.length ≤ sizeLine ∧ R (.v 0 .none) (e.set i (some (ow (dctD (mergeE es fs)))))) rs
section
variable {K : Fg}
end
section
variable {X : Cx} {e : Expr} {fa : FA} {x : Str} {p apos cpos : Pos}
end
/-! ### {e: True for ..} -/
def trueE (ns : List Int) : List (Int × D) := ns.foldl (fun es i => putE es i (.bool true)) []
def fInt (fe : FE) : FE := fun env R => fe env fun r e => dI (fun i => R (.v 0 (.int i)) e) r.d
@[irreducible] def onInts (P : List Int → Prop) (d : D) : Prop := ∃ ns : List Int, d = .list (ns.map .int) ∧ P ns
theorem ev_onInts {ns : List Int} {P : List Int → Prop} (h : P ns) : onInts P (.list (ns.map .int)) := by unfold onInts; exact ⟨ns, rfl, h⟩
def fDc (own : List Nat) (fi : FI) (g : FG) (ft : FT) (fk : FE) : FE := fun env R => fLc own fi g ft (fInt fk) env fun r e => onInts (fun ns => R (.v 1 (dctD (trueE ns))) e) r.d
theorem ints_inj : ∀ {as bs : List Int}, as.map PyData.int = bs.map PyData.int → as = bs
  | [], [], _ => rfl
  | [], _ :: _, h => by cases h
  | _ :: _, [], h => by cases h
  | a :: as, b :: bs, h => by
    have h1 := List.cons.inj h
    rw [PyData.int.inj h1.1, ints_inj h1.2]
section
variable {K : Fg}
end
section
variable {X : Cx} {elt tg iter : Expr} {ifs : List Expr} {scope : Scope} {own : List (Str × Nat)} {pos pb : Pos} {fi : FI} {g : FG} {ft : FT} {fe : FE}
end
end Pv

/-! Pv21: sorted(set(x)), x a list of ints. -/
namespace PySem
open L2 PyProof.Rows
section
variable {P : Program} {w : World} {A : Around} {E : Value → Shared → Prop} {s : Shared}
/-- a new, empty set -/
def nset (w : World) : Obj := { cls := .type "set", dict := none, data := .set #[] 0 (.fresh 0 0 (!w.params.followText "set-order")) }
/-- what the filling of the new set leaves -/
def FilledS (w : World) (s : Shared) (ns : List Int) (r : Value) (s2 : Shared) : Prop :=
  r = .none ∧ ∃ h' tk c, s2 = { s with heap := h', toks := tk } ∧ SetR w h' s.heap.objs.size (fun j => decide (j ∈ ns)) c ∧ c ≤ ns.length ∧ ∀ b o, s.heap.get? b = some o → h'.get? b = some o
end
end PySem
namespace Pv
open PySem PySem.Spec PyProof.Rows L2
section
variable {X : Cx}
def rSetL (K : Fg) (w : World) : List V → Hp → VK → Prop := fun vs H Q => ∃ (a : Addr) (ns : List Int), vs = [V.ref a] ∧ SqL K H a (ns.map V.int) ∧ ns.length ≤ 60 ∧
  ∀ p c, H p = none → c ≤ ns.length → Q (.ref p) (upd H p (SetO w p (fun j => decide (j ∈ ns)) c))
def dSortedSet (f : Prop) (R : KC) : D → Prop
  | .list ds => f ∧ ∃ ns : List Int, ds = ns.map PyData.int ∧ ns.length ≤ 60 ∧ ∀ ns' : List Int, ns'.Pairwise (· < ·) → (∀ k, k ∈ ns' ↔ k ∈ ns) → ns'.length ≤ ns.length → R 1 (.list (ns'.map .int))
  | _ => False
def oSortedSet : O1 := fun r R => dSortedSet (flat r) R r.d
theorem Out.grow {K : Fg} {ω ω1 : Om} {T : Nat} {H H1 : Hp} {R : KC} {Q : VK} (q : Out K ω T H R Q) (g : Grow ω H ω1 H1) : Out K ω1 T H1 R Q :=
  fun v H' ω' k d g2 fr h hR => q v H' ω' k d (g.trans g2) fr h hR
variable {e : Expr} {fa : FA} {p p2 pos pos2 : Pos}
end
end Pv

/-! Pv22: `name = {e: True for ..}` on one line. -/
namespace Pv
open PySem PySem.Spec PyProof.Rows L2
section
variable {X : Cx}
variable {elt tg iter : Expr} {ifs : List Expr} {scope : Scope} {own : List (Str × Nat)} {pos pb spos py : Pos} {y : Str} {fi : FI} {g : FG} {ft : FT} {fe : FE} {io : Nat → Bool}
variable {a b : Expr} {fa fb : FE}
end
end Pv

/-! Pv23: len(set(t)) and t.count(k), t a tuple of ints. -/
namespace Pv
open PySem PySem.Spec PyProof.Rows L2
section
variable {X : Cx}
def rSetT (K : Fg) (w : World) : List V → Hp → VK → Prop := fun vs H Q => ∃ (a : Addr) (ns : List Int), vs = [V.ref a] ∧ SqT K H a (ns.map V.int) ∧ ns.length ≤ 1000 ∧
  ∀ p c, H p = none → c ≤ ns.length → Q (.ref p) (upd H p (SetO w p (fun j => decide (j ∈ ns)) c))
theorem cr_setT (hc : X.calm = true) : CallR X (.type "set") (rSetT X.K X.w) := by
  intro pins s σ H vs us Q I r h
  obtain ⟨a, ns, rfl, hs, hl, q⟩ := h
  obtain ⟨its, rv, pl, hz⟩ := I.tuple hs
  rw [Vals.ref1 r]
  refine call_set_tupI ns (I.ok.hd hc) pl (ints_of_vals rv) (by unfold scanBound; omega) fun h' tk c hS hcn hk => ?_
  exact ⟨.ref _, upd H s.heap.objs.size (SetO X.w s.heap.objs.size (fun j => decide (j ∈ ns)) c), I.laid (t' := tk) hk (Nat.le_refl _) (setO_new hS), rfl, q _ _ (I.hok.fresh (Nat.le_refl _)) hcn⟩
/-- len(found) -/
def rLenSetO (w : World) : List V → Hp → VK → Prop := fun vs H Q => ∃ (a : Addr) (S : Int → Bool) (n : Nat), vs = [V.ref a] ∧ H a = some (SetO w a S n) ∧ ∀ ks : List Int, ks.Nodup → (∀ k : Int, S k = true ↔ k ∈ ks) → Q (.int (ks.length : Nat)) H
theorem cr_lenSetO : CallR X (.builtin "len") (rLenSetO X.w) := by
  intro pins s σ H vs us Q I r h
  obtain ⟨a, S, n, rfl, ha, q⟩ := h
  obtain ⟨o, es, ep, t, ho, hex, hdt, g, nd, hm2, hb, hf, hn, hr, hl2⟩ := setO_get I ha
  rw [Vals.ref1 r]
  refine call_len_set ho hex hdt hf (by unfold scanBound at hb; omega) ?_
  refine ⟨.int ((es.toList.map keyOf).length : Nat), H, I.tok _, ⟨s.toks + 1, ?_⟩, q _ nd hm2⟩
  rw [List.length_map, Array.length_toList]
def dLenSet (R : KC) : D → Prop
  | .tuple ds => ∃ ns : List Int, ds = ns.map PyData.int ∧ ns.length ≤ 1000 ∧ ∀ ks : List Int, ks.Nodup → (∀ k, k ∈ ks ↔ k ∈ ns) → R 0 (.int (ks.length : Nat))
  | _ => False
def oLenSet : O1 := fun r R => dLenSet R r.d
theorem so_lenSet {K : Fg} {w : World} : SndON K (fun vs H Q => rSetT K w vs H fun x H2 => rLenSetO w [x] H2 Q) (at1 oLenSet) := by
  intro ω T H vs rs R Q fr va h q
  match vs, rs, va, h with
  | [], [_], va, _ => exact va.elim
  | _ :: _ :: _, [_], va, _ => exact va.2.elim
  | [x], [r1], va, h =>
    have h' : dLenSet R r1.d := h
    generalize e1 : r1.d = d1 at h'
    cases d1 <;> first
      | exact h'.elim
      | skip
    obtain ⟨ns, rfl, hl, hR⟩ := h'
    obtain ⟨a, vs, rfl, ha, hp⟩ := va.1.tup e1
    refine ⟨a, ns, rfl, by rw [← RpAll.of_ints ns hp]; exact ha, hl, fun p c hp1 hc => ?_⟩
    have gr : Grow ω H (putO p .far ω) (upd H p (SetO w p (fun j => decide (j ∈ ns)) c)) := put_grow hp1
    have fr2 : Free (putO p .far ω) T := fun b t u e => by
      by_cases hb : b = p
      · subst hb; rw [putO_same] at e; cases e
      · rw [putO_ne hb] at e; exact fr b t u e
    refine ⟨p, _, c, rfl, upd_same, fun ks h1 h2 => ?_⟩
    exact (q.grow gr).int fr2 (hR ks h1 (fun k => by rw [← h2 k, decide_eq_true_eq]))
variable {e o : Expr} {fa fb : FE} {fA : FA} {p p2 pos pos2 apos cpos : Pos}
theorem se_lenSet (hc : X.calm = true) (hm : X.mg "len" = none) (hm2 : X.mg "set" = none) (ha : SA X [e] fA) (hg : Gl X "len" := by rfl) (hg2 : Gl X "set" := by rfl) (he : starEach [e] X.env = [(false, eval e X.env)] := by rfl)
    (he2 : starEach [.Call (.Name "set" p2) [e] [] pos2] X.env = [(false, eval (.Call (.Name "set" p2) [e] [] pos2) X.env)] := by rfl) :
    SE X (.Call (.Name "len" p) [.Call (.Name "set" p2) [e] [] pos2] [] pos) (fOpN (at1 oLenSet) fA) := by
  obtain ⟨t, q, s⟩ := ha.ex
  have hs : SndE X.K (fun σ H Q => t σ H fun vs H1 => rSetT X.K X.w vs H1 fun x H2 => rLenSetO X.w [x] H2 Q) (fOpN (at1 oLenSet) fA) := snd_opN so_lenSet s
  exact ⟨_, pe_callB cr_lenSetO hg hm (id := "len") (by decide +kernel) (pa_cons (pe_callTy (cr_setT hc) hg2 hm2 (by decide +kernel) q (by decide) (by decide) he rfl) pa_nil he2) (by decide) (by decide) he2 rfl, hs⟩
end
end Pv

/-! Pv24: a list display whose items are own lists, kept own: an own list of own lists. -/
namespace Pv
open PySem PySem.Spec PyProof.Rows L2
/-- the values in hand from T on become the items of the one in hand at T -/
def nestO (T : Nat) : Ow → Ow
  | .tmp t p => if T ≤ t then .tmp T ((t - T) :: p) else .tmp t p
  | o => o
abbrev nst (T : Nat) (ω : Om) : Om := ren (nestO T) ω
section
variable {K : Fg} {ω ω0 : Om} {T : Nat} {H H0 : Hp} {env : Env} {σ : Sg}
theorem nst_sh : Sh ω H (nst T ω) H := fun a o h e => ⟨h, by show nestO T (ω a) = _; rw [e]; rfl⟩
theorem Rel.nst (R : Rel K ω env σ H) (T : Nat) : Rel K (nst T ω) env σ H := by
  refine ⟨R.tab.ren rfl, R.len, fun i c e => ?_⟩
  obtain ⟨v, q, h⟩ := R.cell i c e
  exact ⟨v, q, OwR.go nst_sh (fun a u p z1 z2 => ⟨z1, by show nestO T (ω a) = _; rw [z2]; rfl⟩) _ _ _ _ h⟩
theorem nestO_lt {t : Nat} {p : List Nat} (h : t < T) : nestO T (.tmp t p) = .tmp t p := if_neg (Nat.not_le.mpr h)
theorem nestO_ge {j : Nat} {p : List Nat} : nestO T (.tmp (T + j) p) = .tmp T (j :: p) := by
  show (if T ≤ T + j then Ow.tmp T ((T + j - T) :: p) else .tmp (T + j) p) = _
  rw [if_pos (Nat.le_add_right _ _), Nat.add_sub_cancel_left]
theorem Step.nst (g : Step ω0 H0 ω H) (f : Free ω0 T) : Step ω0 H0 (nst T ω) H := fun a o h na => by
  rcases g a o h na with q | ⟨q, z⟩
  · exact .inl q
  · refine .inr ⟨q, ?_⟩
    show nestO T (ω a) = _
    rw [z]
    cases y : ω0 a with
    | tmp t p => exact nestO_lt (f a t p y)
    | _ => rfl
theorem OwR.shift {o : List Nat → Ow} {l : List Nat} : ∀ (k : Nat) (q : List Nat) (v : V) (d : D), OwR K ω H k (fun p => o (l ++ p)) q v d → OwR K ω H k o (l ++ q) v d
  | 0, _, _, _, h => h
  | k + 1, q, v, d, h => by
    rcases h with h | ⟨a, vs, ds, e1, e2, h1, e3, el, hc⟩ | ⟨a, kvs, es, e1, e2, h1, e3, hp⟩ | ⟨a, C, dx, gs, nm, fs, e1, e2, h1, e3, h4, e4, hn, hk, hc⟩ | ⟨a, vs, ds, e1, e2, h1, el, hc⟩
    · exact .inl h
    · refine .inr (.inl ⟨a, vs, ds, e1, e2, h1, e3, el, fun j v' d' z1 z2 => ?_⟩)
      rw [List.append_assoc]
      exact OwR.shift k (q ++ [j]) v' d' (hc j v' d' z1 z2)
    · exact .inr (.inr (.inl ⟨a, kvs, es, e1, e2, h1, e3, hp⟩))
    · refine .inr (.inr (.inr (.inl ⟨a, C, dx, gs, nm, fs, e1, e2, h1, e3, h4, e4, hn, hk, fun j v' d' z1 z2 => ?_⟩)))
      rw [List.append_assoc]
      exact OwR.shift k (q ++ [j]) v' d' (hc j v' d' z1 z2)
    · refine .inr (.inr (.inr (.inr ⟨a, vs, ds, e1, e2, h1, el, fun j v' d' z1 z2 => ?_⟩)))
      rw [List.append_assoc]
      exact OwR.shift k (q ++ [j]) v' d' (hc j v' d' z1 z2)
theorem OwR.nst {k j : Nat} {v : V} {d : D} (h : OwR K ω H k (Ow.tmp (T + j)) [] v d) : OwR K (nst T ω) H k (Ow.tmp T) [j] v d := by
  have h2 := OwR.go (o' := fun p => Ow.tmp T ([j] ++ p)) nst_sh (fun a u p z1 z2 => ⟨z1, by show nestO T (ω a) = _; rw [z2]; exact nestO_ge⟩) _ _ _ _ h
  exact OwR.shift k [] v d h2
def own1 : List Res → Prop
  | [] => True
  | .v 1 _ :: rs => own1 rs
  | _ => False
theorem ResAll.nst : ∀ {vs : List V} {rs : List Res} (n : Nat), own1 rs → ResAll K ω H σ env (T + n) vs rs → vs.length = (dsOf rs).length ∧ ∀ j v' d', vs[j]? = some v' → (dsOf rs)[j]? = some d' → OwR K (nst T ω) H 1 (Ow.tmp T) [n + j] v' d'
  | [], [], n, _, _ => ⟨rfl, fun j v' d' z _ => by cases z⟩
  | [], _ :: _, n, _, h => h.elim
  | _ :: _, [], n, _, h => h.elim
  | v :: vs, .v 1 d :: rs, n, ho, h => by
    obtain ⟨h1, h2⟩ := h
    have h1 : OwR K ω H 1 (Ow.tmp (T + n)) [] v d := h1
    obtain ⟨e, ih⟩ := ResAll.nst (n + 1) (show own1 rs from ho) (show ResAll K ω H σ env (T + (n + 1)) vs rs from h2)
    refine ⟨by show _ + 1 = (d :: dsOf rs).length; rw [List.length_cons, e], fun j v' d' z1 z2 => ?_⟩
    cases j with
    | zero =>
      cases z1
      have z2 : some d = some d' := z2
      cases z2
      exact OwR.nst h1
    | succ j =>
      have := ih j v' d' z1 z2
      rwa [show n + 1 + j = n + (j + 1) by omega] at this
  | _ :: _, .v 0 _ :: _, _, ho, _ => ho.elim
  | _ :: _, .v (_ + 2) _ :: _, _, ho, _ => ho.elim
  | _ :: _, .b _ _ _ :: _, _, ho, _ => ho.elim
/-- [a, b, ..], each an own list: kept own -/
def fLst2 (fa : FA) : FE := fun env R => fa env fun rs e => (own1 rs ∧ rs.length ≤ sizeLine) ∧ R (.v 2 (.list (dsOf rs))) e
end
section
variable {X : Cx} {es : List Expr} {fa : FA} {pos : Pos}
end
/-! ### a method of an item of a slot's own list of own lists -/
def onOwn2 (c : Option Cell) (j : Nat) (P : List D → List D → Prop) : Prop := match c with
  | some ⟨2, .list ds⟩ => ∃ es, ds[j]? = some (.list es) ∧ P ds es
  | _ => False
section
variable {K : Fg} {ω : Om} {env : Env} {σ : Sg} {H : Hp} {i j : Nat}
theorem Rel.own2 (rel : Rel K ω env σ H) {ds es : List D} (h : getC env i = some ⟨2, .list ds⟩) (hj : ds[j]? = some (.list es)) :
    ∃ a vs b ws, σ[i]? = some (some (.ref a)) ∧ H a = some (.lst vs) ∧ ω a = .own i [] ∧ vs[j]? = some (.ref b) ∧ H b = some (.lst ws) ∧ ω b = .own i [j] ∧ RpAll K ω H ws es ∧ vs.length = ds.length ∧
      ∀ (n : Nat) (v' : V) (d' : D), vs[n]? = some v' → ds[n]? = some d' → OwR K ω H 1 (Ow.own i) [n] v' d' := by
  obtain ⟨v, hv, ho⟩ := rel.cell i _ (getC_some h)
  have ho' : OwR K ω H 2 (Ow.own i) [] v (.list ds) := ho
  rcases ho' with ⟨z, _⟩ | ⟨a, vs, ds', e1, e2, h1, h2, el, hc⟩ | ⟨_, _, _, _, e2, _⟩ | ⟨_, _, _, _, _, _, _, e2, _⟩ | ⟨_, _, _, _, e2, _⟩
  · cases z
  rotate_left
  · cases e2
  · cases e2
  · cases e2
  · cases e2
    subst e1
    have hl : j < vs.length := by rw [el]; exact (List.getElem?_eq_some_iff.mp hj).1
    have hvj := List.getElem?_eq_getElem hl
    have hw : OwR K ω H 1 (Ow.own i) [j] vs[j] (.list es) := hc j _ _ hvj hj
    rcases hw with ⟨z, _⟩ | ⟨b, ws, es', f1, f2, g1, g2, gl, gc2⟩ | ⟨_, _, _, _, f2, _⟩ | ⟨_, _, _, _, _, _, _, f2, _⟩ | ⟨_, _, _, _, f2, _⟩
    · cases z
    · cases f2
      rw [f1] at hvj
      exact ⟨a, vs, b, ws, hv, h1, h2, hvj, g1, g2, RpAll.of_get gl gc2, el, hc⟩
    · cases f2
    · cases f2
    · cases f2
/-- x[j].append(text) -/
def fApp2 (i j : Nat) (d : D) : FE := fun env R => onOwn2 (getC env i) j fun ds es => es.length < sizeLine ∧ R (.v 0 .none) (env.set i (some ⟨2, .list (ds.set j (.list (es ++ [d])))⟩))
def fRev2 (i j : Nat) : FE := fun env R => onOwn2 (getC env i) j fun ds es => R (.v 0 .none) (env.set i (some ⟨2, .list (ds.set j (.list es.reverse))⟩))
end
section
variable {X : Cx} {x s : Str} {px pj ps pk apos cpos : Pos} {k k2 : Nat}
end
end Pv

/-! Pv25: zip(a, b, strict=True) of two tuples; first, *rest = a tuple. -/
namespace Pz
open PySem
open PySem.Sem (wp)
open RZ (nextOf_tuple_item nextOf_tuple_end zipTH1 zipTH2 zipTH3 zipTH4)
open PyProof.Rows (IsTup IsTupIter slot_tuple_iter iter_tuple draw_tuple)
abbrev ZipS (h : Heap) (z TI TO : Addr) (f0 : Value) : Prop := h.get? z = some { cls := .type "zip", dict := none, data := .fields #[f0, .bool false, .bool true, .ref TI, .ref TO], slots := #[] }
section
variable {prog : Program} {w : World} {A : Around} {E : Value → Shared → Prop} {s : Shared}
end
section
variable {prog : Program} {w : World} {A : Around} {E : Value → Shared → Prop} {s : Shared}
/-! a type of the language called with keywords -/
abbrev kwS : List (Str × Value) := [("strict", .bool true)]
end
abbrev zipSH5 (h : Heap) (l1 l2 : Addr) : Heap := (zipTH4 h l1 l2).push { cls := .type "zip", data := .fields #[.none, .bool false, .bool true, .ref (zipTH2 h l1 l2).objs.size, .ref (zipTH3 h l1 l2).objs.size] }
section
variable {prog : Program} {w : World} {A : Around} {E : Value → Shared → Prop} {s : Shared}
/-! first, *rest = a tuple -/
end
end Pz

/-! Pv26: a loop over zip(a, b, strict=True) of two tuples of one length; first, *rest = a tuple. -/
namespace Pv
open PySem PySem.Spec PyProof.Rows L2
open Pz
/-- the two tuples as they stand at each turn; both end at once -/
def ItzS (K : Fg) (a b : Addr) : It :=
  ⟨fun i H => ∃ (xs ys : List V) (x y : V), SqT K H a xs ∧ SqT K H b ys ∧ xs[i]? = some x ∧ ys[i]? = some y, fun i H v H' => ∃ T x y, v = .ref T ∧ H T = none ∧ H' = upd H T (.tup [x, y]) ∧ (∀ xs, SqT K H a xs → xs[i]? = some x) ∧ ∀ ys, SqT K H b ys → ys[i]? = some y, fun i H => ∃ xs ys : List V, SqT K H a xs ∧ SqT K H b ys ∧ xs.length ≤ i ∧ ys.length ≤ i⟩
theorem five {c z TI TO i1 i2 : Addr} (h : c ∈ [z, TI, TO, i1, i2]) : c = z ∨ c = TI ∨ c = TO ∨ c = i1 ∨ c = i2 := by simpa using h
section
variable {M : Model} {A : Around} {E : Value → Shared → Prop} {s : Shared} {env : PySem.Env}
end
def iZipS (K : Fg) (ta : TA) : TI := fun σ H R => ta σ H fun vs H1 => ∃ a b xs ys, vs = [.ref a, .ref b] ∧ SqT K H1 a xs ∧ SqT K H1 b ys ∧ R (ItzS K a b) H1
/-! over data -/
def zipE : List D → List D → Option (List D)
  | [], [] => some []
  | d :: ds, e :: es => match zipE ds es with
    | some r => some (.tuple [d, e] :: r)
    | none => none
  | _, _ => none
def overZipS (P : List D → Prop) : D → D → Prop
  | .tuple ds, .tuple es => match zipE ds es with
    | some xs => P xs
    | none => False
  | _, _ => False
def fZipS (fa : FA) : FI := fun env R => fa env fun rs e => noB rs ∧ match rs with
  | [r, r'] => ovr2 (overZipS fun ds => R (.v 0 .none) ds e) r.d r'.d
  | _ => False
section
variable {X : Cx} {K : Fg} {σ : Sg} {ω : Om} {H : Hp}
end
end Pv

/-! Pv27: first, *rest = a tuple, at the level of data. -/
namespace Pv
open PySem PySem.Spec PyProof.Rows L2
open Pz
def gStar (K : Fg) (i j : Nat) : TG := fun v σ H Q => ∃ a x xs, v = .ref a ∧ SqT K H a (x :: xs) ∧ ∀ p, H p = none → Q ((σ.set i (some x)).set j (some (.ref p))) (upd H p (.lst xs))
def starD (P : D → List D → Prop) : D → Prop
  | .tuple (d :: ds) => P d ds
  | _ => False
def fStar (i j : Nat) (fa : FE) : FS := fun env k => fa env fun r e => noB [r] ∧ ovr (starD fun d ds => k.nx ((e.set i (some (sh d))).set j (some (sh (.list ds))))) r.d
section
variable {X : Cx} {io : Nat → Bool} {e : Expr} {fa : FE} {x y : Str} {px py ps tp pos : Pos} {k : Nat}
end
end Pv

/-! Pv28: an own list of own lists grows by a display, its last item is read and written. -/
namespace Pv
open PySem PySem.Spec PyProof.Rows L2
def isOwn2 : Option Cell → Prop
  | some ⟨2, .list _⟩ => True
  | _ => False
def grow2 (c : Option Cell) (P : List D → Prop) : Prop := match c with
  | some ⟨2, .list ds⟩ => P ds
  | _ => False
/-- by the last item -/
def onLast (c : Option Cell) (P : List D → List D → Prop) : Prop := match c with
  | some ⟨2, .list ds⟩ => ∃ ds0 es, ds = ds0 ++ [.list es] ∧ P ds0 es
  | _ => False
def adoO (i n T : Nat) : Ow → Ow
  | .tmp t p => if t = T then .own i (n :: p) else .tmp t p
  | o => o
section
variable {K : Fg} {ω : Om} {env : Env} {σ : Sg} {H : Hp} {i j : Nat}
/-- the value in hand at T becomes the last item -/
theorem Rel.grow2 {T : Nat} (rel : Rel K ω env σ H) {ds : List D} {d : D} {a : Addr} {vs : List V} {v : V} (hσ : σ[i]? = some (some (.ref a))) (hi : i < env.length) (ha : H a = some (.lst vs)) (ho : ω a = .own i []) (el : vs.length = ds.length)
    (hc : ∀ (n : Nat) (v' : V) (d' : D), vs[n]? = some v' → ds[n]? = some d' → OwR K ω H 1 (Ow.own i) [n] v' d') (h : OwR K ω H 1 (Ow.tmp T) [] v d) :
    Rel K (ren (adoO i ds.length T) ω) (env.set i (some ⟨2, .list (ds ++ [d])⟩)) σ (upd H a (.lst (vs ++ [v]))) := by
  have hs : Sh ω H (ren (adoO i ds.length T) ω) (upd H a (.lst (vs ++ [v]))) := fun x o hx e => ⟨by
    have ne : x ≠ a := fun z => by subst z; rw [ho] at e; cases e
    rw [upd_ne ne]; exact hx, by show adoO i ds.length T (ω x) = _; rw [e]; rfl⟩
  have own : ∀ x k p, ω x = .own k p → ren (adoO i ds.length T) ω x = .own k p := fun x k p e => by show adoO i ds.length T (ω x) = _; rw [e]; rfl
  refine ⟨rel.tab.go fun x o hx e => ⟨by rw [upd_ne (fun z => by subst z; rw [ho] at e; cases e)]; exact hx, by show adoO i ds.length T (ω x) = _; rw [e]; rfl⟩, by rw [List.length_set]; exact rel.len, fun k c e => ?_⟩
  by_cases hk : i = k
  · subst hk
    rw [List.getElem?_set_self hi] at e
    cases e
    refine ⟨_, hσ, .inr (.inl ⟨a, vs ++ [v], ds ++ [d], rfl, rfl, upd_same, own a i [] ho, by rw [List.length_append, List.length_append, el]; rfl, fun n v' d' z1 z2 => ?_⟩)⟩
    by_cases hn : n < ds.length
    · rw [List.getElem?_append_left (by omega)] at z1
      rw [List.getElem?_append_left hn] at z2
      rcases hc n v' d' z1 z2 with ⟨q, h0⟩ | ⟨x, xs, es, f1, f2, g1, g2, gl, gc2⟩ | ⟨x, kvs, es, f1, f2, g1, g2, gp⟩ | ⟨x, C, dx, gs, nm, fs, f1, f2, g1, g2, g3, g4, hnm, hk2, gc2⟩ | ⟨x, xs, es, f1, f2, g1, gl, gc2⟩
      · exact .inl ⟨q, Rp.sh hs _ _ h0⟩
      · have ne : x ≠ a := fun z => by subst z; rw [ho] at g2; cases g2
        exact .inr (.inl ⟨x, xs, es, f1, f2, by rw [upd_ne ne]; exact g1, own x i _ g2, gl, fun m v2 d2 y1 y2 => Rp.sh hs _ _ (gc2 m v2 d2 y1 y2)⟩)
      · have ne : x ≠ a := fun z => by subst z; rw [ho] at g2; cases g2
        exact .inr (.inr (.inl ⟨x, kvs, es, f1, f2, by rw [upd_ne ne]; exact g1, own x i _ g2, gp.sh hs⟩))
      · have ne : x ≠ a := fun z => by subst z; rw [ho] at g2; cases g2
        have ne2 : dx ≠ a := fun z => by subst z; rw [ho] at g4; cases g4
        exact .inr (.inr (.inr (.inl ⟨x, C, dx, gs, nm, fs, f1, f2, by rw [upd_ne ne]; exact g1, own x i _ g2, by rw [upd_ne ne2]; exact g3, own dx i _ g4, hnm, hk2, fun m v2 d2 y1 y2 => Rp.sh hs _ _ (gc2 m v2 d2 y1 y2)⟩)))
      · exact .inr (.inr (.inr (.inr ⟨x, xs, es, f1, f2, g1.sh hs, gl, fun m v2 d2 y1 y2 => Rp.sh hs _ _ (gc2 m v2 d2 y1 y2)⟩)))
    · have hl := (List.getElem?_eq_some_iff.mp z2).1
      rw [List.length_append, List.length_singleton] at hl
      have en : n = ds.length := by omega
      subst en
      rw [List.getElem?_append_right (by omega), show ds.length - vs.length = 0 by omega] at z1
      rw [List.getElem?_append_right (Nat.le_refl _), Nat.sub_self] at z2
      cases z1; cases z2
      have h2 := OwR.go (o' := fun p => Ow.own i ([ds.length] ++ p)) hs (fun x u p z1 z2 => ⟨by
        have ne : x ≠ a := fun z => by subst z; rw [ho] at z2; cases z2
        rw [upd_ne ne]; exact z1, by
        show adoO i ds.length T (ω x) = _
        rw [z2]
        show (if T = T then Ow.own i (ds.length :: p) else _) = _
        rw [if_pos rfl]; rfl⟩) _ _ _ _ h
      exact OwR.shift 1 [] v d h2
  · rw [List.getElem?_set_ne hk] at e
    obtain ⟨v', hv', ho'⟩ := rel.cell k c e
    refine ⟨v', hv', OwR.go hs (fun x u p z1 z2 => ⟨?_, own x k p z2⟩) _ _ _ _ ho'⟩
    have ne : x ≠ a := fun z => by subst z; rw [ho] at z2; cases z2; exact hk rfl
    rw [upd_ne ne]; exact z1
/-- x.append(a display) -/
def fAppL (i : Nat) (fa : FA) : FE := fun env R => isOwn2 (getC env i) ∧ fa env fun rs e => match rs with
  | [.v 1 d] => grow2 (getC e i) fun ds => ds.length < sizeLine ∧ R (.v 0 .none) (e.set i (some ⟨2, .list (ds ++ [d])⟩))
  | _ => False
/-- x[-1][j] -/
def fIx2 (i : Nat) (fj : FE) (j : Nat) : FE := fun env R => isOwn2 (getC env i) ∧ fj env fun rj e => rj.d = .int (-1) ∧ onLast (getC e i) fun _ es => ∃ d, es[j]? = some d ∧ R (.v 0 d) e
/-- x[-1][j] = e -/
def fSetIx2 (i : Nat) (fa fj : FE) (j : Nat) : FS := fun env k => fa env fun r e1 => noB [r] ∧ isOwn2 (getC e1 i) ∧ fj e1 fun rj e2 => rj.d = .int (-1) ∧ onLast (getC e2 i) fun ds0 es => j < es.length ∧ k.nx (e2.set i (some ⟨2, .list (ds0 ++ [.list (es.set j r.d)])⟩))
end
section
variable {X : Cx} {io : Nat → Bool} {e n : Expr} {es : List Expr} {fa : FA} {fe fj : FE} {x : Str} {p px pj ps ps1 pos pos' apos cpos : Pos} {k : Nat}
end
end Pv

/-! Pv49: xs.count(y) of a list of flat things. -/
namespace Pv
open PySem PySem.Spec PyProof PyProof.Rows L2
def rCount (K : PySem.W.Frag) : V → List V → Hp → VK → Prop := fun x xs H Q => ∃ (a : Addr) (ys : List V) (y : V), x = V.ref a ∧ xs = [y] ∧ SqL K H a ys ∧ flatV y = true ∧ ys.all flatV = true ∧ Q (.int (ys.countP (eqV · y) : Nat)) H
theorem countP_eqU {y : V} : ∀ {ys : List V} {us : List Value}, Vals ys us → ys.all flatV = true → us.countP (eqU y) = ys.countP (eqV · y)
  | _, _, .nil, _ => rfl
  | _, _, .cons h t, f => by
    rw [List.all_cons, Bool.and_eq_true] at f
    rw [List.countP_cons, List.countP_cons, countP_eqU t f.2, eqU_of h f.1]
section
variable {X : Cx}
end
def dCount (f : Prop) (d : D) (R : KC) : D → Prop
  | .list ds => (f ∧ flatD d = true ∧ ds.all flatD = true) ∧ R 0 (.int (ds.countP (PyData.eqv · d) : Nat))
  | _ => False
def oCount : O2 := fun r1 r2 R => dCount (flat r1) r2.d R r1.d
def fCnt (fa fb : FE) : FE := fun env R => fa env fun r1 e1 => (isL r1.d ∧ flat r1) ∧ fb e1 fun r2 e2 => okb e2 r1 ∧ ap2 oCount r1 r2 fun k d => R (.v k d) e2
/-! .. of a tuple -/
def isTu : D → Prop
  | .tuple _ => True
  | _ => False
def dCountT (d : D) (R : KC) : D → Prop
  | .tuple ds => (flatD d = true ∧ ds.all flatD = true) ∧ R 0 (.int (ds.countP (PyData.eqv · d) : Nat))
  | _ => False
def oCountT : O2 := fun r1 r2 R => dCountT r2.d R r1.d
def fCntT (fa fb : FE) : FE := fun env R => fa env fun r1 e1 => isTu r1.d ∧ fb e1 fun r2 e2 => okb e2 r1 ∧ ap2 oCountT r1 r2 fun k d => R (.v k d) e2
section
variable {K : Fg}
theorem count_rp {ω : Om} {H : Hp} {y : V} {d : D} (ry : Rp K ω H y d) (f2 : flatD d = true) : ∀ {vs : List V} {ds : List D}, RpAll K ω H vs ds → ds.all flatD = true → vs.countP (eqV · y) = ds.countP (PyData.eqv · d)
  | _, _, .nil, _ => rfl
  | _, _, .cons h t, z => by
    rw [List.all_cons, Bool.and_eq_true] at z
    rw [List.countP_cons, List.countP_cons, count_rp ry f2 t z.2, Rp.eqV h ry z.1 f2]
end
section
variable {X : Cx} {o e : Expr} {fa fb : FE} {apos cpos : Pos}
end
/-! .. of a tuple, by its type's method -/
/-- a tuple whose methods are its type's -/
def TuF (K : Fg) (x : V) (H : Hp) : Prop := ∃ a xs, x = .ref a ∧ ((∃ o : Obj, H a = some (.frz o (.tup xs)) ∧ o.dict = none) ∨ KT K a xs)
theorem Rp.tuF {K : Fg} {ω : Om} {H : Hp} {v : V} {ds : List D} (h : Rp K ω H v (.tuple ds)) : TuF K v H := by
  cases h with
  | tup hs _ => exact ⟨_, _, rfl, hs.elim (fun ⟨o, h, d, _⟩ => .inl ⟨o, h, d⟩) .inr⟩
def rCountT (K : Fg) : V → List V → Hp → VK → Prop := fun x xs H Q => ∃ (a : Addr) (ys : List V) (y : V), x = .ref a ∧ xs = [y] ∧ SqT K H a ys ∧ flatV y = true ∧ ys.all flatV = true ∧ Q (.int (ys.countP (eqV · y) : Nat)) H
section
variable {X : Cx}
theorem mt_countT : MtR X "tuple.count" (rCountT X.K) := by
  intro pins s σ H x xs v us Q I rx rxs ⟨a, ys, y, ex, exs, hs, fy, fys, q⟩
  subst ex exs
  cases rx
  cases rxs with
  | cons ry rt =>
    rename_i uy ut
    cases rt
    obtain ⟨its, rv, ⟨⟨cls, dd, data, sl⟩, ho, hc, n, hd⟩, hlen⟩ := I.tuple hs
    obtain rfl : cls = .type "tuple" := hc
    obtain rfl : data = .seq its.toArray n := hd
    have e : its.toArray.toList.countP (eqU y) = ys.countP (eqV · y) := countP_eqU rv fys
    refine call_meets PySem.F.slot_tuple_count ⟨_, ho, rfl⟩ PySem.F.entry_tuple_count (PySem.F.args_tuple_count_2 _ _) (SeqAt.tuple_countAt a its.toArray n dd sl uy (eqU y)) ⟨ho, fun u' hu' => mem_eqAt ry fy rv fys u' (by simpa using hu'), ?_⟩
    rw [e]
    exact ⟨.int (ys.countP (eqV · y) : Nat), H, I.tok _, ⟨_, rfl⟩, q⟩
def tCountT (K : Fg) (to : TE) (t : TA) : TE := fun σ H Q => to σ H fun x H1 => TuF K x H1 ∧ t σ H1 fun xs H2 => rCountT K x xs H2 Q
theorem pe_countT {o e : Expr} {to : TE} {t : TA} {apos cpos : Pos} (ho : PE X o to) (ha : PA X [e] t) (hbase : attributeBase o "count" X.env (eval o X.env) = eval o X.env := by rfl)
    (hfew : ((backTo cpos (starEach [e] X.env)).all (fun x => !x.1) && (backToKw cpos (keywordEach [] X.env)).all (fun x => x.1.isSome) && decide ([e].length + ([] : List Keyword).length + (if ([] : List Keyword).isEmpty then 0 else 1) < 30)) = true := by rfl)
    (hline : (apos.endLine == cpos.line) = true := by rfl) (hs : starEach [e] X.env = (false, eval e X.env) :: starEach [] X.env := by rfl) (hp : (backTo cpos (starEach [] X.env)).any (·.1) = false := by rfl) :
    PE X (.Call (.Attribute o "count" apos) [e] [] cpos) (tCountT X.K to t) := by
  refine ⟨fun pins s σ H Q I h => wpAny_Call_method_late hbase hfew hline rfl (thn (ho.run pins s σ H _ I h) fun v s1 ⟨x, H1, I1, r1, ⟨a, xs, ex, tu⟩, q1⟩ => ?_)⟩
  subst ex
  cases r1
  have hk : ∃ ob, s1.heap.get? a = some ob ∧ ob.cls = .type "tuple" ∧ ob.dict = none := by
    rcases tu with ⟨ob, h1, h2⟩ | ⟨ob, its, n, h1, h2, h3, _⟩
    · obtain ⟨g1, _, _, _, ob', g2, g3, _⟩ := (show ObjOk X.prog X.w H1 s1.heap a (.frz ob (.tup xs)) from I1.hok a _ h1)
      rw [g1] at g2
      cases g2
      exact ⟨_, g1, g3, h2⟩
    · exact ⟨ob, I1.kIn a ob h1, h2, h3⟩
  obtain ⟨ob, g1, g2, g3⟩ := hk
  refine ⟨"tuple", _, PySem.F.plainAttrs_tuple, PySem.F.slot_tuple_count, PySem.F.type_tuple_count, ⟨ob, g1, g2⟩, fun b eb => ?_, ?_⟩
  · cases eb; exact ⟨ob, g1, g3⟩
  · have hA := ha.run cpos pins s1 σ H1 _ I1 q1
    rw [hs] at hA ⊢
    exact Calls.callWith_builtin ((Bool.false_or _).trans hp) (Calls.evalArgs_plain (thn hA fun us s2 ⟨vs, H2, I2, r2, q2⟩ => mt_countT pins s2 σ H2 (.ref a) vs _ us Q I2 rfl r2 q2))
end
section
variable {K : Fg}
theorem isTu_ex {d : D} (h : isTu d) : ∃ ds, d = .tuple ds := by cases d <;> first | exact h.elim | exact ⟨_, rfl⟩
theorem snd_cntT {ta tb : TE} {fa fb : FE} (ha : SndE K ta fa) (hb : SndE K tb fb) : SndE K (tCountT K ta (tCons tb tNil)) (fCntT fa fb) := by
  intro ω T env σ H R Q rel fre hR q
  refine ha ω T env σ H _ _ rel fre hR fun x H1 ω1 e1 r1 rel1 st1 fr1 rr1 h1 => ?_
  obtain ⟨hl, h1⟩ := h1
  obtain ⟨ds0, e0⟩ := isTu_ex hl
  refine ⟨(Vw.rpT (rr1.gc (T := T) rel1 (Nat.le_refl _)) e0).tuF, ?_⟩
  refine hb ω1 (T + 1) e1 σ H1 _ _ rel1 fr1 h1 fun y H2 ω2 e2 r2 rel2 st2 fr2 rr2 h2 => ?_
  obtain ⟨ok, h2⟩ := h2
  have rr1' : ResR K ω2 H2 σ e2 T x r1 := by
    cases r1 with
    | v k d => exact ResR.step (T' := T) rr1 st2
    | b i k d => exact ⟨ok, rr1.2⟩
  have v1 := rr1'.gc (T := T) rel2 (Nat.le_refl _)
  have v2 := rr2.gc (T := T) rel2 (Nat.le_succ _)
  have h3 : dCountT r2.d (fun k d => R (.v k d) e2) r1.d := ap2_cl h2
  rw [e0] at h3
  obtain ⟨⟨f2, f3⟩, hR'⟩ := h3
  obtain ⟨a, vs, ea, hs, hp⟩ := v1.tup e0
  subst ea
  have ry := Vw.flat v2 f2
  refine ⟨a, vs, y, rfl, rfl, hs, Rp.flatV ry f2, allFlat hp f3, ?_⟩
  rw [count_rp ry f2 hp f3]
  exact (out_of (R := R) (rel2.gc T) ((st1.trans st2).gc fre) q).int gc_free hR'
theorem se_countT {X : Cx} {o e : Expr} {fa fb : FE} {apos cpos : Pos} (ha : SE X o fa) (hb : SE X e fb) (hbase : attributeBase o "count" X.env (eval o X.env) = eval o X.env := by rfl)
    (hfew : ((backTo cpos (starEach [e] X.env)).all (fun x => !x.1) && (backToKw cpos (keywordEach [] X.env)).all (fun x => x.1.isSome) && decide ([e].length + ([] : List Keyword).length + (if ([] : List Keyword).isEmpty then 0 else 1) < 30)) = true := by rfl)
    (hline : (apos.endLine == cpos.line) = true := by rfl) (hs : starEach [e] X.env = (false, eval e X.env) :: starEach [] X.env := by rfl) (hp : (backTo cpos (starEach [] X.env)).any (·.1) = false := by rfl) : SE X (.Call (.Attribute o "count" apos) [e] [] cpos) (fCntT fa fb) := by
  obtain ⟨t, q, s⟩ := ha.ex
  obtain ⟨u, q', s'⟩ := hb.ex
  exact ⟨_, pe_countT q (pa_cons q' pa_nil hs) hbase hfew hline hs hp, snd_cntT s s'⟩
end
end Pv

/-! Vh: what the contracts of the laws' defs share. -/
namespace Lw
open PySem PySem.Spec PyProof.Rows L2 Pv
/-- the box: a number to be taken apart, a seed, a count -/
def bx (a b c : Int) : Cell := ow (.list [.int a, .int b, .int c])
def Bx (n : Nat) (x : Cell) : Prop := ∃ a b c : Int, x = bx a b c ∧ 0 ≤ a ∧ 0 ≤ b ∧ b < 2 ^ 62 ∧ 0 ≤ c ∧ c ≤ n
theorem Bx.mono {m n : Nat} {x : Cell} (h : Bx m x) (e : m ≤ n) : Bx n x := by
  obtain ⟨a, b, c, h1, h2, h3, h4, h5, h6⟩ := h
  exact ⟨a, b, c, h1, h2, h3, h4, h5, by omega⟩
/-- a box is a slot's own list -/
theorem Bx.ex {n : Nat} {x : Cell} (h : Bx n x) : ∃ d, x = ⟨1, d⟩ := by
  obtain ⟨a, b, c, h1, _⟩ := h
  exact ⟨_, h1⟩
theorem cmr {i j : Int} (h : -(2 ^ 64) < j) (h2 : j < 2 ^ 64) : CMul i j := .inr ⟨h, h2⟩
theorem cml {i j : Int} (h : -(2 ^ 64) < i) (h2 : i < 2 ^ 64) : CMul i j := .inl ⟨h, h2⟩
theorem cdv {i j : Int} (h : 0 < j) (h2 : j < 2 ^ 62) : CDivW i j := wide_div (b := 62) h (by omega) (by decide) (by decide)
/-! ### data of so many levels, no dict in it -/
def leafD (d : D) : Bool := flatD d && d.canLay0
def dep : Nat → D → Bool
  | 0, d => leafD d
  | n + 1, .list ds => ds.all (dep n)
  | n + 1, .tuple ds => ds.all (dep n)
  | _ + 1, d => leafD d
theorem depAll_le : ∀ (n : Nat) (ds : List D), (∀ d ∈ ds, d.canLay0 = true ∧ d.depth ≤ n) → PyData.canLayAll0 ds = true ∧ PyData.depthAll ds ≤ n
  | _, [], _ => ⟨rfl, Nat.zero_le _⟩
  | n, d :: ds, h => by
    obtain ⟨h1, h2⟩ := h d List.mem_cons_self
    obtain ⟨h3, h4⟩ := depAll_le n ds fun e he => h e (List.mem_cons_of_mem _ he)
    refine ⟨by simp [PyData.canLayAll0, h1, h3], ?_⟩
    show max d.depth (PyData.depthAll ds) ≤ n
    omega
theorem dep_ok : ∀ (n : Nat) (d : D), dep n d = true → d.canLay0 = true ∧ d.depth ≤ n
  | 0, d, h => ⟨(Bool.and_eq_true_iff.mp h).2, by cases d <;> first | exact Nat.le_refl _ | cases h⟩
  | n + 1, .list ds, h => by
    obtain ⟨h1, h2⟩ := depAll_le n ds fun d hd => dep_ok n d (List.all_eq_true.mp h d hd)
    exact ⟨by simpa [PyData.canLay0] using h1, by show PyData.depthAll ds + 1 ≤ n + 1; omega⟩
  | n + 1, .tuple ds, h => by
    obtain ⟨h1, h2⟩ := depAll_le n ds fun d hd => dep_ok n d (List.all_eq_true.mp h d hd)
    exact ⟨by simpa [PyData.canLay0] using h1, by show PyData.depthAll ds + 1 ≤ n + 1; omega⟩
  | n + 1, .none, _ => ⟨rfl, Nat.zero_le _⟩
  | n + 1, .bool _, _ => ⟨rfl, Nat.zero_le _⟩
  | n + 1, .int _, _ => ⟨rfl, Nat.zero_le _⟩
  | n + 1, .str x, h => ⟨(Bool.and_eq_true_iff.mp (show (flatD (.str x) && (PyData.str x).canLay0) = true from h)).2, Nat.zero_le _⟩
  | n + 1, .dict _, h => by cases h
theorem dep_shp {n : Nat} {d : D} (h : dep n d = true) (hn : n ≤ 64) : shp d := by
  obtain ⟨h1, h2⟩ := dep_ok n d h
  show (d.canLay0 && decide (d.depth ≤ 64)) = true
  rw [h1, decide_eq_true (Nat.le_trans h2 hn)]
  rfl
theorem eqvAll_self : ∀ (ds : List D), (∀ d ∈ ds, PyData.eqv d d = true) → PyData.eqvAll ds ds = true
  | [], _ => rfl
  | d :: ds, h => by
    show (PyData.eqv d d && PyData.eqvAll ds ds) = true
    rw [h d List.mem_cons_self, eqvAll_self ds fun e he => h e (List.mem_cons_of_mem _ he)]
    rfl
theorem eqv_self : ∀ (n : Nat) (d : D), dep n d = true → PyData.eqv d d = true
  | 0, d, h => by cases d <;> first | (cases h; done) | simp [PyData.eqv]
  | n + 1, .list ds, h => eqvAll_self ds fun d hd => eqv_self n d (List.all_eq_true.mp h d hd)
  | n + 1, .tuple ds, h => eqvAll_self ds fun d hd => eqv_self n d (List.all_eq_true.mp h d hd)
  | n + 1, .none, _ => rfl
  | n + 1, .bool _, _ => by simp [PyData.eqv]
  | n + 1, .int _, _ => by simp [PyData.eqv]
  | n + 1, .str _, _ => by simp [PyData.eqv]
  | n + 1, .dict _, h => by cases h
/-- no bools, no dicts: == is being the same -/
def nob : Nat → D → Bool
  | 0, d => match d with | .none => true | .int _ => true | .str x => (PyData.str x).canLay0 | _ => false
  | n + 1, .list ds => ds.all (nob n)
  | n + 1, .tuple ds => ds.all (nob n)
  | _ + 1, d => match d with | .none => true | .int _ => true | .str x => (PyData.str x).canLay0 | _ => false
theorem nob_dep : ∀ (n : Nat) (d : D), nob n d = true → dep n d = true
  | 0, d, h => by cases d <;> first | (cases h; done) | rfl | exact h
  | n + 1, .list ds, h => List.all_eq_true.mpr fun d hd => nob_dep n d (List.all_eq_true.mp h d hd)
  | n + 1, .tuple ds, h => List.all_eq_true.mpr fun d hd => nob_dep n d (List.all_eq_true.mp h d hd)
  | n + 1, .none, _ => rfl
  | n + 1, .bool _, h => by cases h
  | n + 1, .int _, _ => rfl
  | n + 1, .str _, h => h
  | n + 1, .dict _, h => by cases h
theorem eqvAll_eq : ∀ (ds es : List D), (∀ d ∈ ds, ∀ e ∈ es, PyData.eqv d e = true → d = e) → PyData.eqvAll ds es = true → ds = es
  | [], [], _, _ => rfl
  | [], _ :: _, _, h => by cases h
  | _ :: _, [], _, h => by cases h
  | d :: ds, e :: es, hh, h => by
    have h' : (PyData.eqv d e && PyData.eqvAll ds es) = true := h
    rw [Bool.and_eq_true] at h'
    rw [hh d List.mem_cons_self e List.mem_cons_self h'.1, eqvAll_eq ds es (fun a ha b hb => hh a (List.mem_cons_of_mem _ ha) b (List.mem_cons_of_mem _ hb)) h'.2]
theorem eqv_eq : ∀ (n : Nat) (d e : D), nob n d = true → nob n e = true → PyData.eqv d e = true → d = e
  | 0, d, e, h, h', he => by cases d <;> cases e <;> first | (cases h; done) | (cases h'; done) | (cases he; done) | rfl | (simp [PyData.eqv] at he; rw [he])
  | n + 1, .list ds, .list es, h, h', he => by rw [eqvAll_eq ds es (fun d hd e he => eqv_eq n d e (List.all_eq_true.mp h d hd) (List.all_eq_true.mp h' e he)) he]
  | n + 1, .tuple ds, .tuple es, h, h', he => by rw [eqvAll_eq ds es (fun d hd e he => eqv_eq n d e (List.all_eq_true.mp h d hd) (List.all_eq_true.mp h' e he)) he]
  | n + 1, .none, e, h, h', he => by cases e <;> first | (cases h'; done) | (cases he; done) | rfl
  | n + 1, .int _, e, h, h', he => by cases e <;> first | (cases h'; done) | (cases he; done) | (simp [PyData.eqv] at he; rw [he])
  | n + 1, .str _, e, h, h', he => by cases e <;> first | (cases h'; done) | (cases he; done) | (simp [PyData.eqv] at he; rw [he])
  | n + 1, .bool _, _, h, _, _ => by cases h
  | n + 1, .dict _, _, h, _, _ => by cases h
  | n + 1, .list _, .tuple _, _, _, he => by cases he
  | n + 1, .list _, .none, _, _, he => by cases he
  | n + 1, .list _, .int _, _, _, he => by cases he
  | n + 1, .list _, .str _, _, _, he => by cases he
  | n + 1, .list _, .bool _, _, _, he => by cases he
  | n + 1, .list _, .dict _, _, _, he => by cases he
  | n + 1, .tuple _, .list _, _, _, he => by cases he
  | n + 1, .tuple _, .none, _, _, he => by cases he
  | n + 1, .tuple _, .int _, _, _, he => by cases he
  | n + 1, .tuple _, .str _, _, _, he => by cases he
  | n + 1, .tuple _, .bool _, _, _, he => by cases he
  | n + 1, .tuple _, .dict _, _, _, he => by cases he
theorem nob_ints (n : Nat) (ns : List Int) : (ns.map PyData.int).all (nob n) = true := by
  rw [List.all_map]
  exact List.all_eq_true.mpr fun i _ => by cases n <;> rfl
theorem dep_ints (n : Nat) (ns : List Int) : (ns.map PyData.int).all (dep n) = true := by
  rw [List.all_map]
  exact List.all_eq_true.mpr fun i _ => by cases n <;> rfl
theorem dep_mono : ∀ (n m : Nat) (d : D), n ≤ m → dep n d = true → dep m d = true
  | 0, 0, _, _, h => h
  | 0, m + 1, d, _, h => by cases d <;> first | (cases h; done) | rfl | exact h
  | n + 1, m + 1, .list ds, e, h => List.all_eq_true.mpr fun d hd => dep_mono n m d (by omega) (List.all_eq_true.mp h d hd)
  | n + 1, m + 1, .tuple ds, e, h => List.all_eq_true.mpr fun d hd => dep_mono n m d (by omega) (List.all_eq_true.mp h d hd)
  | n + 1, m + 1, .none, _, _ => rfl
  | n + 1, m + 1, .bool _, _, _ => rfl
  | n + 1, m + 1, .int _, _, _ => rfl
  | n + 1, m + 1, .str _, _, h => h
  | n + 1, m + 1, .dict _, _, h => by cases h
  | _ + 1, 0, _, e, _ => absurd e (by omega)
theorem pop_perm {α : Type} : ∀ (l : List α) (i : Nat) (y : α), l[i]? = some y → (y :: l.eraseIdx i).Perm l
  | [], _, _, h => by simp at h
  | x :: l, 0, y, h => by
    have e : x = y := by simpa using h
    subst e
    exact List.Perm.refl _
  | x :: l, i + 1, y, h => by
    have ih := pop_perm l i y (by simpa using h)
    exact (List.Perm.swap x y (l.eraseIdx i)).trans (ih.cons x)
theorem six {t : Int} {n : Nat} (h0 : 0 ≤ t) (h1 : t < n) : seqIndex? t n = some t.toNat := by
  unfold seqIndex?
  simp only [show ¬ t < 0 by omega, if_false, h0, h1, decide_true, Bool.and_self, if_true]
/-! ### walks over what a list was made of -/
theorem for_inv {α : Type} (inj : α → D) {g : FG} {body : FS} {k : Kt} (Inv : List α → Pv.Env → Prop)
    (step : ∀ x xs e (N : Pv.Env → Prop), Inv (x :: xs) e → (∀ e', Inv xs e' → N e') → toEnv (fun e1 => body e1 { k with nx := N, ct := N, bk := k.nx }) (g (inj x) e)) (fin : ∀ e, Inv [] e → k.nx e) :
    ∀ (xs : List α) (e : Pv.Env), Inv xs e → forGo g body k (xs.map inj) e
  | [], e, h => fin e h
  | x :: xs, e, h => step x xs e _ h fun e' h' => for_inv inj Inv step fin xs e' h'
theorem lc_inv {α : Type} (inj : α → D) {own : List Nat} {g : FG} {ft : FT} {fe : FE} {r : Res} {R : List D → Pv.Env → Prop} (Inv : List α → List D → Pv.Env → Prop)
    (ok : ∀ xs acc e, Inv xs acc e → okb e r)
    (step : ∀ x xs acc e (N : List D → Pv.Env → Prop), Inv (x :: xs) acc e → (∀ acc' e', Inv xs acc' e' → N acc' e') →
      toEnv (fun e1 => ft e1 fun b e2 => match b with
        | true => fe e2 fun ry e3 => noB [ry] ∧ acc.length < sizeLine ∧ N (acc ++ [ry.d]) (wipeE e3 own)
        | false => N acc (wipeE e2 own)) (g (inj x) e)) (fin : ∀ acc e, Inv [] acc e → R acc e) :
    ∀ (xs : List α) (acc : List D) (e : Pv.Env), Inv xs acc e → lcGo own g ft fe r R (xs.map inj) acc e
  | [], acc, e, h => ⟨ok _ _ _ h, fin acc e h⟩
  | x :: xs, acc, e, h => ⟨ok _ _ _ h, step x xs acc e _ h fun acc' e' h' => lc_inv inj Inv ok step fin xs acc' e' h'⟩
/-- .. when nothing is written -/
theorem lc_map {α : Type} (inj : α → D) (f : α → Option D) {own : List Nat} {g : FG} {ft : FT} {fe : FE} {r : Res} {R : List D → Pv.Env → Prop} {E : Pv.Env} {X : List α}
    (step : ∀ x acc (N : List D → Pv.Env → Prop), x ∈ X → acc.length < sizeLine → N (acc ++ (f x).toList) E →
      toEnv (fun e1 => ft e1 fun b e2 => match b with
        | true => fe e2 fun ry e3 => noB [ry] ∧ acc.length < sizeLine ∧ N (acc ++ [ry.d]) (wipeE e3 own)
        | false => N acc (wipeE e2 own)) (g (inj x) E)) (ok : okb E r) (fin : R (X.filterMap f) E) (hl : X.length ≤ sizeLine) : lcGo own g ft fe r R (X.map inj) [] E := by
  refine lc_inv inj (fun xs acc e => e = E ∧ acc.length + xs.length ≤ sizeLine ∧ (∀ x ∈ xs, x ∈ X) ∧ acc ++ xs.filterMap f = X.filterMap f) (fun xs acc e h => by rw [h.1]; exact ok) (fun x xs acc e N h hN => ?_) (fun acc e h => ?_) X [] E ⟨rfl, by rw [List.length_nil, Nat.zero_add]; exact hl, fun x h => h, rfl⟩
  · obtain ⟨rfl, h1, h2, h3⟩ := h
    rw [List.length_cons] at h1
    refine step x acc N (h2 x List.mem_cons_self) (by omega) (hN _ _ ⟨rfl, ?_, fun y hy => h2 y (List.mem_cons_of_mem _ hy), ?_⟩)
    · rw [List.length_append]
      have : (f x).toList.length ≤ 1 := by cases f x <;> simp
      omega
    · rw [← h3]
      cases hf : f x with
      | none => simp [List.filterMap_cons, hf]
      | some y => simp [List.filterMap_cons, hf]
  · obtain ⟨rfl, h1, h2, h3⟩ := h
    rw [List.filterMap_nil, List.append_nil] at h3
    rw [h3]
    exact fin
def enumI {α : Type} : Nat → List α → List (Nat × α)
  | _, [] => []
  | n, d :: ds => (n, d) :: enumI (n + 1) ds
def prI (p : Nat × D) : D := .tuple [.int (p.1 : Int), p.2]
theorem enumD_eq : ∀ (ds : List D) (n : Nat), enumD n ds = (enumI n ds).map prI
  | [], _ => rfl
  | d :: ds, n => by
    show _ :: enumD (n + 1) ds = _ :: (enumI (n + 1) ds).map prI
    rw [enumD_eq ds (n + 1)]
    rfl
theorem enumI_map {α β : Type} (f : α → β) : ∀ (ds : List α) (n : Nat), enumI n (ds.map f) = (enumI n ds).map fun p => (p.1, f p.2)
  | [], _ => rfl
  | d :: ds, n => by
    show _ :: enumI (n + 1) (ds.map f) = _ :: (enumI (n + 1) ds).map _
    rw [enumI_map f ds (n + 1)]
/-- enumerate of ints -/
def prII (p : Nat × Int) : D := .tuple [.int (p.1 : Int), .int p.2]
theorem enumD_ints (ws : List Int) : enumD 0 (ws.map PyData.int) = (enumI 0 ws).map prII := by
  rw [enumD_eq, enumI_map, List.map_map]
  rfl
/-- a list or a tuple of ints -/
def Ints (d : D) (ws : List Int) : Prop := d = .list (ws.map .int) ∨ d = .tuple (ws.map .int)
/-- a standing, list or tuple -/
def Std (d : D) (l : Int) (lot : List Int) (r : Int) : Prop := ∃ dl, Ints dl lot ∧ (d = .tuple [.int l, dl, .int r] ∨ d = .list [.int l, dl, .int r])
/-- a standing as the program makes it -/
def std (l : Int) (lot : List Int) (r : Int) : D := .tuple [.int l, .tuple (lot.map .int), .int r]
theorem Std.of (l : Int) (lot : List Int) (r : Int) : Std (std l lot r) l lot r := ⟨_, .inr rfl, .inl rfl⟩
theorem Ints.of (ws : List Int) : Ints (.tuple (ws.map .int)) ws := .inr rfl
/-- a lot read from the other end -/
def turnI (n : Nat) (lot : List Int) : List Int := (lot.map fun p => (n : Int) - 1 - p).reverse
/-- what rolls to the right: the pits that hold a bead then, and what leaves -/
def roll (s : Int) (lot : List Int) : List Int → Int → Int → List Int × Int
  | [], _, r => ([], r)
  | d :: ds, p, r =>
    if d < s then roll s lot ds (p + 1) (r + if p ∈ lot then 1 else 0)
    else if p ∈ lot then (p :: (roll s lot ds (p + 1) r).1, (roll s lot ds (p + 1) r).2)
    else if 0 < r then (p :: (roll s lot ds (p + 1) (r - 1)).1, (roll s lot ds (p + 1) (r - 1)).2)
    else roll s lot ds (p + 1) r
/-- a standing after a tilt to the right, and what came out -/
def toR (ws : List Int) (l : Int) (lot : List Int) (r s : Int) : (Int × List Int × Int) × Int := ((0, (roll s lot ws 0 l).1, r + (roll s lot ws 0 l).2), (roll s lot ws 0 l).2)
def tiltF (ws : List Int) (l : Int) (lot : List Int) (r : Int) (right : Bool) (s : Int) : (Int × List Int × Int) × Int :=
  if right then toR ws l lot r s
  else (((toR ws.reverse r (turnI ws.length lot) l s).1.2.2, turnI ws.length (toR ws.reverse r (turnI ws.length lot) l s).1.2.1, (toR ws.reverse r (turnI ws.length lot) l s).1.1), (toR ws.reverse r (turnI ws.length lot) l s).2)
theorem inD_ints (p : Int) (lot : List Int) : inD (.int p) (lot.map .int) = decide (p ∈ lot) := by
  unfold inD
  rw [List.any_map]
  by_cases h : p ∈ lot
  · rw [decide_eq_true h, List.any_eq_true]
    exact ⟨p, h, by simp [PyData.eqv]⟩
  · rw [decide_eq_false h, Bool.eq_false_iff, Ne, List.any_eq_true]
    rintro ⟨x, hx, e⟩
    have : x = p := by simpa [PyData.eqv] using e
    exact h (this ▸ hx)
theorem flat_ints (lot : List Int) : (lot.map PyData.int).all flatD = true := by
  rw [List.all_map]
  exact List.all_eq_true.mpr fun _ _ => rfl
theorem shp_ints (lot : List Int) : shp (.list (lot.map PyData.int)) := dep_shp (n := 1) (dep_ints 0 lot) (by decide)
theorem shp_intsT (lot : List Int) : shp (.tuple (lot.map PyData.int)) := dep_shp (n := 1) (dep_ints 0 lot) (by decide)
/-! a list or a tuple of ints, as it is looked at -/
theorem in_ints {dl : D} {lot : List Int} (h : Ints dl lot) {p : Int} {R : KC} (q : R 0 (.bool (decide (p ∈ lot)))) : dIn (fun b => b) (.int p) R dl := by
  rcases h with rfl | rfl
  · refine ⟨dep_shp (n := 0) rfl (by decide), shp_ints lot, ?_⟩
    rw [inD_ints]; exact q
  · refine ⟨dep_shp (n := 0) rfl (by decide), shp_intsT lot, ?_⟩
    rw [inD_ints]; exact q
theorem notIn_ints {dl : D} {lot : List Int} (h : Ints dl lot) {p : Int} {R : KC} (q : R 0 (.bool (!decide (p ∈ lot)))) : dIn (fun b => !b) (.int p) R dl := by
  rcases h with rfl | rfl
  · refine ⟨dep_shp (n := 0) rfl (by decide), shp_ints lot, ?_⟩
    rw [inD_ints]; exact q
  · refine ⟨dep_shp (n := 0) rfl (by decide), shp_intsT lot, ?_⟩
    rw [inD_ints]; exact q
theorem enum_ints {dl : D} {lot : List Int} (h : Ints dl lot) {P : List D → Prop} (q : P ((enumI 0 lot).map prII)) : overEnum P dl := by
  rcases h with rfl | rfl
  · show P _; rw [enumD_ints]; exact q
  · show P _; rw [enumD_ints]; exact q
/-! ### steps of a reading -/
theorem ev_okb_v {e : Pv.Env} {k : Nat} {d : D} {P : Prop} (q : P) : okb e (.v k d) ∧ P := ⟨trivial, q⟩
theorem ev_okb {e : Pv.Env} {r : Res} {P : Prop} (h : okb e r) (q : P) : okb e r ∧ P := ⟨h, q⟩
theorem ev_scr {ns : List Int} {P : Prop} (q : P) : isScr (ns.map fun n => (PyData.none, PyData.int n)) = true ∧ P := ⟨isScr_map ns, q⟩
theorem ev_dis {l : List Nat} {P : Prop} (h : distinct l = true) (q : P) : distinct l = true ∧ P := ⟨h, q⟩
theorem ev_noB {rs : List Res} {P : Prop} (h : noB rs) (q : P) : noB rs ∧ P := ⟨h, q⟩
theorem ev_own {c : Option Cell} {P : Prop} (h : isOwn c) (q : P) : isOwn c ∧ P := ⟨h, q⟩
theorem ev_flat {r : Res} {P : Prop} (h : flat r) (q : P) : flat r ∧ P := ⟨h, q⟩
theorem ev_away {r : Res} {l : List Nat} {P : Prop} (h : away r l = true) (q : P) : away r l = true ∧ P := ⟨h, q⟩
theorem ev_lst {rs : List Res} {P : Prop} (h : noB rs) (h3 : Nat.ble rs.length 64 = true) (q : P) : (noB rs ∧ rs.length ≤ sizeLine) ∧ P :=
  ⟨⟨h, Nat.le_trans (Nat.le_of_ble_eq_true h3) (by decide)⟩, q⟩
theorem ev_ix {len : Nat} {j : Int} {P : Nat → Prop} (h : (ixN len j).isSome = true) (q : P ((ixN len j).get h)) : ∃ n, ixN len j = some n ∧ P n := ⟨_, (Option.some_get h).symm, q⟩
def intAt : Option Cell → Int
  | some ⟨_, .int a⟩ => a
  | _ => 0
theorem ev_aug {e : Pv.Env} {i : Nat} {P : Int → Prop} (h : getC e i = some (sh (.int (intAt (getC e i))))) (q : P (intAt (getC e i))) : ∃ a : Int, getC e i = some (sh (.int a)) ∧ P a := ⟨_, h, q⟩
theorem rng_eq (lo hi : Int) : rngD lo hi = (List.range' 0 (hi - lo).toNat).map fun i : Nat => PyData.int (lo + (i : Int)) := by
  unfold rngD
  rw [List.range_eq_range']
/-- a channel: that many depths, no two alike -/
def wireOk (m : Int) (ws : List Int) : Prop := 0 < ws.length ∧ (ws.length : Int) ≤ m ∧ ws.Nodup ∧ ∀ w ∈ ws, 1 ≤ w ∧ w < 2 ^ 59
def wireOkP (m : Int) (ws : List Int) : Prop := 0 < ws.length ∧ (ws.length : Int) ≤ m ∧ ws.Nodup ∧ ∀ w ∈ ws, 1 ≤ w ∧ w < 2 ^ 60
theorem wireOk.p {m : Int} {ws : List Int} (h : wireOk m ws) : wireOkP m ws := ⟨h.1, h.2.1, h.2.2.1, fun w hw => ⟨(h.2.2.2 w hw).1, by have := (h.2.2.2 w hw).2; omega⟩⟩
theorem wireOk.of {m : Int} {ws vs : List Int} (h : wireOk m ws) (p : vs.Perm ws) : wireOk m vs :=
  ⟨by rw [p.length_eq]; exact h.1, by rw [p.length_eq]; exact h.2.1, p.nodup_iff.mpr h.2.2.1, fun w hw => h.2.2.2 w (p.mem_iff.mp hw)⟩
theorem nodup_lt {ws : List Int} (h : ws.Pairwise (· < ·)) : ws.Nodup := h.imp fun {a b} h => by omega
theorem perm_map {α β : Type} {f : α → β} : ∀ {es : List β} {vs : List α}, es.Perm (vs.map f) → ∃ us : List α, us.Perm vs ∧ es = us.map f := by
  intro es vs h
  generalize e : vs.map f = ds at h
  induction h generalizing vs with
  | nil => exact ⟨[], by rw [List.map_eq_nil_iff.mp e], rfl⟩
  | cons d h ih =>
    match vs, e with
    | v :: vs, e =>
      obtain ⟨rfl, e2⟩ := List.cons.inj e
      obtain ⟨us, h1, rfl⟩ := ih e2
      exact ⟨v :: us, h1.cons v, rfl⟩
  | swap a b l =>
    match vs, e with
    | v :: w :: vs, e =>
      obtain ⟨rfl, e2⟩ := List.cons.inj e
      obtain ⟨rfl, rfl⟩ := List.cons.inj e2
      exact ⟨w :: v :: vs, List.Perm.swap _ _ _, rfl⟩
  | trans h1 h2 ih1 ih2 =>
    obtain ⟨us, p2, rfl⟩ := ih2 e
    obtain ⟨ws, p1, rfl⟩ := ih1 rfl
    exact ⟨ws, p1.trans p2, rfl⟩
/-- no list in it is greater than 2 ^ 20 -/
def smallF : Nat → D → Bool
  | 0, _ => true
  | n + 1, .list ds => decide (ds.length ≤ 2 ^ 20) && ds.all (smallF n)
  | n + 1, .tuple ds => decide (ds.length ≤ 2 ^ 20) && ds.all (smallF n)
  | _ + 1, _ => true
theorem all_true (n : Nat) : (List.replicate n true).all id = true := by
  rw [List.all_eq_true]
  intro b hb
  rw [List.eq_of_mem_replicate hb]
  rfl
/-- what every law's part is to show: its answer is yes -/
def ph__law_right : Phi := fun args R => ∃ x, args = [x] ∧ Bx 0 x ∧ ∀ x', R (sh (.bool true)) [x']
theorem sorted_uniq : ∀ {xs ys : List Int}, xs.Perm ys → xs.Pairwise (· ≤ ·) → ys.Pairwise (· ≤ ·) → xs = ys
  | [], ys, p, _, _ => by rw [List.Perm.eq_nil p.symm]
  | x :: xs, [], p, _, _ => by cases p.length_eq
  | x :: xs, y :: ys, p, h1, h2 => by
    rw [List.pairwise_cons] at h1 h2
    have e1 : x ≤ y := by
      rcases List.mem_cons.mp (p.mem_iff.mpr (List.mem_cons_self (a := y) (l := ys))) with h | h
      · omega
      · exact h1.1 y h
    have e2 : y ≤ x := by
      rcases List.mem_cons.mp (p.mem_iff.mp (List.mem_cons_self (a := x) (l := xs))) with h | h
      · omega
      · exact h2.1 x h
    have e : x = y := by omega
    subst e
    rw [sorted_uniq (List.Perm.cons_inv p) h1.2 h2.2]
theorem ix_nat {α : Type} {xs : List α} {j : Int} {n : Nat} (h : j = (n : Int)) : ix xs j = xs[n]? := by
  subst h
  unfold ix
  rw [if_pos (by omega)]
  rfl
theorem ev_len {a b : Nat} {P : Prop} (h : a = b) (q : P) : a = b ∧ P := ⟨h, q⟩
/-- of so many levels, none too great -/
def okD (n : Nat) (d : D) : Prop := dep n d = true ∧ smallF n d = true
theorem okD_int {n : Nat} {i : Int} : okD n (.int i) := by cases n <;> exact ⟨rfl, rfl⟩
theorem okD_bl {n : Nat} {i : Bool} : okD n (.bool i) := by cases n <;> exact ⟨rfl, rfl⟩
theorem okD_list {n : Nat} {ds : List D} (hl : ds.length ≤ 2 ^ 20) (h : ∀ d ∈ ds, okD n d) : okD (n + 1) (.list ds) :=
  ⟨List.all_eq_true.mpr fun d hd => (h d hd).1, by
    show (decide (ds.length ≤ 2 ^ 20) && ds.all (smallF n)) = true
    rw [decide_eq_true hl, List.all_eq_true.mpr fun d hd => (h d hd).2]; rfl⟩
theorem okD_tup {n : Nat} {ds : List D} (hl : ds.length ≤ 2 ^ 20) (h : ∀ d ∈ ds, okD n d) : okD (n + 1) (.tuple ds) :=
  ⟨List.all_eq_true.mpr fun d hd => (h d hd).1, by
    show (decide (ds.length ≤ 2 ^ 20) && ds.all (smallF n)) = true
    rw [decide_eq_true hl, List.all_eq_true.mpr fun d hd => (h d hd).2]; rfl⟩
theorem okD_ints {n : Nat} {ws : List Int} (hl : ws.length ≤ 2 ^ 20) : okD (n + 1) (.tuple (ws.map .int)) := okD_tup (by rw [List.length_map]; exact hl) fun d hd => by
  obtain ⟨i, _, rfl⟩ := List.mem_map.mp hd
  exact okD_int
theorem okD_std {n : Nat} {l r : Int} {lot : List Int} (hl : lot.length ≤ 2 ^ 20) : okD (n + 2) (std l lot r) := okD_tup (show (3 : Nat) ≤ 2 ^ 20 by decide) fun d hd => by
  rcases List.mem_cons.mp hd with rfl | hd
  · exact okD_int
  · rcases List.mem_cons.mp hd with rfl | hd
    · exact okD_ints hl
    · rw [List.mem_singleton.mp hd]; exact okD_int
/-! ### standings as triples, rows of tilts -/
abbrev Tr := Int × List Int × Int
def dS (x : Tr) : D := std x.1 x.2.1 x.2.2
def tiltS (ws : List Int) (b : Bool) (s : Int) (x : Tr) : Tr := (tiltF ws x.1 x.2.1 x.2.2 b s).1
def ledS (ws : List Int) (row : List (Bool × Int)) (x : Tr) : Tr := row.foldl (fun x p => tiltS ws p.1 p.2 x) x
def iterS (f : Tr → Tr) : Nat → Tr → Tr
  | 0, x => x
  | n + 1, x => iterS f n (f x)
def sideS (b : Bool) : Str := if b then "right" else "left"
/-- one tilt of a row, as data -/
def prT (p : Bool × Int) : D := .tuple [.str (sideS p.1), .int p.2]
/-- a tilt as a list, as a tuple -/
def prW (w : Bool) (p : Bool × Int) : D := match w with
  | true => .list [.str (sideS p.1), .int p.2]
  | false => .tuple [.str (sideS p.1), .int p.2]
def Row (d : D) (row : List (Bool × Int)) : Prop := ∃ w, d = .list (row.map (prW w)) ∨ d = .tuple (row.map (prW w))
/-- what a standing may be -/
def StdS (d : D) (x : Tr) : Prop := Std d x.1 x.2.1 x.2.2
theorem iterS_succ (f : Tr → Tr) : ∀ (n : Nat) (x : Tr), iterS f (n + 1) x = f (iterS f n x)
  | 0, _ => rfl
  | n + 1, x => iterS_succ f n (f x)
theorem ints_inj : ∀ {xs ys : List Int}, xs.map PyData.int = ys.map PyData.int → xs = ys
  | [], [], _ => rfl
  | [], _ :: _, h => by cases h
  | _ :: _, [], h => by cases h
  | x :: xs, y :: ys, h => by
    obtain ⟨h1, h2⟩ := List.cons.inj h
    rw [PyData.int.inj h1, ints_inj h2]
theorem dS_inj {x y : Tr} (h : dS x = dS y) : x = y := by
  obtain ⟨a, b, c⟩ := x
  obtain ⟨a', b', c'⟩ := y
  have h' := PyData.tuple.inj h
  obtain ⟨h1, h2⟩ := List.cons.inj h'
  obtain ⟨h3, h4⟩ := List.cons.inj h2
  obtain ⟨h5, _⟩ := List.cons.inj h4
  have e1 : a = a' := PyData.int.inj h1
  have e2 : b = b' := ints_inj (PyData.tuple.inj h3)
  have e3 : c = c' := PyData.int.inj h5
  rw [e1, e2, e3]
theorem nob_dS (x : Tr) : nob 2 (dS x) = true := by
  show List.all [PyData.int x.1, .tuple (x.2.1.map .int), .int x.2.2] (nob 1) = true
  rw [List.all_cons, List.all_cons, List.all_cons, List.all_nil]
  show (true && (List.all (x.2.1.map PyData.int) (nob 0) && (true && true))) = true
  rw [nob_ints]
  rfl
end Lw

/-! Vl: the law's own entry. -/
namespace Lw
open PySem PySem.Spec PyProof.Rows L2 Pv
/-- the tables that are watched stand there, empty -/
def Tab0 (K : Fg) (H : Hp) : Prop := ∀ p ∈ tabsOf K, H p.1 = some (.tbl #[])
theorem tab0_no {K : Fg} {H : Hp} (h : tabsOf K = []) : Tab0 K H := by
  unfold Tab0
  rw [h]
  nofun
theorem Tab0.start {K : Fg} {H : Hp} (h : Tab0 K H) : ∃ ω : Om, Tabs K ω H ∧ (∀ a, H a ≠ some (.tbl #[]) → ω a = .shr) ∧ Free ω 0 := by
  classical
  refine ⟨fun b => if H b = some (.tbl #[]) then .tab else .shr, fun p hp => ⟨if_pos (h p hp), #[], h p hp, True.intro, fun pos cv hc => ?_⟩, fun a ha => if_neg ha, fun a t p e => ?_⟩
  · have z : codeAmong pos [] = some cv := hc
    simp [codeAmong] at z
  · have e : (if H a = some (.tbl #[]) then Ow.tab else .shr) = .tmp t p := e
    split at e <;> cases e
theorem sp_of_script {K : Fg} {H : Hp} {a : Addr} {ns : List Int} {φ : Phi} {Q : VK} {E : XK} (hS : SqL K H a (ns.map V.int)) (hφ : φ [sh (scrD ns)] fun c _ => c = sh (.bool true)) (hq : ∀ H', Q (.bl true) H') (hT : Tab0 K H) : spOf K [false] φ [.ref a] H Q E := by
  obtain ⟨ω, htab, hsh, hfr⟩ := hT.start
  have hs : Rd H a (.lst (ns.map V.int)) → ω a = .shr := fun hS => hsh a fun z => by
    rcases hS with h | ⟨o, h⟩
    · rw [h] at z; cases z
    · rw [h] at z; cases z
  refine ⟨ω, [sh (scrD ns)], fun c _ => c = sh (.bool true), ⟨⟨rfl, .scr (hS.elim (fun h => .inl ⟨h, hs h⟩) .inr)⟩, trivial⟩, ⟨htab, hfr⟩, hφ, fun v H' ω' c ios _ _ ho hc => ?_⟩
  subst hc
  have h : Rp K ω' H' v (.bool true) := ho
  cases h
  exact hq H'
end Lw

/-! Vg: the words of the automatic runs. -/
namespace Lw
open PySem PySem.Spec PyProof.Rows L2 Pv
/-- a side condition that stands by itself -/
@[irreducible] def Hold (P : Prop) : Prop := P
theorem Hold.mk {P : Prop} (h : P) : Hold P := by unfold Hold; exact h
theorem Hold.out {P : Prop} (h : Hold P) : P := by unfold Hold at h; exact h
/-- at least k draws are left -/
@[irreducible] def Bk (k : Nat) (x : Cell) : Prop := ∃ n, Bx n x ∧ n + k ≤ 2 ^ 59
theorem Bk.get {k : Nat} {x : Cell} (h : Bk k x) : ∃ n, Bx n x ∧ n + k ≤ 2 ^ 59 := by unfold Bk at h; exact h
theorem Bk.of {n k : Nat} {x : Cell} (h : Bx n x) (e : n + k ≤ 2 ^ 59) : Bk k x := by unfold Bk; exact ⟨n, h, e⟩
theorem Bk.le {m k : Nat} {x : Cell} (h : Bk m x) (e : k ≤ m) : Bk k x := by
  obtain ⟨n, h1, h2⟩ := h.get
  exact .of h1 (by omega)
theorem Bk.ex {k : Nat} {x : Cell} (h : Bk k x) : ∃ d, x = ⟨1, d⟩ := by
  obtain ⟨n, h1, h2⟩ := h.get
  exact h1.ex
theorem R_of {R : Cell → List Cell → Prop} {c c' : Cell} {o o' : List Cell} (h : R c o) (e : Hold (c' = c)) (e2 : Hold (o' = o)) : R c' o' := by
  rw [e.out, e2.out]; exact h
/-! ### a list or a tuple of anything -/
def Sq (d : D) (ds : List D) : Prop := d = .list ds ∨ d = .tuple ds
theorem Sq.l (ds : List D) : Sq (.list ds) ds := .inl rfl
theorem Sq.t (ds : List D) : Sq (.tuple ds) ds := .inr rfl
theorem Ints.sq {d : D} {ws : List Int} (h : Ints d ws) : Sq d (ws.map .int) := h
theorem Row.sq {d : D} {row : List (Bool × Int)} (h : Row d row) : ∃ w, Sq d (row.map (prW w)) := h
theorem Ints.l (ws : List Int) : Ints (.list (ws.map .int)) ws := .inl rfl
theorem Ints.t (ws : List Int) : Ints (.tuple (ws.map .int)) ws := .inr rfl
theorem Ints.l0 : Ints (.list []) [] := .inl rfl
theorem Ints.t0 : Ints (.tuple []) [] := .inr rfl
theorem Row.l (ws : List (Bool × Int)) : Row (.list (ws.map prT)) ws := ⟨false, .inl rfl⟩
theorem Row.wl (w : Bool) (ws : List (Bool × Int)) : Row (.list (ws.map (prW w))) ws := ⟨w, .inl rfl⟩
theorem Row.wt (w : Bool) (ws : List (Bool × Int)) : Row (.tuple (ws.map (prW w))) ws := ⟨w, .inr rfl⟩
theorem Row.t (ws : List (Bool × Int)) : Row (.tuple (ws.map prT)) ws := ⟨false, .inr rfl⟩
theorem Row.l0 : Row (.list []) [] := ⟨false, .inl rfl⟩
theorem Row.l1 (b : Bool) (s : Int) : Row (.list [.tuple [.str (sideS b), .int s]]) [(b, s)] := ⟨false, .inl rfl⟩
theorem Row.l1r (s : Int) : Row (.list [.tuple [.str "right", .int s]]) [(true, s)] := ⟨false, .inl rfl⟩
theorem Row.l1l (s : Int) : Row (.list [.tuple [.str "left", .int s]]) [(false, s)] := ⟨false, .inl rfl⟩
theorem StdS.o (x : Tr) : StdS (dS x) x := Std.of _ _ _
theorem StdS.mk (l : Int) (lot : List Int) (r : Int) : StdS (.tuple [.int l, .tuple (lot.map .int), .int r]) (l, lot, r) := Std.of _ _ _
theorem StdS.mk0 (l : Int) (r : Int) : StdS (.tuple [.int l, .tuple [], .int r]) (l, [], r) := Std.of l [] r
theorem Row.t0 : Row (.tuple []) [] := ⟨false, .inr rfl⟩
/-- written ints -/
inductive IL : List D → List Int → Prop
  | nil : IL [] []
  | cons {x : Int} {ds : List D} {xs : List Int} : IL ds xs → IL (.int x :: ds) (x :: xs)
theorem IL.eq : ∀ {ds : List D} {xs : List Int}, IL ds xs → ds = xs.map .int
  | _, _, .nil => rfl
  | _, _, .cons h => by rw [IL.eq h]; rfl
theorem IL.of : ∀ (xs : List Int), IL (xs.map .int) xs
  | [] => .nil
  | _ :: xs => .cons (IL.of xs)
theorem IL.map (xs : List Int) : IL (xs.map .int) xs := IL.of xs
theorem IL.app {a b : List D} {xs ys : List Int} (h : IL a xs) (h' : IL b ys) : IL (a ++ b) (xs ++ ys) := by
  rw [h.eq, h'.eq, ← List.map_append]
  exact IL.of _
theorem Ints.ofIL {ds : List D} {xs : List Int} (h : IL ds xs) : Ints (.list ds) xs := by rw [h.eq]; exact .inl rfl
theorem Ints.ofILt {ds : List D} {xs : List Int} (h : IL ds xs) : Ints (.tuple ds) xs := by rw [h.eq]; exact .inr rfl
/-- written rows -/
inductive RL : List D → List (Bool × Int) → Prop
  | nil : RL [] []
  | consR {x : Int} {ds : List D} {xs : List (Bool × Int)} : RL ds xs → RL (.tuple [.str "right", .int x] :: ds) ((true, x) :: xs)
  | consL {x : Int} {ds : List D} {xs : List (Bool × Int)} : RL ds xs → RL (.tuple [.str "left", .int x] :: ds) ((false, x) :: xs)
  | consS {b : Bool} {x : Int} {ds : List D} {xs : List (Bool × Int)} : RL ds xs → RL (.tuple [.str (sideS b), .int x] :: ds) ((b, x) :: xs)
theorem RL.eq : ∀ {ds : List D} {xs : List (Bool × Int)}, RL ds xs → ds = xs.map prT
  | _, _, .nil => rfl
  | _, _, .consR h => by rw [RL.eq h]; rfl
  | _, _, .consL h => by rw [RL.eq h]; rfl
  | _, _, .consS h => by rw [RL.eq h]; rfl
theorem RL.of : ∀ (xs : List (Bool × Int)), RL (xs.map prT) xs
  | [] => .nil
  | (b, s) :: xs => .consS (RL.of xs)
theorem RL.map (xs : List (Bool × Int)) : RL (xs.map prT) xs := RL.of xs
theorem RL.app {a b : List D} {xs ys : List (Bool × Int)} (h : RL a xs) (h' : RL b ys) : RL (a ++ b) (xs ++ ys) := by
  rw [h.eq, h'.eq, ← List.map_append]
  exact RL.of _
theorem Row.ofRL {ds : List D} {xs : List (Bool × Int)} (h : RL ds xs) : Row (.list ds) xs := by rw [h.eq]; exact ⟨false, .inl rfl⟩
theorem Row.ofRLt {ds : List D} {xs : List (Bool × Int)} (h : RL ds xs) : Row (.tuple ds) xs := by rw [h.eq]; exact ⟨false, .inr rfl⟩
/-! ### functions on lists of ints -/
def gI (ws : List Int) (i : Int) : Int := ws.getD i.toNat 0
@[irreducible] def irange (lo hi : Int) : List Int := (List.range (hi - lo).toNat).map fun i : Nat => lo + (i : Int)
theorem rngD_eq (lo hi : Int) : rngD lo hi = (irange lo hi).map .int := by
  unfold rngD irange
  rw [List.map_map]
  rfl
theorem mem_irange {lo hi i : Int} : i ∈ irange lo hi ↔ lo ≤ i ∧ i < hi := by
  unfold irange
  rw [List.mem_map]
  constructor
  · rintro ⟨n, hn, rfl⟩
    have := List.mem_range.mp hn
    omega
  · rintro ⟨h1, h2⟩
    exact ⟨(i - lo).toNat, List.mem_range.mpr (by omega), by omega⟩
theorem irange_len (lo hi : Int) : (irange lo hi).length = (hi - lo).toNat := by unfold irange; rw [List.length_map, List.length_range]
theorem irange_lt (lo hi : Int) : (irange lo hi).Pairwise (· < ·) := by
  unfold irange
  rw [List.pairwise_map]
  exact List.Pairwise.imp (fun {a b} h => by omega) List.pairwise_lt_range
theorem irange_get {lo hi : Int} {i : Nat} (h : i < (hi - lo).toNat) : (irange lo hi)[i]? = some (lo + (i : Int)) := by
  unfold irange
  rw [List.getElem?_map, List.getElem?_range h]
  rfl
theorem irange_nil {lo hi : Int} (h : hi ≤ lo) : irange lo hi = [] := List.eq_nil_of_length_eq_zero (by rw [irange_len]; omega)
theorem irange_cons {lo hi : Int} (h : lo < hi) : irange lo hi = lo :: irange (lo + 1) hi := by
  refine List.ext_getElem? fun i => ?_
  cases i with
  | zero => rw [irange_get (by omega)]; simp
  | succ i =>
    rw [List.getElem?_cons_succ]
    by_cases hi : i + 1 < (hi - lo).toNat
    · rw [irange_get hi, irange_get (by omega)]
      congr 1; omega
    · rw [List.getElem?_eq_none (by rw [irange_len]; omega), List.getElem?_eq_none (by rw [irange_len]; omega)]
/-- the greatest, the least -/
def mx : List Int → Int
  | [] => 0
  | w :: ws => ws.foldl max w
def mn : List Int → Int
  | [] => 0
  | w :: ws => ws.foldl min w
theorem mx_mem {ws : List Int} (h : 0 < ws.length) : mx ws ∈ ws := by
  match ws, h with
  | w :: ws, _ => exact (foldl_max ws w).1
theorem le_mx {ws : List Int} {x : Int} (h : x ∈ ws) : x ≤ mx ws := by
  match ws, h with
  | w :: ws, h => exact (foldl_max ws w).2 x h
theorem mn_mem {ws : List Int} (h : 0 < ws.length) : mn ws ∈ ws := by
  match ws, h with
  | w :: ws, _ => exact (foldl_min ws w).1
theorem mn_le {ws : List Int} {x : Int} (h : x ∈ ws) : mn ws ≤ x := by
  match ws, h with
  | w :: ws, h => exact (foldl_min ws w).2 x h
/-- sorted -/
def srt (ws : List Int) : List Int := ws.mergeSort fun a b => decide (a ≤ b)
theorem srt_perm (ws : List Int) : (srt ws).Perm ws := List.mergeSort_perm _ _
theorem srt_le (ws : List Int) : (srt ws).Pairwise (· ≤ ·) := by
  have := List.pairwise_mergeSort (le := fun a b : Int => decide (a ≤ b)) (fun a b c h1 h2 => by simp at *; omega) (fun a b => by simp; omega) ws
  exact this.imp fun {a b} h => of_decide_eq_true h
theorem srt_eq {ws vs : List Int} (p : vs.Perm ws) (h : vs.Pairwise (· ≤ ·)) : vs = srt ws := sorted_uniq (p.trans (srt_perm ws).symm) h (srt_le ws)
theorem srt_len (ws : List Int) : (srt ws).length = ws.length := (srt_perm ws).length_eq
/-! ### views: len, list, tuple, in -/
section
variable {α : Type} {inj : α → D} {xs : List α} {ds : List D} {ws lot : List Int} {r : Res} {d : D} {R : KC} {k k' : Nat}
theorem v_len (h : Sq r.d ds) (q : R 0 (.int ds.length)) : apN (at1 oLen) [r] R := apN_op (by rcases h with h | h <;> (show dLen R r.d; rw [h]; exact q))
theorem v_lenM (h : Sq r.d (xs.map inj)) (q : R 0 (.int xs.length)) : apN (at1 oLen) [r] R := v_len h (by rw [List.length_map]; exact q)
theorem v_lenI (h : Ints r.d ws) (q : R 0 (.int ws.length)) : apN (at1 oLen) [r] R := v_lenM (inj := .int) h q
theorem v_list (h : Sq r.d ds) (hf : flat r) (q : R 1 (.list ds)) : apN (at1 oList) [r] R := apN_op (by
  rcases h with h | h <;> (show dList (flat r) R r.d; rw [h])
  · exact ⟨hf, q⟩
  · exact q)
theorem v_tuple (h : Sq r.d ds) (hf : flat r) (q : R 0 (.tuple ds)) : apN (at1 oTuple) [r] R := apN_op (by
  rcases h with h | h <;> (show dTuple (flat r) R r.d; rw [h])
  · exact ⟨hf, q⟩
  · exact q)
theorem v_in {p : Int} (h : Ints r.d lot) (q : R 0 (.bool (decide (p ∈ lot)))) : ap2 oIn (.v k (.int p)) r R := ap2_op (in_ints h q)
theorem v_notIn {p : Int} (h : Ints r.d lot) (q : R 0 (.bool (!decide (p ∈ lot)))) : ap2 oNotIn (.v k (.int p)) r R := ap2_op (notIn_ints h q)
theorem v_sorted (h : r.d = .list (ws.map .int)) (hf : flat r) (q : R 1 (.list ((srt ws).map .int))) : apN (at1 oSorted) [r] R := apN_op (by
  show dSorted (flat r) R r.d
  rw [h]
  exact ⟨hf, .inl ⟨ws, rfl, fun ns' p s => by rw [srt_eq p s]; exact q⟩⟩)
theorem v_sortedT (h : r.d = .tuple (ws.map .int)) (q : R 1 (.list ((srt ws).map .int))) : apN (at1 oSorted) [r] R := apN_op (by
  show dSorted (flat r) R r.d
  rw [h]
  exact ⟨ws, rfl, fun ns' p s => by rw [srt_eq p s]; exact q⟩)
theorem v_sortedS (h : r.d = .list (ws.map .int)) (hf : flat r) (hl : Hold (ws.length ≤ 60)) (q : ∀ us : List Int, us.Pairwise (· < ·) → (∀ k, k ∈ us ↔ k ∈ ws) → us.length ≤ ws.length → R 1 (.list (us.map .int))) : apN (at1 oSortedSet) [r] R := apN_op (by
  show dSortedSet (flat r) R r.d
  rw [h]
  exact ⟨hf, ws, rfl, hl.out, q⟩)
theorem v_sortedS1 {e : Int} (h : r.d = .list (ws.map .int ++ [.int e])) (hf : flat r) (hl : Hold (ws.length + 1 ≤ 60)) (q : ∀ us : List Int, us.Pairwise (· < ·) → (∀ k, k ∈ us ↔ k ∈ ws ++ [e]) → us.length ≤ ws.length + 1 → R 1 (.list (us.map .int))) : apN (at1 oSortedSet) [r] R :=
  v_sortedS (ws := ws ++ [e]) (by rw [h, List.map_append]; rfl) hf (.mk (by rw [List.length_append]; exact hl.out)) fun us h1 h2 h3 => q us h1 h2 (by rw [List.length_append] at h3; exact h3)
theorem v_sortedI (h : Ints r.d ws) (hf : flat r) (q : R 1 (.list ((srt ws).map .int))) : apN (at1 oSorted) [r] R := by
  rcases h with h | h
  · exact v_sorted h hf q
  · exact v_sortedT h q
theorem v_sortedP {ps : List (Int × Int)} (h : r.d = .list (ps.map ijD)) (hf : flat r) (q : ∀ ps' : List (Int × Int), ps'.Perm ps → R 1 (.list (ps'.map ijD))) : apN (at1 oSorted) [r] R := apN_op (by
  show dSorted (flat r) R r.d
  rw [h]
  exact ⟨hf, .inr ⟨ps, rfl, q⟩⟩)
theorem int_le_antisymm' {a b : Int} (h : a ≤ b) (h' : b ≤ a) : a = b := by omega
theorem v_maxDf {i : Int} (h : r.d = .list (ws.map .int)) (hf : flat r) (q : R 0 (.int (mxD i ws))) : apN (at1 (oMaxDf i)) [r] R := apN_op (by
  show dMaxDf (flat r) R i r.d
  rw [h]
  exact ⟨hf, ws, rfl, q⟩)
theorem v_max (h : Ints r.d ws) (hf : flat r) (h0 : Hold (0 < ws.length)) (q : R 0 (.int (mx ws))) : apN (at1 oMax) [r] R := apN_op (by
  have go : ∀ m, m ∈ ws → (∀ y, y ∈ ws → y ≤ m) → R 0 (.int m) := fun m hm hy => by rw [int_le_antisymm' (le_mx hm) (hy _ (mx_mem h0.out))]; exact q
  rcases h with h | h <;> (show dMax (flat r) R r.d; rw [h])
  · exact ⟨hf, ws, rfl, h0.out, go⟩
  · exact ⟨ws, rfl, h0.out, go⟩)
theorem v_min (h : Ints r.d ws) (hf : flat r) (h0 : Hold (0 < ws.length)) (q : R 0 (.int (mn ws))) : apN (at1 oMin) [r] R := apN_op (by
  have go : ∀ m, m ∈ ws → (∀ y, y ∈ ws → m ≤ y) → R 0 (.int m) := fun m hm hy => by rw [int_le_antisymm' (hy _ (mn_mem h0.out)) (mn_le hm)]; exact q
  rcases h with h | h <;> (show dMin (flat r) R r.d; rw [h])
  · exact ⟨hf, ws, rfl, h0.out, go⟩
  · exact ⟨ws, rfl, h0.out, go⟩)
theorem map_bools {f : α → Bool} : (xs.map fun x => PyData.bool (f x)) = (xs.map f).map .bool := by rw [List.map_map]; rfl
theorem v_all {f : α → Bool} (h : r.d = .list (xs.map fun x => .bool (f x))) (hf : flat r) (q : R 0 (.bool (xs.all f))) : apN (at1 oAll) [r] R := apN_op (by
  show dAll (flat r) R r.d
  rw [h, map_bools]
  refine ⟨hf, _, rfl, ?_⟩
  rw [List.all_map]
  exact q)
theorem v_any {f : α → Bool} (h : r.d = .list (xs.map fun x => .bool (f x))) (hf : flat r) (q : R 0 (.bool (xs.any f))) : apN (at1 oAny) [r] R := apN_op (by
  show dAny (flat r) R r.d
  rw [h, map_bools]
  refine ⟨hf, _, rfl, ?_⟩
  rw [List.any_map]
  exact q)
/-! ### subscripts -/
theorem pick_ix {i : Int} {n : Nat} {v : D} (h0 : i = (n : Int)) (hv : ds[n]? = some v) (q : R 0 v) : pick R (ix ds i) := by
  rw [ix_nat h0, hv]; exact q
theorem v_ix {i : Int} (h : Sq r.d (xs.map inj)) (hf : flat r) (h0 : Hold (0 ≤ i)) (h1 : Hold (i < xs.length)) (q : ∀ x, xs[i.toNat]? = some x → R 0 (inj x)) : ap2 oIx r (.v k (.int i)) R := by
  have h0' := h0.out
  have h1' := h1.out
  have hl : i.toNat < xs.length := by omega
  have e : (xs.map inj)[i.toNat]? = some (inj xs[i.toNat]) := by rw [List.getElem?_map, List.getElem?_eq_getElem hl]; rfl
  have q' := q _ (List.getElem?_eq_getElem hl)
  refine ap2_op ?_
  rcases h with h | h
  · show dIx (flat r) R r.d (.int i)
    rw [h]; exact ⟨hf, pick_ix (by omega) e q'⟩
  · show dIx (flat r) R r.d (.int i)
    rw [h]; exact pick_ix (by omega) e q'
theorem v_ixI {i : Int} (h : Ints r.d ws) (hf : flat r) (h0 : Hold (0 ≤ i)) (h1 : Hold (i < ws.length)) (q : R 0 (.int (gI ws i))) : ap2 oIx r (.v k (.int i)) R :=
  v_ix (inj := .int) h hf h0 h1 fun x hx => by
    have : gI ws i = x := by unfold gI; rw [List.getD_eq_getElem?_getD, hx]; rfl
    rw [← this]; exact q
theorem ix_last (h : 0 < ds.length) : ix ds (-1) = ds.getLast? := by
  unfold ix
  rw [if_neg (by omega), if_pos (by omega), List.getLast?_eq_getElem?]
  congr 1; omega
theorem v_ixL (h : Sq r.d (xs.map inj)) (hf : flat r) (h1 : Hold (0 < xs.length)) (q : ∀ x, xs.getLast? = some x → R 0 (inj x)) : ap2 oIx r (.v k (.int (-1))) R := by
  have h1' := h1.out
  have hl : 0 < (xs.map inj).length := by rw [List.length_map]; exact h1'
  obtain ⟨x, hx⟩ : ∃ x, xs.getLast? = some x := by
    rw [List.getLast?_eq_getElem?]
    exact ⟨_, List.getElem?_eq_getElem (by omega)⟩
  have e : pick R (ix (xs.map inj) (-1)) := by
    rw [ix_last hl, List.getLast?_map, hx]
    exact q x hx
  refine ap2_op ?_
  rcases h with h | h
  · show dIx (flat r) R r.d (.int (-1))
    rw [h]; exact ⟨hf, e⟩
  · show dIx (flat r) R r.d (.int (-1))
    rw [h]; exact e
def gL (ws : List Int) : Int := ws.getLastD 0
theorem gL_get {ws : List Int} {y : Int} (h : ws.getLast? = some y) : gL ws = y := by unfold gL; rw [List.getLastD_eq_getLast?, h]; rfl
theorem v_ixLI (h : Ints r.d ws) (hf : flat r) (h1 : Hold (0 < ws.length)) (q : R 0 (.int (gL ws))) : ap2 oIx r (.v k (.int (-1))) R :=
  v_ixL (inj := .int) h hf h1 fun x hx => by rw [gL_get hx] at q; exact q
theorem v_ixF {i : Int} {dd : D} (h : r.d = .list ds) (hf : flat r) (he : ix ds i = some dd) (q : R 0 dd) : ap2 oIx r (.v k (.int i)) R := by
  refine ap2_op ?_
  show dIx (flat r) R r.d (.int i)
  rw [h]
  exact ⟨hf, by rw [he]; exact q⟩
theorem v_ixM {α : Type} [Inhabited α] {inj : α → D} {xs : List α} {i : Int} (h : Sq r.d (xs.map inj)) (hf : flat r) (h0 : Hold (0 ≤ i)) (h1 : Hold (i < xs.length)) (q : R 0 (inj (xs.getD i.toNat default))) : ap2 oIx r (.v k (.int i)) R := by
  have h0' := h0.out
  have h1' := h1.out
  have e : ix (xs.map inj) i = some (inj (xs.getD i.toNat default)) := by
    unfold ix
    rw [if_pos h0', List.getElem?_map, List.getElem?_eq_getElem (by omega), List.getD_eq_getElem?_getD, List.getElem?_eq_getElem (by omega)]
    rfl
  refine ap2_op ?_
  show dIx (flat r) R r.d (.int i)
  rcases h with h | h <;> rw [h]
  · exact ⟨hf, by rw [e]; exact q⟩
  · show pick R (ix (xs.map inj) i); rw [e]; exact q
theorem v_ixA {dd : D} (h : r.d = .list (ds ++ [dd])) (hf : flat r) (q : R 0 dd) : ap2 oIx r (.v k (.int (-1))) R := by
  refine ap2_op ?_
  show dIx (flat r) R r.d (.int (-1))
  rw [h]
  refine ⟨hf, ?_⟩
  rw [ix_last (by simp)]
  simp only [List.getLast?_append, List.getLast?_singleton]
  exact q
theorem v_ixS0 {x : Tr} (h : StdS d x) (q : R 0 (.int x.1)) : ap2 oIx (.v k d) (.v k' (.int 0)) R := by
  obtain ⟨dl, hl, rfl | rfl⟩ := h
  · exact ap2_op q
  · exact ap2_op ⟨trivial, q⟩
theorem v_ixS1 {x : Tr} (h : StdS d x) (q : ∀ dl, Ints dl x.2.1 → R 0 dl) : ap2 oIx (.v k d) (.v k' (.int 1)) R := by
  obtain ⟨dl, hl, rfl | rfl⟩ := h
  · exact ap2_op (q _ hl)
  · exact ap2_op ⟨trivial, q _ hl⟩
theorem v_ixS2 {x : Tr} (h : StdS d x) (q : R 0 (.int x.2.2)) : ap2 oIx (.v k d) (.v k' (.int 2)) R := by
  obtain ⟨dl, hl, rfl | rfl⟩ := h
  · exact ap2_op q
  · exact ap2_op ⟨trivial, q⟩
theorem v_unpP {w : Bool} {p : Bool × Int} {P : Pv.Env → Prop} {gs : FGs} {e : Pv.Env} (q : toEnv P (gs [.str (sideS p.1), .int p.2] e)) : toEnv P (unpk 2 gs (prW w p) e) := by
  cases w
  · exact unpk_tE q
  · exact unpk_lE q
theorem v_seqP {d : D} {row : List (Bool × Int)} {k : Nat} {P : Res → List D → Prop} (h : Row d row) (q : ∀ w k' d', P (.v k' d') (row.map (prW w))) : ovr (overSeq (.v k d) P) d := ovr_op (by
  obtain ⟨w, rfl | rfl⟩ := h
  · exact ⟨trivial, q _ _ _⟩
  · exact q _ _ _)
theorem v_unpS {x : Tr} {P : Pv.Env → Prop} {gs : FGs} {e : Pv.Env} (h : StdS d x) (q : ∀ dl, Ints dl x.2.1 → toEnv P (gs [.int x.1, dl, .int x.2.2] e)) : toEnv P (unpk 3 gs d e) := by
  obtain ⟨dl, hl, rfl | rfl⟩ := h
  · rw [unpk_t]; exact q _ hl
  · rw [unpk_l]; exact q _ hl
/-! ### equality -/
/-- no bools, no dicts in it -/
def Nb (d : D) : Prop := nob 60 d = true
theorem nob_mono : ∀ (n m : Nat) (d : D), n ≤ m → nob n d = true → nob m d = true
  | 0, 0, _, _, h => h
  | 0, m + 1, d, _, h => by cases d <;> first | (cases h; done) | rfl | exact h
  | n + 1, m + 1, .list ds, e, h => List.all_eq_true.mpr fun d hd => nob_mono n m d (by omega) (List.all_eq_true.mp h d hd)
  | n + 1, m + 1, .tuple ds, e, h => List.all_eq_true.mpr fun d hd => nob_mono n m d (by omega) (List.all_eq_true.mp h d hd)
  | n + 1, m + 1, .none, _, _ => rfl
  | n + 1, m + 1, .bool _, _, h => by cases h
  | n + 1, m + 1, .int _, _, _ => rfl
  | n + 1, m + 1, .str _, _, h => h
  | n + 1, m + 1, .dict _, _, h => by cases h
  | _ + 1, 0, _, e, _ => absurd e (by omega)
theorem nb_int (i : Int) : Nb (.int i) := rfl
theorem nb_non : Nb .none := rfl
theorem nb_side (b : Bool) : Nb (.str (sideS b)) := by cases b <;> (show nob 60 _ = true; decide +kernel)
theorem nb_list {ds : List D} (h : ∀ d ∈ ds, nob 59 d = true) : Nb (.list ds) := List.all_eq_true.mpr h
theorem nb_listI (ws : List Int) : Nb (.list (ws.map .int)) := nob_ints 59 ws
theorem nb_tupI (ws : List Int) : Nb (.tuple (ws.map .int)) := nob_ints 59 ws
theorem nb_nil : Nb (.list []) := rfl
theorem nb_nilT : Nb (.tuple []) := rfl
theorem nb_dS (x : Tr) : Nb (dS x) := nob_mono 2 60 _ (by omega) (nob_dS x)
theorem nb_ints (h : Ints d ws) : Nb d := by rcases h with rfl | rfl; exact nb_listI _; exact nb_tupI _
theorem nob_side (b : Bool) (n : Nat) : nob n (.str (sideS b)) = true := by
  have : nob 0 (.str (sideS b)) = true := by cases b <;> decide +kernel
  exact nob_mono 0 n _ (by omega) this
theorem nob_prT (p : Bool × Int) (n : Nat) : nob (n + 1) (prT p) = true := by
  show List.all [PyData.str (sideS p.1), .int p.2] (nob n) = true
  rw [List.all_cons, List.all_cons, List.all_nil, nob_side]
  cases n <;> rfl
theorem nb_row (row : List (Bool × Int)) : Nb (.list (row.map prT)) := nb_list fun d hd => by
  obtain ⟨p, _, rfl⟩ := List.mem_map.mp hd
  exact nob_prT p 58
theorem dEq_nb {p : Bool → Bool} {a b : D} (h1 : Nb a) (h2 : Nb b) (q : ∀ c, (c = true ↔ a = b) → R 0 (.bool (p c))) : dEq p R a b := by
  have h0 : shp a ∧ shp b ∧ R 0 (.bool (p (PyData.eqv a b))) := ⟨dep_shp (nob_dep 60 _ h1) (by decide), dep_shp (nob_dep 60 _ h2) (by decide), q _ ⟨eqv_eq 60 _ _ h1 h2, fun e => by rw [e]; exact eqv_self 60 _ (nob_dep 60 _ h2)⟩⟩
  have h3 : ∀ c : Bool, (c = true ↔ a = b) → R 0 (.bool (p c)) := q
  cases a <;> cases b <;> first
    | exact h0
    | exact h3 _ (by simp)
theorem v_eq {r' : Res} (h1 : Hold (Nb r.d)) (h2 : Hold (Nb r'.d)) (q : ∀ c, (c = true ↔ r.d = r'.d) → R 0 (.bool c)) : ap2 oEq r r' R := ap2_op (dEq_nb h1.out h2.out q)
theorem v_ne {r' : Res} (h1 : Hold (Nb r.d)) (h2 : Hold (Nb r'.d)) (q : ∀ c, (c = true ↔ r.d = r'.d) → R 0 (.bool (!c))) : ap2 oNe r r' R := ap2_op (dEq_nb (p := fun b => !b) h1.out h2.out q)
theorem v_eqI {i j : Int} (q : R 0 (.bool (decide (i = j)))) : ap2 oEq (.v k (.int i)) (.v k' (.int j)) R := ap2_op q
theorem v_neI {i j : Int} (q : R 0 (.bool (!decide (i = j)))) : ap2 oNe (.v k (.int i)) (.v k' (.int j)) R := ap2_op q
theorem sideS_r {b : Bool} : decide (sideS b = "right") = b := by cases b <;> decide
theorem sideS_l {b : Bool} : decide (sideS b = "left") = !b := by cases b <;> decide
theorem sideS_e {b c : Bool} : decide (sideS b = sideS c) = (b == c) := by cases b <;> cases c <;> decide
theorem v_eqR {b : Bool} (q : R 0 (.bool b)) : ap2 oEq (.v k (.str (sideS b))) (.v k' (.str "right")) R := ap2_op (by show R 0 (.bool (decide (sideS b = "right"))); rw [sideS_r]; exact q)
theorem v_eqL {b : Bool} (q : R 0 (.bool (!b))) : ap2 oEq (.v k (.str (sideS b))) (.v k' (.str "left")) R := ap2_op (by show R 0 (.bool (decide (sideS b = "left"))); rw [sideS_l]; exact q)
theorem v_eqSS {b c : Bool} (q : R 0 (.bool (b == c))) : ap2 oEq (.v k (.str (sideS b))) (.v k' (.str (sideS c))) R := ap2_op (by show R 0 (.bool (decide (sideS b = sideS c))); rw [sideS_e]; exact q)
theorem v_eqS {x y : Tr} (q : R 0 (.bool (decide (x = y)))) : ap2 oEq (.v k (dS x)) (.v k' (dS y)) R := v_eq (.mk (nb_dS x)) (.mk (nb_dS y)) fun c hc => by
  have : c = decide (x = y) := by
    rw [Bool.eq_iff_iff, hc, decide_eq_true_eq]
    exact ⟨dS_inj, fun e => by show dS x = dS y; rw [e]⟩
  rw [this]; exact q
theorem v_neS {x y : Tr} (q : R 0 (.bool (!decide (x = y)))) : ap2 oNe (.v k (dS x)) (.v k' (dS y)) R := v_ne (.mk (nb_dS x)) (.mk (nb_dS y)) fun c hc => by
  have : c = decide (x = y) := by
    rw [Bool.eq_iff_iff, hc, decide_eq_true_eq]
    exact ⟨dS_inj, fun e => by show dS x = dS y; rw [e]⟩
  rw [this]; exact q
theorem v_eqTT {x y : List Int} (q : R 0 (.bool (decide (x = y)))) : ap2 oEq (.v k (.tuple (x.map .int))) (.v k' (.tuple (y.map .int))) R := v_eq (.mk (nb_tupI x)) (.mk (nb_tupI y)) fun c hc => by
  have : c = decide (x = y) := by
    rw [Bool.eq_iff_iff, hc, decide_eq_true_eq]
    exact ⟨fun h => ints_inj (PyData.tuple.inj h), fun e => by show PyData.tuple _ = _; rw [e]; rfl⟩
  rw [this]; exact q
theorem v_neTT {x y : List Int} (q : R 0 (.bool (!decide (x = y)))) : ap2 oNe (.v k (.tuple (x.map .int))) (.v k' (.tuple (y.map .int))) R := v_ne (.mk (nb_tupI x)) (.mk (nb_tupI y)) fun c hc => by
  have : c = decide (x = y) := by
    rw [Bool.eq_iff_iff, hc, decide_eq_true_eq]
    exact ⟨fun h => ints_inj (PyData.tuple.inj h), fun e => by show PyData.tuple _ = _; rw [e]; rfl⟩
  rw [this]; exact q
theorem v_eqLL {x y : List Int} (q : R 0 (.bool (decide (x = y)))) : ap2 oEq (.v k (.list (x.map .int))) (.v k' (.list (y.map .int))) R := v_eq (.mk (nb_listI x)) (.mk (nb_listI y)) fun c hc => by
  have : c = decide (x = y) := by
    rw [Bool.eq_iff_iff, hc, decide_eq_true_eq]
    exact ⟨fun h => ints_inj (PyData.list.inj h), fun e => by show PyData.list _ = _; rw [e]; rfl⟩
  rw [this]; exact q
theorem v_neLL {x y : List Int} (q : R 0 (.bool (!decide (x = y)))) : ap2 oNe (.v k (.list (x.map .int))) (.v k' (.list (y.map .int))) R := v_ne (.mk (nb_listI x)) (.mk (nb_listI y)) fun c hc => by
  have : c = decide (x = y) := by
    rw [Bool.eq_iff_iff, hc, decide_eq_true_eq]
    exact ⟨fun h => ints_inj (PyData.list.inj h), fun e => by show PyData.list _ = _; rw [e]; rfl⟩
  rw [this]; exact q
/-- what a comparison tells, known ahead -/
theorem sh_d (d : D) : (sh d).d = d := rfl
theorem sh_k (d : D) : (sh d).k = 0 := rfl
theorem dEq_same {p : Bool → Bool} {a : D} (h : dep 60 a = true) (q : R 0 (.bool (p true))) : dEq p R a a := by
  have h0 : shp a ∧ shp a ∧ R 0 (.bool (p (PyData.eqv a a))) := ⟨dep_shp h (by decide), dep_shp h (by decide), by rw [eqv_self 60 a h]; exact q⟩
  cases a <;> first
    | exact h0
    | (show R 0 (.bool (p (decide (_ = _)))); rw [decide_eq_true rfl]; exact q)
def EqD (a b : D) (c : Bool) : Prop := (Nb a ∧ Nb b ∧ (c = true ↔ a = b)) ∨ (a = b ∧ dep 60 a = true ∧ c = true)
theorem v_eqD {a b : D} {c : Bool} (h : EqD a b c) (q : R 0 (.bool c)) : ap2 oEq (.v k a) (.v k' b) R := by
  rcases h with h | ⟨rfl, h, rfl⟩
  · exact v_eq (.mk h.1) (.mk h.2.1) fun c' hc => by
      have : c' = c := by rw [Bool.eq_iff_iff]; exact hc.trans h.2.2.symm
      rw [this]; exact q
  · exact ap2_op (dEq_same h q)
theorem v_neD {a b : D} {c : Bool} (h : EqD a b c) (q : R 0 (.bool (!c))) : ap2 oNe (.v k a) (.v k' b) R := by
  rcases h with h | ⟨rfl, h, rfl⟩
  · exact v_ne (.mk h.1) (.mk h.2.1) fun c' hc => by
      have : c' = c := by rw [Bool.eq_iff_iff]; exact hc.trans h.2.2.symm
      rw [this]; exact q
  · exact ap2_op (dEq_same (p := fun b => !b) h q)
theorem EqD.same {a b : D} (h : a = b) (hd : dep 60 b = true) : EqD a b true := .inr ⟨h, by rw [h]; exact hd, rfl⟩
section
variable {α : Type} {inj : α → D} {xs : List α} {r r' : Res} {R : KC}
theorem nilL : (PyData.list (xs.map inj) = PyData.list []) ↔ xs = [] := ⟨fun h => List.map_eq_nil_iff.mp (PyData.list.inj h), fun h => by rw [h]; rfl⟩
theorem nilT : (PyData.tuple (xs.map inj) = PyData.tuple []) ↔ xs = [] := ⟨fun h => List.map_eq_nil_iff.mp (PyData.tuple.inj h), fun h => by rw [h]; rfl⟩
theorem isE {c : Bool} {p : Prop} (h : c = true ↔ p) (h2 : p ↔ xs = []) : c = xs.isEmpty := by
  rw [Bool.eq_iff_iff, h, h2, List.isEmpty_iff]
theorem v_eqNL (h : r.d = .list (xs.map inj)) (h' : r'.d = .list []) (hn : Hold (Nb (.list (xs.map inj)))) (q : R 0 (.bool xs.isEmpty)) : ap2 oEq r r' R := v_eq (.mk (by rw [h]; exact hn.out)) (.mk (by rw [h']; exact nb_nil)) fun c hc => by rw [h, h'] at hc; rw [isE hc nilL]; exact q
theorem v_neNL (h : r.d = .list (xs.map inj)) (h' : r'.d = .list []) (hn : Hold (Nb (.list (xs.map inj)))) (q : R 0 (.bool (!xs.isEmpty))) : ap2 oNe r r' R := v_ne (.mk (by rw [h]; exact hn.out)) (.mk (by rw [h']; exact nb_nil)) fun c hc => by rw [h, h'] at hc; rw [isE hc nilL]; exact q
theorem v_eqNT (h : r.d = .tuple (xs.map inj)) (h' : r'.d = .tuple []) (hn : Hold (Nb (.tuple (xs.map inj)))) (q : R 0 (.bool xs.isEmpty)) : ap2 oEq r r' R := v_eq (.mk (by rw [h]; exact hn.out)) (.mk (by rw [h']; exact nb_nilT)) fun c hc => by rw [h, h'] at hc; rw [isE hc nilT]; exact q
theorem v_neNT (h : r.d = .tuple (xs.map inj)) (h' : r'.d = .tuple []) (hn : Hold (Nb (.tuple (xs.map inj)))) (q : R 0 (.bool (!xs.isEmpty))) : ap2 oNe r r' R := v_ne (.mk (by rw [h]; exact hn.out)) (.mk (by rw [h']; exact nb_nilT)) fun c hc => by rw [h, h'] at hc; rw [isE hc nilT]; exact q
end
theorem firstAt_int {q : Int} : ∀ {ws : List Int}, q ∈ ws → firstAt (.int q) (ws.map .int) = some (ws.idxOf q)
  | w :: ws, h => by
    rw [List.map_cons, firstAt, List.idxOf_cons]
    have e : PyData.eqv (.int w) (.int q) = (w == q) := by simp [PyData.eqv]
    rw [e]
    by_cases hq : w = q
    · subst hq; simp
    · have h' : q ∈ ws := (List.mem_cons.mp h).elim (fun z => absurd z.symm hq) id
      rw [firstAt_int h']
      have : (w == q) = false := by simp [hq]
      rw [this]; simp
theorem v_index {r : Res} {k : Nat} {q : Int} {ws : List Int} {R : KC} (h : r.d = .list (ws.map .int)) (hf : flat r) (hq : Hold (q ∈ ws)) (qq : R 0 (.int (ws.idxOf q : Nat))) : ap2 oIndex r (.v k (.int q)) R := ap2_op (by
  show dIndex (flat r) (.int q) R r.d
  rw [h]
  exact ⟨⟨hf, rfl, flat_ints ws⟩, _, firstAt_int hq.out, qq⟩)
theorem v_revL {α : Type} {inj : α → D} {xs : List α} {r : Res} {R : KC} (h : r.d = .list (xs.map inj)) (hf : flat r) (q : R 1 (.list (xs.reverse.map inj))) : ap1 (oStpA (some (-1))) r R := ap1_op (by
  show dStp (flat r) (-1) R r.d
  rw [h]
  refine ⟨⟨hf, .inr rfl⟩, ?_⟩
  rw [if_neg (by decide), ← List.map_reverse]; exact q)
theorem v_revT {α : Type} {inj : α → D} {xs : List α} {r : Res} {R : KC} (h : r.d = .tuple (xs.map inj)) (hf : flat r) (q : R 0 (.tuple (xs.reverse.map inj))) : ap1 (oStpA (some (-1))) r R := ap1_op (by
  show dStp (flat r) (-1) R r.d
  rw [h]
  refine ⟨.inr rfl, ?_⟩
  rw [if_neg (by decide), ← List.map_reverse]; exact q)
theorem sIx_nn {n d : Nat} {k : Int} (h : 0 ≤ k) : HT.sIx n d (some k) = min k.toNat n := by
  show (if k < 0 then (k + (n : Int)).toNat else min k.toNat n) = _
  rw [if_neg (by omega)]
theorem cut_to {α : Type} {xs : List α} {k : Int} (h : 0 ≤ k) : cut xs none (some k) = xs.take k.toNat := by
  unfold cut
  rw [sIx_nn h]
  show (xs.drop 0).take (min k.toNat xs.length - 0) = _
  rw [List.drop_zero, Nat.sub_zero]
  by_cases hk : k.toNat ≤ xs.length
  · rw [Nat.min_eq_left hk]
  · rw [Nat.min_eq_right (by omega), List.take_of_length_le (Nat.le_refl _), List.take_of_length_le (by omega)]
theorem cut_from {α : Type} {xs : List α} {k : Int} (h : 0 ≤ k) : cut xs (some k) none = xs.drop k.toNat := by
  unfold cut
  rw [sIx_nn h]
  show (xs.drop (min k.toNat xs.length)).take (xs.length - min k.toNat xs.length) = _
  by_cases hk : k.toNat ≤ xs.length
  · rw [Nat.min_eq_left hk, List.take_of_length_le (by rw [List.length_drop]; omega)]
  · rw [Nat.min_eq_right (by omega), List.drop_of_length_le (Nat.le_refl _), List.drop_of_length_le (by omega), List.take_nil]
section
variable {α : Type} {inj : α → D} {xs ys : List α} {r r' : Res} {R : KC} {k : Int}
theorem cut_in {α : Type} {xs : List α} {i j : Int} (h : 0 ≤ i) (h' : 0 ≤ j) : cut xs (some i) (some j) = (xs.drop i.toNat).take (j.toNat - i.toNat) := by
  unfold cut
  rw [sIx_nn h, sIx_nn h']
  by_cases hi : i.toNat ≤ xs.length
  · rw [Nat.min_eq_left hi]
    by_cases hj : j.toNat ≤ xs.length
    · rw [Nat.min_eq_left hj]
    · rw [Nat.min_eq_right (by omega), List.take_of_length_le (by rw [List.length_drop]; omega), List.take_of_length_le (by rw [List.length_drop]; omega)]
  · rw [List.drop_eq_nil_of_le (by omega), List.drop_eq_nil_of_le (by omega)]; simp
theorem cut_but {α : Type} {xs : List α} : cut xs none (some (-1)) = xs.dropLast := by
  unfold cut
  have h : HT.sIx xs.length xs.length (some (-1)) = xs.length - 1 := by
    show (if (-1 : Int) < 0 then ((-1 : Int) + (xs.length : Int)).toNat else min (-1 : Int).toNat xs.length) = _
    rw [if_pos (by decide)]; omega
  rw [h, List.dropLast_eq_take]
  rfl
theorem v_slButL (h : r.d = .list (xs.map inj)) (hf : flat r) (q : R 1 (.list (xs.dropLast.map inj))) : ap1 (oSlA none (some (-1))) r R := ap1_op (by
  show dSl (flat r) none (some (-1)) R r.d
  rw [h]
  refine ⟨hf, ?_⟩
  rw [cut_but, List.dropLast_eq_take, List.length_map, ← List.map_take, ← List.dropLast_eq_take]; exact q)
theorem v_slButT (h : r.d = .tuple (xs.map inj)) (q : R 0 (.tuple (xs.dropLast.map inj))) : ap1 (oSlA none (some (-1))) r R := ap1_op (by
  show dSl (flat r) none (some (-1)) R r.d
  rw [h]
  show R 0 (.tuple (cut _ _ _))
  rw [cut_but, List.dropLast_eq_take, List.length_map, ← List.map_take, ← List.dropLast_eq_take]; exact q)
theorem sIx_m1 {n d : Nat} : HT.sIx n d (some (-1)) = n - 1 := by
  show (if (-1 : Int) < 0 then ((-1 : Int) + (n : Int)).toNat else min (-1 : Int).toNat n) = _
  rw [if_pos (by decide)]; omega
theorem cut_mid {α : Type} {xs : List α} : cut xs (some 1) (some (-1)) = (xs.drop 1).dropLast := by
  unfold cut
  rw [sIx_m1, sIx_nn (by decide), List.dropLast_eq_take, List.length_drop]
  cases xs with
  | nil => rfl
  | cons a xs =>
    rw [show min (1 : Int).toNat (a :: xs).length = 1 by rw [List.length_cons]; show min 1 (xs.length + 1) = 1; omega]
theorem cut_last {α : Type} {xs : List α} : cut xs (some (-1)) none = xs.drop (xs.length - 1) := by
  unfold cut
  rw [sIx_m1]
  show (xs.drop (xs.length - 1)).take (xs.length - (xs.length - 1)) = _
  rw [List.take_of_length_le (by rw [List.length_drop]; omega)]
theorem v_slMidL (h : r.d = .list (xs.map inj)) (hf : flat r) (q : R 1 (.list ((xs.drop 1).dropLast.map inj))) : ap1 (oSlA (some 1) (some (-1))) r R := ap1_op (by
  show dSl (flat r) (some 1) (some (-1)) R r.d
  rw [h]
  refine ⟨hf, ?_⟩
  rw [cut_mid, ← List.map_drop, List.dropLast_eq_take, List.length_map, ← List.map_take, ← List.dropLast_eq_take]; exact q)
theorem v_slLastL (h : r.d = .list (xs.map inj)) (hf : flat r) (q : R 1 (.list ((xs.drop (xs.length - 1)).map inj))) : ap1 (oSlA (some (-1)) none) r R := ap1_op (by
  show dSl (flat r) (some (-1)) none R r.d
  rw [h]
  refine ⟨hf, ?_⟩
  rw [cut_last, List.length_map, ← List.map_drop]; exact q)
theorem v_slInL {i : Int} (h : r.d = .list (xs.map inj)) (hf : flat r) (h0 : Hold (0 ≤ i)) (h1 : Hold (0 ≤ k)) (q : R 1 (.list (((xs.drop i.toNat).take (k.toNat - i.toNat)).map inj))) : ap1 (oSlA (some i) (some k)) r R := ap1_op (by
  show dSl (flat r) (some i) (some k) R r.d
  rw [h]
  refine ⟨hf, ?_⟩
  rw [cut_in h0.out h1.out, ← List.map_drop, ← List.map_take]; exact q)
theorem v_slInT {i : Int} (h : r.d = .tuple (xs.map inj)) (h0 : Hold (0 ≤ i)) (h1 : Hold (0 ≤ k)) (q : R 0 (.tuple (((xs.drop i.toNat).take (k.toNat - i.toNat)).map inj))) : ap1 (oSlA (some i) (some k)) r R := ap1_op (by
  show dSl (flat r) (some i) (some k) R r.d
  rw [h]
  show R 0 (.tuple (cut _ _ _))
  rw [cut_in h0.out h1.out, ← List.map_drop, ← List.map_take]; exact q)
theorem v_slToL (h : r.d = .list (xs.map inj)) (hf : flat r) (h0 : Hold (0 ≤ k)) (q : R 1 (.list ((xs.take k.toNat).map inj))) : ap1 (oSlA none (some k)) r R := ap1_op (by
  show dSl (flat r) none (some k) R r.d
  rw [h]
  refine ⟨hf, ?_⟩
  rw [cut_to h0.out, ← List.map_take]; exact q)
theorem v_slToT (h : r.d = .tuple (xs.map inj)) (hf : flat r) (h0 : Hold (0 ≤ k)) (q : R 0 (.tuple ((xs.take k.toNat).map inj))) : ap1 (oSlA none (some k)) r R := ap1_op (by
  show dSl (flat r) none (some k) R r.d
  rw [h]
  show R 0 (.tuple (cut _ _ _))
  rw [cut_to h0.out, ← List.map_take]; exact q)
theorem v_slFromL (h : r.d = .list (xs.map inj)) (hf : flat r) (h0 : Hold (0 ≤ k)) (q : R 1 (.list ((xs.drop k.toNat).map inj))) : ap1 (oSlA (some k) none) r R := ap1_op (by
  show dSl (flat r) (some k) none R r.d
  rw [h]
  refine ⟨hf, ?_⟩
  rw [cut_from h0.out, ← List.map_drop]; exact q)
theorem v_slFromT (h : r.d = .tuple (xs.map inj)) (hf : flat r) (h0 : Hold (0 ≤ k)) (q : R 0 (.tuple ((xs.drop k.toNat).map inj))) : ap1 (oSlA (some k) none) r R := ap1_op (by
  show dSl (flat r) (some k) none R r.d
  rw [h]
  show R 0 (.tuple (cut _ _ _))
  rw [cut_from h0.out, ← List.map_drop]; exact q)
end
theorem v_catL {α : Type} {inj : α → D} {xs ys : List α} {r r' : Res} {R : KC} (h : r.d = .list (xs.map inj)) (h' : r'.d = .list (ys.map inj)) (hf : flat r) (hf' : flat r') (hl : Hold (xs.length + ys.length ≤ 2 ^ 20)) (q : R 1 (.list ((xs ++ ys).map inj))) : ap2 oAdd r r' R := ap2_op (by
  show dAdd (flat r) (flat r') R r.d r'.d
  rw [h, h']
  refine ⟨⟨hf, hf', by rw [List.length_map, List.length_map]; exact Nat.le_trans hl.out (by decide)⟩, ?_⟩
  rw [← List.map_append]; exact q)
theorem v_catT {α : Type} {inj : α → D} {xs ys : List α} {r r' : Res} {R : KC} (h : r.d = .tuple (xs.map inj)) (h' : r'.d = .tuple (ys.map inj)) (hf : flat r) (hf' : flat r') (hl : Hold (xs.length + ys.length ≤ 2 ^ 20)) (q : R 0 (.tuple ((xs ++ ys).map inj))) : ap2 oAdd r r' R := ap2_op (by
  show dAdd (flat r) (flat r') R r.d r'.d
  rw [h, h']
  refine ⟨by rw [List.length_map, List.length_map]; exact Nat.le_trans hl.out (by decide), ?_⟩
  rw [← List.map_append]; exact q)
theorem v_catIL {a b : List D} {xs ys : List Int} {r r' : Res} {R : KC} (h : r.d = .list a) (h' : r'.d = .list b) (ha : IL a xs) (hb : IL b ys) (hf : flat r) (hf' : flat r') (hl : Hold (xs.length + ys.length ≤ 2 ^ 20)) (q : R 1 (.list ((xs ++ ys).map .int))) : ap2 oAdd r r' R :=
  v_catL (inj := .int) (by rw [h, ha.eq]) (by rw [h', hb.eq]) hf hf' hl q
theorem v_catIT {a b : List D} {xs ys : List Int} {r r' : Res} {R : KC} (h : r.d = .tuple a) (h' : r'.d = .tuple b) (ha : IL a xs) (hb : IL b ys) (hf : flat r) (hf' : flat r') (hl : Hold (xs.length + ys.length ≤ 2 ^ 20)) (q : R 0 (.tuple ((xs ++ ys).map .int))) : ap2 oAdd r r' R :=
  v_catT (inj := .int) (by rw [h, ha.eq]) (by rw [h', hb.eq]) hf hf' hl q
theorem pos_of_ne {α : Type} {xs : List α} (h : xs.isEmpty = false) : 0 < xs.length := by
  cases xs with
  | nil => cases h
  | cons _ _ => exact Nat.succ_pos _
theorem flt_le {α : Type} {p : α → Bool} {xs : List α} {n : Nat} (h : xs.length ≤ n) : (xs.filter p).length ≤ n := Nat.le_trans (List.length_filter_le _ _) h
theorem flt_lt {α : Type} {p : α → Bool} {xs : List α} {n : Nat} (h : xs.length < n) : (xs.filter p).length < n := Nat.lt_of_le_of_lt (List.length_filter_le _ _) h
theorem rngDn_eq (a b : Int) : rngDn a b = ((irange (b + 1) (a + 1)).reverse).map .int := by
  unfold rngDn
  refine List.ext_getElem? fun i => ?_
  by_cases hi : i < (a - b).toNat
  · rw [List.getElem?_map, List.getElem?_range hi, List.getElem?_map, List.getElem?_reverse (by rw [irange_len]; omega), irange_len, irange_get (by omega)]
    show some (PyData.int _) = some (PyData.int _)
    congr 2; omega
  · rw [List.getElem?_eq_none (by rw [List.length_map, List.length_range]; omega), List.getElem?_eq_none (by rw [List.length_map, List.length_reverse, irange_len]; omega)]
theorem ev_rgdn {a b : Int} {P : Prop} (h1 : Hold (-(2 ^ 62) ≤ b ∧ a < 2 ^ 62)) (h2 : Hold (-(2 ^ 62) ≤ a ∧ b < 2 ^ 62 ∧ (a - b).toNat ≤ 2 ^ 24)) (q : P) : RgDn a b ∧ P := ⟨⟨h2.out.1, h1.out.2, h1.out.1, h2.out.2.1, h2.out.2.2⟩, q⟩
/-! ### what is walked -/
theorem v_seq {P : Res → List D → Prop} (h : Sq d ds) (q : ∀ k' d', P (.v k' d') ds) : ovr (overSeq (.v k d) P) d := ovr_op (by
  rcases h with rfl | rfl
  · exact ⟨trivial, q _ _⟩
  · exact q _ _)
theorem v_enum {P : List D → Prop} (h : Ints d ws) (q : P ((enumI 0 ws).map prII)) : ovr (overEnum P) d := ovr_op (enum_ints h q)
theorem v_enumM {α : Type} {inj : α → D} {xs : List α} {d : D} {P : List D → Prop} (h : d = .list (xs.map inj) ∨ d = .tuple (xs.map inj)) (q : P ((enumI 0 xs).map fun p => prI (p.1, inj p.2))) : ovr (overEnum P) d := ovr_op (by
  have e : enumD 0 (xs.map inj) = (enumI 0 xs).map fun p => prI (p.1, inj p.2) := by
    rw [enumD_eq, enumI_map, List.map_map]; rfl
  rcases h with rfl | rfl <;> (show P _; rw [e]; exact q))
theorem v_isT : ∀ {r : Res} {R : KC}, isP r.d (R 0 (.bool (match r.d with | .tuple _ => true | _ => false))) → ap1 (oIsi ["tuple"]) r R := by
  intro r R h
  refine ap1_op ?_
  show isP r.d (R 0 (.bool _))
  have : ((["tuple"] : List String).any fun T => isiD T r.d) = (match r.d with | .tuple _ => true | _ => false) := by
    rw [List.any_cons, List.any_nil, Bool.or_false]
    cases hr : r.d with
    | dict kvs => simp only [isiD, tyD]; cases isScr kvs <;> decide +kernel
    | _ => first | rfl | decide +kernel
  rw [this]; exact h
theorem v_isL : ∀ {r : Res} {R : KC}, isP r.d (R 0 (.bool (match r.d with | .list _ => true | .dict kvs => isScr kvs | _ => false))) → ap1 (oIsi ["list"]) r R := by
  intro r R h
  refine ap1_op ?_
  show isP r.d (R 0 (.bool _))
  have : ((["list"] : List String).any fun T => isiD T r.d) = (match r.d with | .list _ => true | .dict kvs => isScr kvs | _ => false) := by
    rw [List.any_cons, List.any_nil, Bool.or_false]
    cases hr : r.d with
    | dict kvs => simp only [isiD, tyD]; cases isScr kvs <;> decide +kernel
    | _ => first | rfl | decide +kernel
  rw [this]; exact h
theorem v_isS : ∀ {r : Res} {R : KC}, isP r.d (R 0 (.bool (match r.d with | .str _ => true | _ => false))) → ap1 (oIsi ["str"]) r R := by
  intro r R h
  refine ap1_op ?_
  show isP r.d (R 0 (.bool _))
  have : ((["str"] : List String).any fun T => isiD T r.d) = (match r.d with | .str _ => true | _ => false) := by
    rw [List.any_cons, List.any_nil, Bool.or_false]
    cases hr : r.d with
    | dict kvs => simp only [isiD, tyD]; cases isScr kvs <;> decide +kernel
    | _ => first | rfl | decide +kernel
  rw [this]; exact h
theorem v_isB : ∀ {r : Res} {R : KC}, isP r.d (R 0 (.bool (match r.d with | .bool _ => true | _ => false))) → ap1 (oIsi ["bool"]) r R := by
  intro r R h
  refine ap1_op ?_
  show isP r.d (R 0 (.bool _))
  have : ((["bool"] : List String).any fun T => isiD T r.d) = (match r.d with | .bool _ => true | _ => false) := by
    rw [List.any_cons, List.any_nil, Bool.or_false]
    cases hr : r.d with
    | dict kvs => simp only [isiD, tyD]; cases isScr kvs <;> decide +kernel
    | _ => first | rfl | decide +kernel
  rw [this]; exact h
theorem v_isI : ∀ {r : Res} {R : KC}, isP r.d (R 0 (.bool (match r.d with | .bool _ => true | .int _ => true | _ => false))) → ap1 (oIsi ["int"]) r R := by
  intro r R h
  refine ap1_op ?_
  show isP r.d (R 0 (.bool _))
  have : ((["int"] : List String).any fun T => isiD T r.d) = (match r.d with | .bool _ => true | .int _ => true | _ => false) := by
    rw [List.any_cons, List.any_nil, Bool.or_false]
    cases hr : r.d with
    | dict kvs => simp only [isiD, tyD]; cases isScr kvs <;> decide +kernel
    | _ => first | rfl | decide +kernel
  rw [this]; exact h
theorem v_isLT : ∀ {r : Res} {R : KC}, isP r.d (R 0 (.bool (match r.d with | .list _ => true | .tuple _ => true | .dict kvs => isScr kvs | _ => false))) → ap1 (oIsi ["list", "tuple"]) r R := by
  intro r R h
  refine ap1_op ?_
  show isP r.d (R 0 (.bool _))
  have : ((["list", "tuple"] : List String).any fun T => isiD T r.d) = (match r.d with | .list _ => true | .tuple _ => true | .dict kvs => isScr kvs | _ => false) := by
    rw [List.any_cons, List.any_cons, List.any_nil, Bool.or_false]
    cases hr : r.d with
    | dict kvs => simp only [isiD, tyD]; cases isScr kvs <;> decide +kernel
    | _ => first | rfl | decide +kernel
  rw [this]; exact h
end
theorem v_rep {r : Res} {R : KC} {ds : List D} {n : Int} {k : Nat} (h : r.d = .list ds) (hf : flat r) (h1 : Hold (-(2 ^ 63) ≤ n)) (h2 : Hold (n < 2 ^ 63)) (h3 : Hold (ds.length * n.toNat ≤ 2 ^ 20)) (q : R 1 (.list (List.replicate n.toNat ds).flatten)) : ap2 oMulA r (.v k (.int n)) R := ap2_op (by
  show dMulA (flat r) R r.d (.int n)
  rw [h]
  exact ⟨⟨hf, h1.out, h2.out, Nat.le_trans h3.out (by decide)⟩, q⟩)
theorem v_repT {r : Res} {R : KC} {d : D} {n k' : Nat} (h : r.d = .tuple [d]) (h1 : Hold (1 ≤ n)) (h2 : Hold (n ≤ 1000)) (q : R 0 (.tuple (List.replicate n d))) : ap2 oMulA r (.v k' (.int (n : Int))) R := ap2_op (by
  show dMulA (flat r) R r.d (.int n)
  rw [h]
  have := h1.out
  have := h2.out
  refine ⟨⟨List.cons_ne_nil _ _, by omega, by omega, show 1 ≤ 1000 by decide⟩, ?_⟩
  rw [Int.toNat_natCast]
  have e : (List.replicate n [d]).flatten = List.replicate n d := by
    clear q h1 h2
    induction n with
    | zero => rfl
    | succ n ih => cases n with
      | zero => rfl
      | succ n => rw [List.replicate_succ, List.flatten_cons, ih (by omega) (by omega), List.replicate_succ (n := n + 1)]; rfl
  rw [e]
  exact q)
theorem v_mulR {R : KC} {i j : Int} {k k' : Nat} (h1 : Hold (-(2 ^ 64) < j)) (h2 : Hold (j < 2 ^ 64)) (q : R 0 (.int (i * j))) : ap2 oMulA (.v k (.int i)) (.v k' (.int j)) R := ap2_op ⟨cmr h1.out h2.out, q⟩
theorem v_mulL {R : KC} {i j : Int} {k k' : Nat} (h1 : Hold (-(2 ^ 64) < i)) (h2 : Hold (i < 2 ^ 64)) (q : R 0 (.int (i * j))) : ap2 oMulA (.v k (.int i)) (.v k' (.int j)) R := ap2_op ⟨cml h1.out h2.out, q⟩
theorem ev_rg {lo hi : Int} {P : Prop} (h1 : Hold (-(2 ^ 62) ≤ lo)) (h2 : Hold (hi < 2 ^ 62)) (h3 : Hold (-(2 ^ 62) ≤ hi ∧ lo < 2 ^ 62 ∧ (hi - lo).toNat ≤ 2 ^ 24)) (q : P) : RgOk lo hi ∧ P := ⟨⟨h1.out, h3.out.2.1, h3.out.1, h2.out, h3.out.2.2⟩, q⟩
theorem ev_r1 {n : Int} {P : Prop} (h1 : Hold (-(2 ^ 62) ≤ n)) (h2 : Hold (n < 2 ^ 62)) (q : P) : (-(2 ^ 62) ≤ n ∧ n < 2 ^ 62) ∧ P := ⟨⟨h1.out, h2.out⟩, q⟩
theorem ev_r2 {m n : Int} {P : Prop} (h1 : Hold (-(2 ^ 62) ≤ m)) (h2 : Hold (m < 2 ^ 62)) (h3 : Hold (-(2 ^ 62) ≤ n)) (h4 : Hold (n < 2 ^ 62)) (q : P) : (-(2 ^ 62) ≤ m ∧ m < 2 ^ 62 ∧ -(2 ^ 62) ≤ n ∧ n < 2 ^ 62) ∧ P := ⟨⟨h1.out, h2.out, h3.out, h4.out⟩, q⟩
theorem ev_pow {i j : Int} {P : Prop} (h : 0 ≤ j ∧ j ≤ 1000000 ∧ i.natAbs < 2 ^ 64) (q : P) : CPow i j ∧ P := ⟨h, q⟩
theorem ev_sz {n : Nat} {P : Prop} (h1 : Hold (n ≤ 2 ^ 20)) (q : P) : n < sizeLine ∧ P := ⟨Nat.lt_of_le_of_lt h1.out (by decide), q⟩
theorem ev_szl {n : Nat} {P : Prop} (h1 : Hold (n ≤ 2 ^ 20)) (q : P) : n ≤ sizeLine ∧ P := ⟨Nat.le_trans h1.out (by decide), q⟩
/-! ### things of few levels -/
def okDs (n : Nat) (ds : List D) : Prop := ∀ d ∈ ds, okD n d
theorem okDs_nil {n : Nat} : okDs n [] := fun d h => by cases h
theorem okDs_cons {n : Nat} {d : D} {ds : List D} (h : okD n d) (h' : okDs n ds) : okDs n (d :: ds) := fun e he => by
  rcases List.mem_cons.mp he with rfl | he
  · exact h
  · exact h' e he
theorem okDs_map {α : Type} {n : Nat} {inj : α → D} {xs : List α} (h : ∀ x ∈ xs, okD n (inj x)) : okDs n (xs.map inj) := fun e he => by
  obtain ⟨x, hx, rfl⟩ := List.mem_map.mp he
  exact h x hx
theorem okD_L {n : Nat} {ds : List D} (hl : Hold (ds.length ≤ 2 ^ 20)) (h : okDs n ds) : okD (n + 1) (.list ds) := okD_list hl.out h
theorem okD_T {n : Nat} {ds : List D} (hl : Hold (ds.length ≤ 2 ^ 20)) (h : okDs n ds) : okD (n + 1) (.tuple ds) := okD_tup hl.out h
theorem okD_dS {n : Nat} {x : Tr} (h : Hold (x.2.1.length ≤ 2 ^ 20)) : okD (n + 2) (dS x) := okD_std h.out
theorem okD_non {n : Nat} : okD n .none := by cases n <;> exact ⟨rfl, rfl⟩
theorem okD_side {n : Nat} {b : Bool} : okD n (.str (sideS b)) := by
  have h : dep 0 (.str (sideS b)) = true := by cases b <;> decide +kernel
  exact ⟨dep_mono 0 n _ (by omega) h, by cases n <;> rfl⟩
/-! ### loops and comprehensions -/
/-- a comprehension that keeps those that p holds of, as g has them -/
theorem lc_fm {α : Type} (inj : α → D) (p : α → Bool) (g : α → D) {own : List Nat} {tg : FG} {ft : FT} {fe : FE} {r : Res} {R : List D → Pv.Env → Prop} {E : Pv.Env} {X : List α}
    (step : ∀ x acc (N : List D → Pv.Env → Prop), x ∈ X → acc.length < sizeLine → (p x = true → N (acc ++ [g x]) E) → (p x = false → N acc E) →
      toEnv (fun e1 => ft e1 fun b e2 => match b with
        | true => fe e2 fun ry e3 => noB [ry] ∧ acc.length < sizeLine ∧ N (acc ++ [ry.d]) (wipeE e3 own)
        | false => N acc (wipeE e2 own)) (tg (inj x) E)) (ok : okb E r) (hl : Hold (X.length ≤ sizeLine)) (fin : R ((X.filter p).map g) E) : apL (lcGo own tg ft fe r R) (X.map inj) [] E := by
  have ef : ∀ l : List α, l.filterMap (fun x => if p x then some (g x) else none) = (l.filter p).map g := fun l => by
    induction l with
    | nil => rfl
    | cons a l ih =>
      rw [List.filterMap_cons, List.filter_cons]
      cases h : p a with
      | true => simp [h, ih]
      | false => simp [h, ih]
  refine apL_op (lc_map inj (fun x => if p x then some (g x) else none) (fun x acc N hx hl hN => step x acc N hx hl (fun h => ?_) (fun h => ?_)) ok (by rw [ef]; exact fin) hl.out)
  · rw [if_pos h] at hN; exact hN
  · rw [if_neg (by rw [h]; decide)] at hN; rw [Option.toList_none, List.append_nil] at hN; exact hN
theorem lc_mp {α : Type} (inj : α → D) (g : α → D) {own : List Nat} {tg : FG} {ft : FT} {fe : FE} {r : Res} {R : List D → Pv.Env → Prop} {E : Pv.Env} {X : List α}
    (step : ∀ x acc (N : List D → Pv.Env → Prop), x ∈ X → acc.length < sizeLine → N (acc ++ [g x]) E →
      toEnv (fun e1 => ft e1 fun b e2 => match b with
        | true => fe e2 fun ry e3 => noB [ry] ∧ acc.length < sizeLine ∧ N (acc ++ [ry.d]) (wipeE e3 own)
        | false => N acc (wipeE e2 own)) (tg (inj x) E)) (ok : okb E r) (hl : Hold (X.length ≤ sizeLine)) (fin : R (X.map g) E) : apL (lcGo own tg ft fe r R) (X.map inj) [] E :=
  lc_fm inj (fun _ => true) g (fun x acc N hx hl h _ => step x acc N hx hl (h rfl)) ok hl (by rw [List.filter_eq_self.mpr fun _ _ => rfl]; exact fin)
/-- .. when something is carried along -/
theorem lc_st {α : Type} (inj : α → D) {own : List Nat} {g : FG} {ft : FT} {fe : FE} {r : Res} {R : List D → Pv.Env → Prop} {E0 : Pv.Env} {acc0 : List D} {xs0 : List α} (Inv : List α → List D → Pv.Env → Pv.Env → Prop) (st : Inv xs0 acc0 E0 E0)
    (ok : ∀ xs acc e, Inv xs acc E0 e → okb e r)
    (step : ∀ x xs acc e (N : List D → Pv.Env → Prop), Inv (x :: xs) acc E0 e → (∀ acc' e', Inv xs acc' E0 e' → N acc' e') →
      toEnv (fun e1 => ft e1 fun b e2 => match b with
        | true => fe e2 fun ry e3 => noB [ry] ∧ acc.length < sizeLine ∧ N (acc ++ [ry.d]) (wipeE e3 own)
        | false => N acc (wipeE e2 own)) (g (inj x) e)) (fin : ∀ acc e, Inv [] acc E0 e → R acc e) : apL (lcGo own g ft fe r R) (xs0.map inj) acc0 E0 :=
  apL_op <| lc_inv inj (fun xs acc e => Inv xs acc E0 e) ok step fin xs0 acc0 E0 st
/-- a loop, from the slots as they stand ahead of it -/
theorem for_st {α : Type} (inj : α → D) {g : FG} {body : FS} {k : Kt} {xs0 : List α} {E0 : Pv.Env} (Inv : List α → Pv.Env → Pv.Env → Prop) (st : Inv xs0 E0 E0)
    (step : ∀ x xs e (N : Pv.Env → Prop), Inv (x :: xs) E0 e → (∀ e', Inv xs E0 e' → N e') → toEnv (fun e1 => body e1 { k with nx := N, ct := N, bk := k.nx }) (g (inj x) e)) (fin : ∀ e, Inv [] E0 e → k.nx e) : apF (forGo g body k) (xs0.map inj) E0 :=
  apF_op <| for_inv inj (fun xs e => Inv xs E0 e) step fin xs0 E0 st
/-- .. the continuations being opaque: a long body is quicker so -/
theorem for_sk {α : Type} (inj : α → D) {g : FG} {body : FS} {k : Kt} {xs0 : List α} {E0 : Pv.Env} (Inv : List α → Pv.Env → Pv.Env → Prop) (st : Inv xs0 E0 E0)
    (step : ∀ x xs e (kk : Kt), kk.rt = k.rt → kk.bk = k.nx → Inv (x :: xs) E0 e → (∀ e', Inv xs E0 e' → kk.nx e') → toEnv (fun e1 => body e1 kk) (g (inj x) e)) (fin : ∀ e, Inv [] E0 e → k.nx e) : apF (forGo g body k) (xs0.map inj) E0 :=
  for_st inj Inv st (fun x xs e N hI hN => step x xs e { k with nx := N, ct := N, bk := k.nx } rfl rfl hI hN) fin
theorem toEnv_go {P : Pv.Env → Prop} {o : Option Pv.Env} {e : Pv.Env} (h : o = some e) (q : P e) : toEnv P o := by subst h; exact q
theorem toEnv_gT {P : Pv.Env → Prop} {n : Nat} {gs : FGs} {ds : List D} {e e' : Pv.Env} (h : ds.length = n) (h2 : gs ds e = some e') (q : P e') : toEnv P (gT n gs (.tuple ds) e) := by
  show toEnv P (unpk n gs (.tuple ds) e)
  rw [unpk_t, if_pos h, h2]; exact q
/-! ### repr: the text is looked at as a whole -/
@[irreducible] def shw (d : D) : Str := d.shown
theorem shw_eq (d : D) : shw d = d.shown := by unfold shw; rfl
/-- data of at most m layers and n signs -/
structure Rep (m n : Nat) (d : D) : Prop where
  lay : d.canLay0 = true
  sh : d.showable = true
  dp : d.depth ≤ m
  len : d.shown.length ≤ n
theorem Rep.mono {m n m' n' : Nat} {d : D} (h : Rep m n d) (h1 : m ≤ m') (h2 : n ≤ n') : Rep m' n' d := ⟨h.lay, h.sh, Nat.le_trans h.dp h1, Nat.le_trans h.len h2⟩
theorem Rep.int {i : Int} (h : i.natAbs < 10 ^ 19) : Rep 0 20 (.int i) := ⟨rfl, by
  show decide (i.natAbs.log2 < 1920) = true
  rw [decide_eq_true_eq]
  have : i.natAbs < 2 ^ 1920 := Nat.lt_of_lt_of_le h (by decide)
  by_cases h0 : i.natAbs = 0
  · rw [h0]; decide
  · exact (Nat.log2_lt h0).mpr this, Nat.le_refl 0, by
  have e := int_text_length_le10 (k := 19) (by decide) h
  show (Str.ofString (toString i)).length ≤ 20
  rw [PySem.ofString_length]; exact e⟩
theorem Rep.side {b : Bool} : Rep 0 20 (.str (sideS b)) := by
  cases b <;> exact ⟨by decide +kernel, by decide +kernel, by decide +kernel, by decide +kernel⟩
theorem rep_lay {m n : Nat} : ∀ {ds : List D}, (∀ d ∈ ds, Rep m n d) → PyData.canLayAll0 ds = true ∧ PyData.showableAll ds = true ∧ PyData.depthAll ds ≤ m ∧ ((PyData.shownAll ds).map (·.length)).sum ≤ n * ds.length
  | [], _ => ⟨rfl, rfl, Nat.zero_le _, Nat.zero_le _⟩
  | d :: ds, h => by
    obtain ⟨h1, h2, h3, h4⟩ := rep_lay (ds := ds) fun x hx => h x (List.mem_cons_of_mem _ hx)
    have g := h d (List.mem_cons_self ..)
    refine ⟨?_, ?_, ?_, ?_⟩
    · show (PyData.canLay0 d && PyData.canLayAll0 ds) = true
      rw [g.lay, h1]; rfl
    · show (PyData.showable d && PyData.showableAll ds) = true
      rw [g.sh, h2]; rfl
    · exact Nat.max_le.mpr ⟨g.dp, h3⟩
    · show d.shown.length + ((PyData.shownAll ds).map (·.length)).sum ≤ n * (ds.length + 1)
      have := g.len
      rw [Nat.mul_add]; omega
theorem Rep.list {m n : Nat} {ds : List D} (h : ∀ d ∈ ds, Rep m n d) : Rep (m + 1) ((n + 2) * ds.length + 3) (.list ds) := by
  obtain ⟨h1, h2, h3, h4⟩ := rep_lay h
  have h5 := listText_len_le (PyData.shownAll ds)
  have h6 := PyData.shownAll_length ds
  refine ⟨h1, h2, Nat.succ_le_succ h3, ?_⟩
  show (listText (PyData.shownAll ds)).length ≤ _
  rw [h6] at h5
  rw [Nat.add_mul]; omega
theorem Rep.tuple {m n : Nat} {ds : List D} (h : ∀ d ∈ ds, Rep m n d) : Rep (m + 1) ((n + 2) * ds.length + 3) (.tuple ds) := by
  obtain ⟨h1, h2, h3, h4⟩ := rep_lay h
  have h5 := tupleText_len_le (PyData.shownAll ds)
  have h6 := PyData.shownAll_length ds
  refine ⟨h1, h2, Nat.succ_le_succ h3, ?_⟩
  show (tupleText (PyData.shownAll ds)).length ≤ _
  rw [h6] at h5
  rw [Nat.add_mul]; omega
theorem Rep.listM {α : Type} {inj : α → D} {m n l : Nat} {xs : List α} (hl : xs.length ≤ l) (h : ∀ x ∈ xs, Rep m n (inj x)) : Rep (m + 1) ((n + 2) * l + 3) (.list (xs.map inj)) :=
  (Rep.list (m := m) (n := n) fun d hd => by obtain ⟨x, hx, rfl⟩ := List.mem_map.mp hd; exact h x hx).mono (Nat.le_refl _) (by rw [List.length_map]; have := Nat.mul_le_mul_left (n + 2) hl; omega)
theorem Rep.tupleM {α : Type} {inj : α → D} {m n l : Nat} {xs : List α} (hl : xs.length ≤ l) (h : ∀ x ∈ xs, Rep m n (inj x)) : Rep (m + 1) ((n + 2) * l + 3) (.tuple (xs.map inj)) :=
  (Rep.tuple (m := m) (n := n) fun d hd => by obtain ⟨x, hx, rfl⟩ := List.mem_map.mp hd; exact h x hx).mono (Nat.le_refl _) (by rw [List.length_map]; have := Nat.mul_le_mul_left (n + 2) hl; omega)
theorem Rep.ints {l : Nat} {ws : List Int} (hl : ws.length ≤ l) (h : ∀ x ∈ ws, x.natAbs < 10 ^ 19) : Rep 1 (22 * l + 3) (.list (ws.map .int)) := Rep.listM hl fun x hx => Rep.int (h x hx)
theorem Rep.intsT {l : Nat} {ws : List Int} (hl : ws.length ≤ l) (h : ∀ x ∈ ws, x.natAbs < 10 ^ 19) : Rep 1 (22 * l + 3) (.tuple (ws.map .int)) := Rep.tupleM hl fun x hx => Rep.int (h x hx)
/-- a standing -/
theorem Rep.dS {l : Nat} {x : Tr} (h1 : x.1.natAbs < 10 ^ 19) (h2 : x.2.2.natAbs < 10 ^ 19) (hl : x.2.1.length ≤ l) (h : ∀ y ∈ x.2.1, y.natAbs < 10 ^ 19) : Rep 2 (66 * l + 80) (dS x) := by
  have a : ∀ d ∈ [PyData.int x.1, .tuple (x.2.1.map .int), .int x.2.2], Rep 1 (22 * l + 23) d := by
    intro d hd
    simp only [List.mem_cons, List.not_mem_nil, or_false] at hd
    rcases hd with rfl | rfl | rfl
    · exact (Rep.int h1).mono (by omega) (by omega)
    · exact (Rep.intsT hl h).mono (by omega) (by omega)
    · exact (Rep.int h2).mono (by omega) (by omega)
  exact (Rep.tuple a).mono (by omega) (by show (22 * l + 23 + 2) * 3 + 3 ≤ _; omega)
theorem Rep.prW {w : Bool} {p : Bool × Int} (h : p.2.natAbs < 10 ^ 19) : Rep 1 47 (prW w p) := by
  have a : ∀ d ∈ [PyData.str (sideS p.1), .int p.2], Rep 0 20 d := by
    intro d hd
    simp only [List.mem_cons, List.not_mem_nil, or_false] at hd
    rcases hd with rfl | rfl
    · exact Rep.side
    · exact Rep.int h
  cases w
  · exact (Rep.tuple a).mono (by omega) (by show (20 + 2) * 2 + 3 ≤ 47; omega)
  · exact (Rep.list a).mono (by omega) (by show (20 + 2) * 2 + 3 ≤ 47; omega)
theorem Rep.d {m n : Nat} {d : D} (h : Rep m n d) (hs : ∃ ds, d = .list ds ∨ d = .tuple ds) (hm : m ≤ 60 := by decide) (hn : n ≤ 10000000 := by decide) : RepD d :=
  ⟨h.lay, h.sh, Nat.le_trans h.dp hm, Nat.le_trans (Nat.le_trans h.len hn) (by rw [sizeLine_eq]; decide)⟩
theorem Rep.a {m n : Nat} {d : D} (h : Rep m n d) (hm : m ≤ 60 := by decide) (hn : n ≤ 10000000 := by decide) : RepD d :=
  ⟨h.lay, h.sh, Nat.le_trans h.dp hm, Nat.le_trans (Nat.le_trans h.len hn) (by rw [sizeLine_eq]; decide)⟩
section
variable {r : Res} {d : D} {R : KC} {k k' : Nat}
theorem v_reprV (h : Hold (RepD d)) (q : R 0 (.str (shw d))) : apN (at1 oRepr) [.v k d] R := apN_op (by show RepD d ∧ R 0 (.str d.shown); rw [← shw_eq]; exact ⟨h.out, q⟩)
theorem v_reprB (h : Hold (RepD d)) (q : R 0 (.str (shw d))) : apN (at1 oRepr) [.b k k' d] R := apN_op (by show RepD d ∧ R 0 (.str d.shown); rw [← shw_eq]; exact ⟨h.out, q⟩)
theorem v_eqW (q : R 0 (.bool true)) : ap2 oEq (.v k (.str (shw d))) (.v k' (.str (shw d))) R := ap2_op (by show R 0 (.bool (decide (shw d = shw d))); rw [decide_eq_true rfl]; exact q)
theorem v_neW (q : R 0 (.bool false)) : ap2 oNe (.v k (.str (shw d))) (.v k' (.str (shw d))) R := ap2_op (by show R 0 (.bool (!decide (shw d = shw d))); rw [decide_eq_true rfl]; exact q)
end
/-- the box is a list of ints: a slot may be lent -/
theorem lend_bx {m : Nat} {z : D} {e e' : Pv.Env} (h : Bk m (ow z)) : ∀ j ∈ [0], (some (ow z) :: e' : Pv.Env)[j]? = (some (ow z) :: e : Pv.Env)[j]? ∧ ∃ ns : List Int, (some (ow z) :: e : Pv.Env)[j]? = some (some ⟨1, .list (ns.map .int)⟩) := by
  intro j hj
  have hj0 : j = 0 := by simpa using hj
  subst hj0
  obtain ⟨n, ⟨a, b, c, e1, _⟩, _⟩ := h.get
  exact ⟨rfl, [a, b, c], congrArg (fun q => some (some q)) e1⟩
end Lw

/-! Vm: what tilts do, in plain Lean. -/
namespace Lw
open PySem PySem.Spec PyProof.Rows L2 Pv
/-- how many of a lot from p on -/
def cnt (lot : List Int) (p : Int) : Nat → Int
  | 0 => 0
  | n + 1 => (if p ∈ lot then 1 else 0) + cnt lot (p + 1) n
theorem irange_rev_map (a b n : Int) : ((irange a b).map fun p => n - 1 - p).reverse = irange (n - b) (n - a) := by
  refine List.ext_getElem? fun i => ?_
  by_cases hi : i < (b - a).toNat
  · rw [List.getElem?_reverse (by rw [List.length_map, irange_len]; exact hi), List.length_map, irange_len, List.getElem?_map, irange_get (by omega), irange_get (by omega)]
    show some (n - 1 - (a + (((b - a).toNat - 1 - i : Nat) : Int))) = _
    congr 1; omega
  · rw [List.getElem?_eq_none (by rw [List.length_reverse, List.length_map, irange_len]; omega), List.getElem?_eq_none (by rw [irange_len]; omega)]
theorem iterS_fix {f : Tr → Tr} {y : Tr} (h : f y = y) : ∀ n, iterS f n y = y
  | 0 => rfl
  | n + 1 => by rw [iterS, h]; exact iterS_fix h n
theorem tiltS_r (ws : List Int) (s l : Int) (lot : List Int) (r : Int) : tiltS ws true s (l, lot, r) = (0, (roll s lot ws 0 l).1, r + (roll s lot ws 0 l).2) := rfl
theorem tiltS_l (ws : List Int) (s l : Int) (lot : List Int) (r : Int) : tiltS ws false s (l, lot, r) = (l + (roll s (turnI ws.length lot) ws.reverse 0 r).2, turnI ws.length (roll s (turnI ws.length lot) ws.reverse 0 r).1, 0) := rfl
/-! ### pit by pit in an order -/
def rollO (dp : Int → Int) (s : Int) (lot : List Int) : List Int → Int → List Int × Int
  | [], r => ([], r)
  | q :: ord, r =>
    if dp q < s then rollO dp s lot ord (r + if q ∈ lot then 1 else 0)
    else if q ∈ lot then (q :: (rollO dp s lot ord r).1, (rollO dp s lot ord r).2)
    else if 0 < r then (q :: (rollO dp s lot ord (r - 1)).1, (rollO dp s lot ord (r - 1)).2)
    else rollO dp s lot ord r
def ordB (n : Nat) (b : Bool) : List Int := if b then irange 0 n else (irange 0 n).reverse
theorem roll_eq {dp : Int → Int} {s : Int} {lot : List Int} : ∀ (ws : List Int) (p r : Int), (∀ (i : Nat) (h : i < ws.length), dp (p + i) = ws[i]) → roll s lot ws p r = rollO dp s lot (irange p (p + ws.length)) r
  | [], p, r, _ => by rw [irange_nil (by simp)]; rfl
  | w :: ws, p, r, h => by
    have h0 : dp p = w := by have := h 0 (by simp); simpa using this
    have ih := fun r => roll_eq (dp := dp) (s := s) (lot := lot) ws (p + 1) r fun i hi => by
      have := h (i + 1) (by simpa using hi)
      rw [show p + 1 + (i : Int) = p + ((i + 1 : Nat) : Int) by omega]
      simpa using this
    rw [List.length_cons, irange_cons (by omega), show p + ((ws.length + 1 : Nat) : Int) = p + 1 + (ws.length : Int) by omega, roll, rollO, h0, ih, ih, ih]
theorem rollO_map {dp dp' : Int → Int} {s : Int} {lot lot' : List Int} {f : Int → Int} : ∀ (ord : List Int) (r : Int), (∀ q ∈ ord, dp' q = dp (f q)) → (∀ q ∈ ord, (q ∈ lot' ↔ f q ∈ lot)) → rollO dp s lot (ord.map f) r = ((rollO dp' s lot' ord r).1.map f, (rollO dp' s lot' ord r).2)
  | [], r, _, _ => rfl
  | q :: ord, r, h, h2 => by
    have hq := h q List.mem_cons_self
    have hl := h2 q List.mem_cons_self
    have ih := fun r => rollO_map (dp := dp) (dp' := dp') (s := s) (lot := lot) (lot' := lot') (f := f) ord r (fun x hx => h x (List.mem_cons_of_mem _ hx)) (fun x hx => h2 x (List.mem_cons_of_mem _ hx))
    rw [List.map_cons, rollO, rollO, ih, ih, ih, hq]
    by_cases hm : q ∈ lot'
    · rw [if_pos hm, if_pos hm, if_pos (hl.mp hm), if_pos (hl.mp hm)]
      split <;> rfl
    · rw [if_neg hm, if_neg hm, if_neg (fun z => hm (hl.mpr z)), if_neg (fun z => hm (hl.mpr z))]
      split
      · rfl
      · split <;> rfl
theorem gI_nat {ws : List Int} {i : Nat} (h : i < ws.length) : gI ws (i : Int) = ws[i] := by unfold gI; rw [Int.toNat_natCast, List.getD_eq_getElem?_getD, List.getElem?_eq_getElem h]; rfl
/-- what comes from a tilt's own side -/
def src (b : Bool) (x : Tr) : Int := if b then x.1 else x.2.2
def OO (ws : List Int) (b : Bool) (s : Int) (x : Tr) : List Int × Int := rollO (gI ws) s x.2.1 (ordB ws.length b) (src b x)
theorem mem_turnI {n : Nat} {lot : List Int} {q : Int} : q ∈ turnI n lot ↔ (n : Int) - 1 - q ∈ lot := by
  unfold turnI
  rw [List.mem_reverse, List.mem_map]
  constructor
  · rintro ⟨p, hp, rfl⟩
    rw [show (n : Int) - 1 - (n - 1 - p) = p by omega]; exact hp
  · intro h
    exact ⟨_, h, by omega⟩
theorem rollL_O (ws : List Int) (s r : Int) (lot : List Int) : rollO (gI ws) s lot (irange 0 ws.length).reverse r = ((turnI ws.length (roll s (turnI ws.length lot) ws.reverse 0 r).1).reverse, (roll s (turnI ws.length lot) ws.reverse 0 r).2) := by
  have h1 := roll_eq (dp := fun q => gI ws (ws.length - 1 - q)) (s := s) (lot := turnI ws.length lot) ws.reverse 0 r fun i hi => by
    rw [List.length_reverse] at hi
    rw [List.getElem_reverse, show (ws.length : Int) - 1 - (0 + (i : Int)) = ((ws.length - 1 - i : Nat) : Int) by omega, gI_nat]
  rw [List.length_reverse, Int.zero_add] at h1
  have h2 : (irange 0 (ws.length : Int)).reverse = (irange 0 (ws.length : Int)).map (fun p => (ws.length : Int) - 1 - p) := by
    have := irange_rev_map 0 ws.length ws.length
    rw [Int.sub_self, Int.sub_zero] at this
    rw [← this, List.reverse_reverse, this]
  rw [h2, rollO_map (dp := gI ws) (dp' := fun q => gI ws (ws.length - 1 - q)) (lot' := turnI ws.length lot) _ _ (fun q _ => rfl) (fun q _ => mem_turnI), ← h1]
  unfold turnI
  rw [List.reverse_reverse]
theorem rollR_O (ws : List Int) (s r : Int) (lot : List Int) : rollO (gI ws) s lot (irange 0 ws.length) r = roll s lot ws 0 r := by
  have h1 := roll_eq (dp := gI ws) (s := s) (lot := lot) ws 0 r fun i hi => by rw [Int.zero_add, gI_nat hi]
  rw [h1, Int.zero_add]
theorem tiltS_O (ws : List Int) (b : Bool) (s : Int) (x : Tr) : tiltS ws b s x = if b then (0, (OO ws b s x).1, x.2.2 + (OO ws b s x).2) else (x.1 + (OO ws b s x).2, (OO ws b s x).1.reverse, 0) := by
  obtain ⟨l, lot, r⟩ := x
  cases b with
  | true => rw [tiltS_r]; show _ = (0, (rollO (gI ws) s lot (irange 0 ws.length) l).1, r + (rollO (gI ws) s lot (irange 0 ws.length) l).2); rw [rollR_O]
  | false =>
    rw [tiltS_l]
    show _ = (l + (rollO (gI ws) s lot (irange 0 ws.length).reverse r).2, (rollO (gI ws) s lot (irange 0 ws.length).reverse r).1.reverse, 0)
    rw [rollL_O, List.reverse_reverse]
def rolS (ws : List Int) (b : Bool) (s : Int) (x : Tr) : Int := (tiltF ws x.1 x.2.1 x.2.2 b s).2
theorem rolS_O (ws : List Int) (b : Bool) (s : Int) (x : Tr) : rolS ws b s x = (OO ws b s x).2 := by
  obtain ⟨l, lot, r⟩ := x
  cases b with
  | true => show (roll s lot ws 0 l).2 = (rollO (gI ws) s lot (irange 0 ws.length) l).2; rw [rollR_O]
  | false => show (roll s (turnI ws.length lot) ws.reverse 0 r).2 = (rollO (gI ws) s lot (irange 0 ws.length).reverse r).2; rw [rollL_O]
theorem rollO_sub (dp : Int → Int) (s : Int) (lot : List Int) : ∀ (ord : List Int) (r : Int), ((rollO dp s lot ord r).1).Sublist ord
  | [], _ => .slnil
  | q :: ord, r => by
    rw [rollO]
    split
    · exact (rollO_sub dp s lot ord _).cons q
    · split
      · exact (rollO_sub dp s lot ord _).cons₂ q
      · split
        · exact (rollO_sub dp s lot ord _).cons₂ q
        · exact (rollO_sub dp s lot ord _).cons q
theorem rollO_deep (dp : Int → Int) (s : Int) (lot : List Int) : ∀ (ord : List Int) (r q : Int), q ∈ (rollO dp s lot ord r).1 → s ≤ dp q
  | [], _, _, h => by cases h
  | q' :: ord, r, q, h => by
    rw [rollO] at h
    split at h
    · exact rollO_deep dp s lot ord _ q h
    · split at h
      · rcases List.mem_cons.mp h with rfl | h
        · omega
        · exact rollO_deep dp s lot ord _ q h
      · split at h
        · rcases List.mem_cons.mp h with rfl | h
          · omega
          · exact rollO_deep dp s lot ord _ q h
        · exact rollO_deep dp s lot ord _ q h
theorem rollO_keep (dp : Int → Int) (s : Int) (lot : List Int) : ∀ (ord : List Int) (r q : Int), q ∈ ord → q ∈ lot → s ≤ dp q → q ∈ (rollO dp s lot ord r).1
  | [], _, _, h, _, _ => by cases h
  | q' :: ord, r, q, h, hl, hd => by
    rw [rollO]
    rcases List.mem_cons.mp h with rfl | h
    · rw [if_neg (by omega), if_pos hl]; exact List.mem_cons_self
    · split
      · exact rollO_keep dp s lot ord _ q h hl hd
      · split
        · exact List.mem_cons_of_mem _ (rollO_keep dp s lot ord _ q h hl hd)
        · split
          · exact List.mem_cons_of_mem _ (rollO_keep dp s lot ord _ q h hl hd)
          · exact rollO_keep dp s lot ord _ q h hl hd
theorem rollO_nn (dp : Int → Int) (s : Int) (lot : List Int) : ∀ (ord : List Int) (r : Int), 0 ≤ r → 0 ≤ (rollO dp s lot ord r).2
  | [], _, h => h
  | q :: ord, r, h => by
    rw [rollO]
    split
    · exact rollO_nn dp s lot ord _ (by split <;> omega)
    · split
      · exact rollO_nn dp s lot ord _ h
      · split
        · exact rollO_nn dp s lot ord _ (by omega)
        · exact rollO_nn dp s lot ord _ h
/-- beads are kept -/
theorem rollO_cnt (dp : Int → Int) (s : Int) (lot : List Int) : ∀ (ord : List Int) (r : Int), 0 ≤ r → ((rollO dp s lot ord r).1.length : Int) + (rollO dp s lot ord r).2 = r + ((ord.filter (· ∈ lot)).length : Int)
  | [], r, _ => by simp [rollO]
  | q :: ord, r, h => by
    have ih := fun r h => rollO_cnt dp s lot ord r h
    rw [rollO, List.filter_cons]
    by_cases hm : q ∈ lot
    · simp only [hm, decide_true, if_true]
      split
      · have := ih (r + 1) (by omega)
        rw [List.length_cons]; omega
      · have := ih r h
        rw [List.length_cons, List.length_cons]; omega
    · simp only [hm, decide_false, if_false, Bool.false_eq_true, Int.add_zero]
      split
      · exact ih r h
      · split
        · have := ih (r - 1) (by omega)
          rw [List.length_cons]; omega
        · exact ih r h
/-- what is still free behind a tilt -/
def freeO (dp : Int → Int) (s : Int) (L ord : List Int) : List Int := ord.filter fun i => decide (s ≤ dp i) && !decide (i ∈ L)
/-! ### bead by bead, the foremost first -/
/-- what lies beyond a pit -/
def overO (ord : List Int) (q : Int) : List Int := (ord.reverse.take (ord.reverse.idxOf q)).reverse
def ownStep (dp : Int → Int) (s : Int) (ord : List Int) (st : List Int × Int) (spot : Option Int) : List Int × Int :=
  let over := match spot with | none => ord | some q => overO ord q
  (st.1 ++ (freeO dp s st.1 over).take 1, st.2 + if freeO dp s st.1 over = [] then 1 else 0)
def beginsO (dp : Int → Int) (s : Int) (lot ord : List Int) (rear : Nat) : List (Option Int) := ((ord.reverse.filter fun q => decide (q ∈ lot) && decide (dp q < s)).map some) ++ List.replicate rear none
/-- a state that is as a sweep over c has it, beside what stood elsewhere -/
def Fits (dp : Int → Int) (s : Int) (lot : List Int) (full0 c : List Int) (r : Int) (st : List Int × Int) : Prop :=
  (∀ i ∈ c, (i ∈ st.1 ↔ i ∈ (rollO dp s lot c r).1)) ∧ (∀ i, i ∉ c → (i ∈ st.1 ↔ i ∈ full0)) ∧ st.2 = (rollO dp s lot c r).2 ∧ st.1.Nodup
/-! ### standings that are right -/
def okS (n : Nat) (x : Tr) : Prop := 0 ≤ x.1 ∧ 0 ≤ x.2.2 ∧ x.2.1.Pairwise (· < ·) ∧ ∀ p ∈ x.2.1, 0 ≤ p ∧ p < n
theorem rise_len : ∀ (xs : List Int) (a b : Int), xs.Pairwise (· < ·) → (∀ p ∈ xs, a ≤ p ∧ p < b) → xs.length ≤ (b - a).toNat
  | [], _, _, _, _ => Nat.zero_le _
  | x :: xs, a, b, h, h2 => by
    obtain ⟨h3, h4⟩ := List.pairwise_cons.mp h
    have hx := h2 x List.mem_cons_self
    have := rise_len xs (x + 1) b h4 fun p hp => ⟨by have := h3 p hp; omega, (h2 p (List.mem_cons_of_mem _ hp)).2⟩
    rw [List.length_cons]
    omega
theorem okS.len {n : Nat} {x : Tr} (h : okS n x) : x.2.1.length ≤ n := by
  have := rise_len x.2.1 0 n h.2.2.1 h.2.2.2
  omega
theorem ordB_nodup (n : Nat) (b : Bool) : (ordB n b).Nodup := by
  unfold ordB
  cases b with
  | true => exact nodup_lt (irange_lt 0 n)
  | false => exact List.pairwise_reverse.mpr ((nodup_lt (irange_lt 0 n)).imp fun {a b} h => Ne.symm h)
theorem mem_ordB {n : Nat} {b : Bool} {q : Int} : q ∈ ordB n b ↔ 0 ≤ q ∧ q < n := by
  unfold ordB
  cases b with
  | true => exact mem_irange
  | false => rw [if_neg (by simp), List.mem_reverse]; exact mem_irange
theorem tiltS_lot (ws : List Int) (b : Bool) (s : Int) (x : Tr) : (tiltS ws b s x).2.1.Pairwise (· < ·) ∧ (∀ q, q ∈ (tiltS ws b s x).2.1 ↔ q ∈ (OO ws b s x).1) := by
  rw [tiltS_O]
  have hsub := rollO_sub (gI ws) s x.2.1 (ordB ws.length b) (src b x)
  cases b with
  | true => exact ⟨(irange_lt 0 ws.length).sublist hsub, fun q => Iff.rfl⟩
  | false =>
    have h2 : ((OO ws false s x).1.reverse).Sublist (irange 0 ws.length) := by
      have := List.Sublist.reverse hsub
      unfold ordB at this
      rw [if_neg (by simp), List.reverse_reverse] at this
      exact this
    exact ⟨(irange_lt 0 ws.length).sublist h2, fun q => by show q ∈ (OO ws false s x).1.reverse ↔ _; rw [List.mem_reverse]⟩
theorem src_nn {n : Nat} {x : Tr} (h : okS n x) (b : Bool) : 0 ≤ src b x := by
  unfold src; cases b; exact h.2.1; exact h.1
theorem tiltS_ok {ws : List Int} {x : Tr} (h : okS ws.length x) (b : Bool) (s : Int) : okS ws.length (tiltS ws b s x) := by
  have hl := tiltS_lot ws b s x
  have hr : 0 ≤ (OO ws b s x).2 := rollO_nn _ _ _ _ _ (src_nn h b)
  have hm : ∀ p ∈ (tiltS ws b s x).2.1, 0 ≤ p ∧ p < (ws.length : Int) := fun p hp => mem_ordB.mp ((rollO_sub _ _ _ _ _).subset ((hl.2 p).mp hp))
  refine ⟨?_, ?_, hl.1, hm⟩
  · rw [tiltS_O]
    cases b with
    | true => exact Int.le_refl 0
    | false => exact Int.add_nonneg h.1 hr
  · rw [tiltS_O]
    cases b with
    | true => exact Int.add_nonneg h.2.1 hr
    | false => exact Int.le_refl 0
theorem ledS_ok {ws : List Int} : ∀ (row : List (Bool × Int)) {x : Tr}, okS ws.length x → okS ws.length (ledS ws row x)
  | [], _, h => h
  | (b, s) :: row, _, h => ledS_ok row (tiltS_ok h b s)
/-- two rising lists of the same are one -/
theorem rise_uniq {xs ys : List Int} (h : xs.Pairwise (· < ·)) (h' : ys.Pairwise (· < ·)) (he : ∀ i, i ∈ xs ↔ i ∈ ys) : xs = ys :=
  sorted_uniq ((List.perm_ext_iff_of_nodup (nodup_lt h) (nodup_lt h')).mpr he) (h.imp fun {a b} h => by omega) (h'.imp fun {a b} h => by omega)
/-- the beads of a standing -/
def beadsS (x : Tr) : Int := x.1 + x.2.1.length + x.2.2
theorem filter_all_len {n : Nat} {x : Tr} (h : okS n x) (b : Bool) : ((ordB n b).filter (· ∈ x.2.1)).length = x.2.1.length := by
  refine List.Perm.length_eq ((List.perm_ext_iff_of_nodup ((ordB_nodup n b).filter _) (nodup_lt h.2.2.1)).mpr fun i => ?_)
  rw [List.mem_filter, mem_ordB, decide_eq_true_eq]
  exact ⟨fun z => z.2, fun z => ⟨h.2.2.2 i z, z⟩⟩
theorem tiltS_beads {ws : List Int} {x : Tr} (h : okS ws.length x) (b : Bool) (s : Int) : beadsS (tiltS ws b s x) = beadsS x := by
  have hc := rollO_cnt (gI ws) s x.2.1 (ordB ws.length b) (src b x) (src_nn h b)
  rw [filter_all_len h b] at hc
  rw [tiltS_O]
  unfold beadsS
  cases b with
  | true =>
    show 0 + ((OO ws true s x).1.length : Int) + (x.2.2 + (OO ws true s x).2) = _
    have hc' : ((OO ws true s x).1.length : Int) + (OO ws true s x).2 = x.1 + x.2.1.length := hc
    omega
  | false =>
    show (x.1 + (OO ws false s x).2) + ((OO ws false s x).1.reverse.length : Int) + 0 = _
    have hc' : ((OO ws false s x).1.length : Int) + (OO ws false s x).2 = x.2.2 + x.2.1.length := hc
    rw [List.length_reverse]
    omega
/-- all in one tray: the left one for false -/
def inT0 (b : Bool) (m : Int) : Tr := if b then (0, [], m) else (m, [], 0)
theorem inT0_ok {n : Nat} {m : Int} (h : 0 ≤ m) (b : Bool) : okS n (inT0 b m) := by
  cases b
  · exact ⟨h, Int.le_refl 0, .nil, fun p hp => by cases hp⟩
  · exact ⟨Int.le_refl 0, h, .nil, fun p hp => by cases hp⟩
/-! ### one bead more -/
def extraO (lot lot' ord : List Int) : Int := ((ord.filter fun q => decide (q ∈ lot') && !decide (q ∈ lot)).length : Int)
theorem extra_cons (lot lot' : List Int) (q : Int) (ord : List Int) : extraO lot lot' (q :: ord) = (if q ∈ lot' ∧ q ∉ lot then 1 else 0) + extraO lot lot' ord := by
  unfold extraO
  rw [List.filter_cons]
  by_cases h : q ∈ lot' ∧ q ∉ lot
  · rw [if_pos (by simp [h]), if_pos h, List.length_cons]; omega
  · rw [if_neg (by simp only [Bool.and_eq_true, decide_eq_true_eq, Bool.not_eq_true', decide_eq_false_iff_not]; exact h), if_neg h]; omega
theorem extra_nn (lot lot' ord : List Int) : 0 ≤ extraO lot lot' ord := Int.natCast_nonneg _
theorem roll_mono {dp : Int → Int} {s : Int} {lot lot' : List Int} : ∀ (ord : List Int) (r r' : Int), (∀ q ∈ ord, q ∈ lot → q ∈ lot') → 0 ≤ r → r ≤ r' → r' - r + extraO lot lot' ord ≤ 1 →
    (∀ i ∈ (rollO dp s lot ord r).1, i ∈ (rollO dp s lot' ord r').1) ∧ (rollO dp s lot ord r).2 ≤ (rollO dp s lot' ord r').2 ∧ (rollO dp s lot' ord r').2 ≤ (rollO dp s lot ord r).2 + 1
  | [], r, r', _, _, h, h2 => by
    refine ⟨fun i hi => (by cases hi), h, ?_⟩
    have := extra_nn lot lot' []
    show r' ≤ r + 1
    omega
  | q :: ord, r, r', hs, h0, h, h2 => by
    have hs' : ∀ q ∈ ord, q ∈ lot → q ∈ lot' := fun x hx => hs x (List.mem_cons_of_mem _ hx)
    have hq := hs q List.mem_cons_self
    have ih := fun r r' => roll_mono (dp := dp) (s := s) ord r r' hs'
    have hn := extra_nn lot lot' ord
    rw [extra_cons] at h2
    rw [rollO, rollO]
    by_cases hd : dp q < s
    · rw [if_pos hd, if_pos hd]
      by_cases h3 : q ∈ lot
      · rw [if_pos h3, if_pos (hq h3)]
        rw [if_neg (fun z => z.2 h3)] at h2
        exact ih _ _ (by omega) (by omega) (by omega)
      · rw [if_neg h3]
        by_cases h4 : q ∈ lot'
        · rw [if_pos h4]
          rw [if_pos ⟨h4, h3⟩] at h2
          exact ih _ _ (by omega) (by omega) (by omega)
        · rw [if_neg h4]
          rw [if_neg (fun z => h4 z.1)] at h2
          exact ih _ _ (by omega) (by omega) (by omega)
    · rw [if_neg hd, if_neg hd]
      by_cases h3 : q ∈ lot
      · rw [if_pos h3, if_pos (hq h3)]
        rw [if_neg (fun z => z.2 h3)] at h2
        obtain ⟨a, b, c⟩ := ih r r' h0 h (by omega)
        refine ⟨fun i hi => ?_, b, c⟩
        rcases List.mem_cons.mp hi with e | hi
        · rw [e]; exact List.mem_cons_self
        · exact List.mem_cons_of_mem _ (a i hi)
      · rw [if_neg h3]
        by_cases h4 : q ∈ lot'
        · rw [if_pos h4]
          rw [if_pos ⟨h4, h3⟩] at h2
          split
          · obtain ⟨a, b, c⟩ := ih (r - 1) r' (by omega) (by omega) (by omega)
            refine ⟨fun i hi => ?_, b, c⟩
            rcases List.mem_cons.mp hi with e | hi
            · rw [e]; exact List.mem_cons_self
            · exact List.mem_cons_of_mem _ (a i hi)
          · obtain ⟨a, b, c⟩ := ih r r' h0 h (by omega)
            exact ⟨fun i hi => List.mem_cons_of_mem _ (a i hi), b, c⟩
        · rw [if_neg h4]
          rw [if_neg (fun z => h4 z.1)] at h2
          by_cases hr : 0 < r
          · rw [if_pos hr, if_pos (show 0 < r' by omega)]
            obtain ⟨a, b, c⟩ := ih (r - 1) (r' - 1) (by omega) (by omega) (by omega)
            refine ⟨fun i hi => ?_, b, c⟩
            rcases List.mem_cons.mp hi with e | hi
            · rw [e]; exact List.mem_cons_self
            · exact List.mem_cons_of_mem _ (a i hi)
          · rw [if_neg hr]
            by_cases hr' : 0 < r'
            · rw [if_pos hr']
              obtain ⟨a, b, c⟩ := ih r (r' - 1) h0 (by omega) (by omega)
              exact ⟨fun i hi => List.mem_cons_of_mem _ (a i hi), b, c⟩
            · rw [if_neg hr']
              exact ih r r' h0 h (by omega)
/-- the one has all that the other has, and a bead more -/
def OneMore (n : Nat) (x y : Tr) : Prop := okS n x ∧ okS n y ∧ (∀ i ∈ x.2.1, i ∈ y.2.1) ∧ beadsS y = beadsS x + 1 ∧ x.1 ≤ y.1 ∧ x.2.2 ≤ y.2.2
theorem extra_len {n : Nat} {x y : Tr} (hx : okS n x) (hy : okS n y) (h : ∀ i ∈ x.2.1, i ∈ y.2.1) (b : Bool) : extraO x.2.1 y.2.1 (ordB n b) = (y.2.1.length : Int) - x.2.1.length := by
  have h1 := filter_all_len hx b
  have h2 := filter_all_len hy b
  have h3 : ∀ l : List Int, ((l.filter (· ∈ y.2.1)).length : Int) = extraO x.2.1 y.2.1 l + ((l.filter (· ∈ x.2.1)).length : Int) := fun l => by
    induction l with
    | nil => rfl
    | cons q l ih =>
      rw [extra_cons, List.filter_cons, List.filter_cons]
      by_cases a : q ∈ x.2.1
      · have := h q a
        simp only [a, this, decide_true, if_true, List.length_cons, not_true_eq_false, and_false, if_false]
        omega
      · by_cases c : q ∈ y.2.1
        · simp only [a, c, decide_true, decide_false, if_true, List.length_cons, not_false_eq_true, and_self, Bool.false_eq_true, if_false]
          omega
        · simp only [a, c, decide_false, Bool.false_eq_true, if_false, false_and]
          omega
  have := h3 (ordB n b)
  rw [h1, h2] at this
  omega
theorem OneMore.tilt {ws : List Int} {x y : Tr} (h : OneMore ws.length x y) (b : Bool) (s : Int) : OneMore ws.length (tiltS ws b s x) (tiltS ws b s y) ∧ rolS ws b s x ≤ rolS ws b s y ∧ rolS ws b s y ≤ rolS ws b s x + 1 := by
  obtain ⟨hx, hy, hs, hb, h1, h2⟩ := h
  have hsr : src b x ≤ src b y := by cases b; exact h2; exact h1
  have hext := extra_len hx hy hs b
  have hbd : y.1 + y.2.1.length + y.2.2 = x.1 + x.2.1.length + x.2.2 + 1 := hb
  obtain ⟨m1, m2, m3⟩ := roll_mono (dp := gI ws) (s := s) (ordB ws.length b) (src b x) (src b y) (fun q _ => hs q) (src_nn hx b) hsr (by rw [hext]; cases b <;> (simp only [src]; simp; omega))
  refine ⟨⟨tiltS_ok hx b s, tiltS_ok hy b s, fun i hi => ?_, by rw [tiltS_beads hx, tiltS_beads hy]; exact hb, ?_, ?_⟩, ?_, ?_⟩
  · exact ((tiltS_lot ws b s y).2 i).mpr (m1 i (((tiltS_lot ws b s x).2 i).mp hi))
  · rw [tiltS_O, tiltS_O]
    cases b
    · exact Int.add_le_add h1 m2
    · exact Int.le_refl 0
  · rw [tiltS_O, tiltS_O]
    cases b
    · exact Int.le_refl 0
    · exact Int.add_le_add h2 m2
  · rw [rolS_O, rolS_O]; exact m2
  · rw [rolS_O, rolS_O]; exact m3
/-! ### strengths between, tilts to one side -/
/-- the deep pits, as many as there are beads, the farthest, the rest in the tray -/
def nearL (ws : List Int) (c : Nat) (b : Bool) (s : Int) : List Int := ((ordB ws.length b).filter fun q => decide (s ≤ gI ws q)).take c
def nearS (ws : List Int) (c : Nat) (b : Bool) (s : Int) : Tr := if b then (0, nearL ws c b s, (c : Int) - (nearL ws c b s).length) else ((c : Int) - (nearL ws c b s).length, (nearL ws c b s).reverse, 0)
/-! ### pits that count nothing -/
theorem rollO_skip {dp : Int → Int} {s : Int} {lot : List Int} {p : Int → Bool} : ∀ (ord : List Int) (r : Int), (∀ q ∈ ord, p q = false → (q ∈ lot ∧ s ≤ dp q) ∨ (q ∉ lot ∧ dp q < s)) →
    (rollO dp s lot (ord.filter p) r).1 = (rollO dp s lot ord r).1.filter p ∧ (rollO dp s lot (ord.filter p) r).2 = (rollO dp s lot ord r).2
  | [], _, _ => ⟨rfl, rfl⟩
  | q :: ord, r, h => by
    have ih := fun r => rollO_skip (dp := dp) (s := s) (lot := lot) (p := p) ord r fun x hx => h x (List.mem_cons_of_mem _ hx)
    cases hp : p q with
    | false =>
      rw [List.filter_cons_of_neg (by rw [hp]; decide)]
      rcases h q List.mem_cons_self hp with ⟨h1, h2⟩ | ⟨h1, h2⟩
      · rw [rollO, if_neg (show ¬ dp q < s by omega), if_pos h1]
        show _ = List.filter p (q :: _) ∧ _
        rw [List.filter_cons_of_neg (by rw [hp]; decide)]
        exact ih r
      · rw [rollO, if_pos h2, if_neg h1, Int.add_zero]
        exact ih r
    | true =>
      rw [List.filter_cons_of_pos hp, rollO, rollO]
      split
      · exact ih _
      · split
        · show q :: _ = List.filter p (q :: _) ∧ _
          rw [List.filter_cons_of_pos hp, (ih r).1]
          exact ⟨rfl, (ih r).2⟩
        · split
          · show q :: _ = List.filter p (q :: _) ∧ _
            rw [List.filter_cons_of_pos hp, (ih (r - 1)).1]
            exact ⟨rfl, (ih (r - 1)).2⟩
          · exact ih r
/-- a channel within another one -/
structure Emb (us ws : List Int) (f : Int → Int) : Prop where
  mono : ∀ i j : Int, 0 ≤ i → i < j → j < us.length → f i < f j
  rng : ∀ j : Int, 0 ≤ j → j < us.length → 0 ≤ f j ∧ f j < ws.length
  dep : ∀ j : Int, 0 ≤ j → j < us.length → gI us j = gI ws (f j)
def inImg (us : List Int) (f : Int → Int) (q : Int) : Bool := ((irange 0 us.length).map f).contains q
theorem inImg_iff {us : List Int} {f : Int → Int} {q : Int} : inImg us f q = true ↔ ∃ j : Int, 0 ≤ j ∧ j < us.length ∧ f j = q := by
  unfold inImg
  rw [List.contains_iff_mem, List.mem_map]
  constructor
  · rintro ⟨j, hj, e⟩; have := mem_irange.mp hj; exact ⟨j, this.1, this.2, e⟩
  · rintro ⟨j, h1, h2, e⟩; exact ⟨j, mem_irange.mpr ⟨h1, h2⟩, e⟩
theorem Emb.ord {us ws : List Int} {f : Int → Int} (E : Emb us ws f) (b : Bool) : (ordB ws.length b).filter (inImg us f) = (ordB us.length b).map f := by
  have h : (irange 0 ws.length).filter (inImg us f) = (irange 0 us.length).map f := by
    refine rise_uniq ((irange_lt 0 _).filter _) ?_ fun q => ?_
    · rw [List.pairwise_map]
      exact ((irange_lt 0 us.length).and (List.pairwise_iff_forall_sublist.mpr fun {a b} h => (show a ∈ irange 0 (us.length : Int) ∧ b ∈ irange 0 (us.length : Int) from ⟨h.subset (by simp), h.subset (by simp)⟩))).imp fun {a b} h => E.mono a b (mem_irange.mp h.2.1).1 h.1 (mem_irange.mp h.2.2).2
    · rw [List.mem_filter, inImg_iff, List.mem_map, mem_irange]
      constructor
      · rintro ⟨_, j, h1, h2, e⟩; exact ⟨j, mem_irange.mpr ⟨h1, h2⟩, e⟩
      · rintro ⟨j, hj, e⟩
        have hj := mem_irange.mp hj
        subst e
        exact ⟨E.rng j hj.1 hj.2, j, hj.1, hj.2, rfl⟩
  cases b with
  | true => exact h
  | false =>
    show List.filter _ (irange 0 ws.length).reverse = List.map f (irange 0 us.length).reverse
    rw [List.filter_reverse, h, List.map_reverse]
/-- the one standing within the other: beside it the pits dl are full -/
def Lift (us ws : List Int) (f : Int → Int) (dl : List Int) (x y : Tr) : Prop := okS us.length x ∧ okS ws.length y ∧ x.1 = y.1 ∧ x.2.2 = y.2.2 ∧ (∀ j : Int, 0 ≤ j → j < us.length → (j ∈ x.2.1 ↔ f j ∈ y.2.1)) ∧
  ∀ q : Int, 0 ≤ q → q < ws.length → inImg us f q = false → (q ∈ y.2.1 ↔ q ∈ dl)
theorem Lift.tilt {us ws : List Int} {f : Int → Int} {dl : List Int} {x y : Tr} (h : Lift us ws f dl x y) (E : Emb us ws f) (b : Bool) {s : Int} (hz : ∀ q : Int, 0 ≤ q → q < ws.length → inImg us f q = false → (q ∈ dl ∧ s ≤ gI ws q) ∨ (q ∉ dl ∧ gI ws q < s)) :
    Lift us ws f dl (tiltS us b s x) (tiltS ws b s y) ∧ rolS us b s x = rolS ws b s y := by
  obtain ⟨hx, hy, e1, e2, hl, hd⟩ := h
  have hsrc : src b x = src b y := by cases b; exact e2; exact e1
  have hsk := rollO_skip (dp := gI ws) (s := s) (lot := y.2.1) (p := inImg us f) (ordB ws.length b) (src b y) fun q hq hp => by
    have hq := mem_ordB.mp hq
    rcases hz q hq.1 hq.2 hp with h | h
    · exact .inl ⟨(hd q hq.1 hq.2 hp).mpr h.1, h.2⟩
    · exact .inr ⟨fun z => h.1 ((hd q hq.1 hq.2 hp).mp z), h.2⟩
  have hmap := rollO_map (dp := gI ws) (dp' := gI us) (s := s) (lot := y.2.1) (lot' := x.2.1) (f := f) (ordB us.length b) (src b y) (fun q hq => E.dep q (mem_ordB.mp hq).1 (mem_ordB.mp hq).2) (fun q hq => hl q (mem_ordB.mp hq).1 (mem_ordB.mp hq).2)
  rw [E.ord, hmap] at hsk
  have hOx : OO us b s x = rollO (gI us) s x.2.1 (ordB us.length b) (src b y) := by unfold OO; rw [hsrc]
  obtain ⟨k1, k2⟩ := hsk
  have k1 : (OO us b s x).1.map f = (OO ws b s y).1.filter (inImg us f) := by rw [hOx]; exact k1
  have k2 : (OO us b s x).2 = (OO ws b s y).2 := by rw [hOx]; exact k2
  have hinj : ∀ i j : Int, 0 ≤ i → i < us.length → 0 ≤ j → j < us.length → f i = f j → i = j := fun i j a1 a2 b1 b2 e => by
    rcases Int.lt_trichotomy i j with h | h | h
    · have := E.mono i j a1 h b2; omega
    · exact h
    · have := E.mono j i b1 h a2; omega
  refine ⟨⟨tiltS_ok hx b s, tiltS_ok hy b s, ?_, ?_, fun j h1 h2 => ?_, fun q h1 h2 h3 => ?_⟩, by rw [rolS_O, rolS_O]; exact k2⟩
  · rw [tiltS_O, tiltS_O]
    cases b
    · show x.1 + _ = y.1 + _; rw [e1, k2]
    · rfl
  · rw [tiltS_O, tiltS_O]
    cases b
    · rfl
    · show x.2.2 + _ = y.2.2 + _; rw [e2, k2]
  · rw [(tiltS_lot us b s x).2, (tiltS_lot ws b s y).2]
    have hi : inImg us f (f j) = true := inImg_iff.mpr ⟨j, h1, h2, rfl⟩
    constructor
    · intro h
      have : f j ∈ (OO us b s x).1.map f := List.mem_map.mpr ⟨j, h, rfl⟩
      rw [k1] at this
      exact (List.mem_filter.mp this).1
    · intro h
      have : f j ∈ (OO us b s x).1.map f := by rw [k1]; exact List.mem_filter.mpr ⟨h, hi⟩
      obtain ⟨i, hi2, e⟩ := List.mem_map.mp this
      have hr := mem_ordB.mp ((rollO_sub _ _ _ _ _).subset hi2)
      rw [← hinj i j hr.1 hr.2 h1 h2 e]; exact hi2
  · rw [(tiltS_lot ws b s y).2]
    constructor
    · intro h
      rcases hz q h1 h2 h3 with z | z
      · exact z.1
      · have := rollO_deep _ _ _ _ _ _ h; omega
    · intro h
      rcases hz q h1 h2 h3 with z | z
      · exact rollO_keep _ _ _ _ _ _ (mem_ordB.mpr ⟨h1, h2⟩) ((hd q h1 h2 h3).mpr h) z.2
      · exact absurd h z.1
/-! ### beyond the foremost beginning -/
end Lw

/-! Vn: tilts to one side as one; rounds settle. -/
namespace Lw
open PySem PySem.Spec PyProof.Rows L2 Pv
theorem okS.le {n m : Nat} {x : Tr} (h : okS n x) (hn : n ≤ m) : x.2.1.length ≤ m := Nat.le_trans h.len hn
theorem ev_div {i j : Int} {P : Prop} (h1 : Hold (0 < j)) (h2 : Hold (j < 2 ^ 62)) (q : P) : CDivW i j ∧ P := ⟨cdv h1.out h2.out, q⟩
theorem ev_cat {f1 f2 : Prop} {n : Nat} {P : Prop} (h1 : f1) (h2 : f2) (h3 : Hold (n ≤ 2 ^ 20)) (q : P) : (f1 ∧ f2 ∧ n ≤ sizeLine) ∧ P := ⟨⟨h1, h2, Nat.le_trans h3.out (by decide)⟩, q⟩
theorem v_ixD1 {x : Tr} {k k' : Nat} {R : KC} (q : R 0 (.tuple (x.2.1.map .int))) : ap2 oIx (.v k (dS x)) (.v k' (.int 1)) R := ap2_op (by
  show dIx _ R (dS x) (.int 1)
  exact q)
theorem gs_n {i : Nat} {gs : FGs} {d : D} {ds : List D} {e : Pv.Env} : gsCons (gN i) gs (d :: ds) e = gs ds (e.set i (some (sh d))) := rfl
theorem gs_t {n : Nat} {g gs : FGs} {d : D} {ds : List D} {e : Pv.Env} : gsCons (gT n g) gs (d :: ds) e = match unpk n g d e with | some e' => gs ds e' | none => none := rfl
theorem gs_0 {e : Pv.Env} : gsNil [] e = some e := rfl
theorem keepC_none : keepC none = none := rfl
theorem StdS.ml (l : Int) (lot : List Int) (r : Int) : StdS (.list [.int l, .list (lot.map .int), .int r]) (l, lot, r) := ⟨_, .inl rfl, .inr rfl⟩
/-- what is heard by a row -/
def heardS (ws : List Int) : List (Bool × Int) → Tr → List Int
  | [], _ => []
  | (b, s) :: row, x => rolS ws b s x :: heardS ws row (tiltS ws b s x)
theorem v_fwdL {r : Res} {ds : List D} {R : KC} (h : r.d = .list ds) (hf : flat r) (q : R 1 (.list ds)) : ap1 (oStpA (some 1)) r R := ap1_op (by
  show dStp (flat r) 1 R r.d
  rw [h]
  exact ⟨⟨hf, .inl rfl⟩, q⟩)
theorem v_fwdT {r : Res} {ds : List D} {R : KC} (h : r.d = .tuple ds) (hf : flat r) (q : R 0 (.tuple ds)) : ap1 (oStpA (some 1)) r R := ap1_op (by
  show dStp (flat r) 1 R r.d
  rw [h]
  exact ⟨.inl rfl, q⟩)
def noPhi : Phi := fun _ _ => False
/-- neighbours to one side as the strongest alone -/
def joinG : List (Bool × Int) → List (Bool × Int) → List (Bool × Int)
  | acc, [] => acc
  | acc, p :: row => match acc.getLast? with
    | some q => if q.1 = p.1 then joinG (acc.dropLast ++ [(p.1, max q.2 p.2)]) row else joinG (acc ++ [p]) row
    | none => joinG (acc ++ [p]) row
theorem iterS_ok {ws : List Int} {row : List (Bool × Int)} : ∀ (n : Nat) {x : Tr}, okS ws.length x → okS ws.length (iterS (ledS ws row) n x)
  | 0, _, h => h
  | n + 1, _, h => iterS_ok n (ledS_ok row h)
theorem iterS_add (f : Tr → Tr) (m n : Nat) (x : Tr) : iterS f (m + n) x = iterS f n (iterS f m x) := by
  induction m generalizing x with
  | zero => rw [Nat.zero_add]; rfl
  | succ m ih =>
    rw [show m + 1 + n = (m + n) + 1 by omega]
    show iterS f (m + n) (f x) = iterS f n (iterS f m (f x))
    exact ih (f x)
/-- so many rounds until nothing changes -/
def Settles (f : Tr → Tr) (x : Tr) (t : Nat) : Prop := iterS f (t + 1) x = iterS f t x ∧ ∀ j, j < t → iterS f (j + 1) x ≠ iterS f j x
theorem Settles.on {f : Tr → Tr} {x : Tr} {t : Nat} (h : Settles f x t) {n : Nat} (hn : t ≤ n) : iterS f n x = iterS f t x := by
  obtain ⟨k, rfl⟩ := Nat.exists_eq_add_of_le hn
  rw [iterS_add]
  have : f (iterS f t x) = iterS f t x := (iterS_succ f t x).symm.trans h.1
  exact iterS_fix this k
theorem Settles.one {f : Tr → Tr} {x : Tr} {t : Nat} (h : Settles f x t) {j : Nat} (hj : iterS f (j + 1) x = iterS f j x) : t ≤ j := by
  rcases Nat.lt_or_ge j t with h' | h'
  · exact absurd hj (h.2 j h')
  · exact h'
theorem Settles.of {f : Tr → Tr} {x : Tr} : ∀ (j : Nat), iterS f (j + 1) x = iterS f j x → ∃ t, Settles f x t ∧ t ≤ j := by
  intro j
  induction j using Nat.strongRecOn with
  | _ j ih =>
    intro hj
    by_cases h : ∃ i, i < j ∧ iterS f (i + 1) x = iterS f i x
    · obtain ⟨i, hi, e⟩ := h
      obtain ⟨t, ht, hti⟩ := ih i hi e
      exact ⟨t, ht, by omega⟩
    · exact ⟨j, ⟨hj, fun i hi e => h ⟨i, hi, e⟩⟩, Nat.le_refl j⟩
theorem Settles.uniq {f : Tr → Tr} {x : Tr} {t u : Nat} (h : Settles f x t) (h' : Settles f x u) : t = u := Nat.le_antisymm (h.one h'.1) (h'.one h.1)
theorem sub_len : ∀ {xs ys : List Int}, xs.Nodup → (∀ i ∈ xs, i ∈ ys) → xs.length ≤ ys.length
  | [], _, _, _ => Nat.zero_le _
  | x :: xs, ys, hn, h => by
    obtain ⟨hx, hn⟩ := List.nodup_cons.mp hn
    have hy := h x List.mem_cons_self
    have := sub_len (xs := xs) (ys := ys.erase x) hn fun i hi => (List.mem_erase_of_ne (fun e => hx (by rw [← e]; exact hi))).mpr (h i (List.mem_cons_of_mem _ hi))
    rw [List.length_erase_of_mem hy] at this
    have : 0 < ys.length := List.length_pos_of_mem hy
    rw [List.length_cons]; omega
/-- what stands behind the strongest tilt of a round -/
def topA (ws : List Int) (pre : List (Bool × Int)) (b : Bool) (S : Int) (x : Tr) : Tr := tiltS ws b S (ledS ws pre x)
section
variable {ws : List Int} {row pre post : List (Bool × Int)} {b : Bool} {S : Int} {x : Tr}
end
theorem inT0_len {b : Bool} {m : Int} : (inT0 b m).2.1.length = 0 := by cases b <;> rfl
theorem iterS_congr {n : Nat} {f g : Tr → Tr} (hfg : ∀ y, okS n y → f y = g y) (hok : ∀ y, okS n y → okS n (f y)) : ∀ (k : Nat) {x : Tr}, okS n x → iterS f k x = iterS g k x
  | 0, _, _ => rfl
  | k + 1, x, h => by
    show iterS f k (f x) = iterS g k (g x)
    rw [iterS_congr hfg hok k (hok x h), hfg x h]
theorem Settles.congr {n : Nat} {f g : Tr → Tr} {x : Tr} {t : Nat} (h : Settles f x t) (hx : okS n x) (hfg : ∀ y, okS n y → f y = g y) (hok : ∀ y, okS n y → okS n (f y)) : Settles g x t := by
  have e := fun k => iterS_congr hfg hok k hx
  exact ⟨by rw [← e, ← e]; exact h.1, fun j hj => by rw [← e, ← e]; exact h.2 j hj⟩
/-- the standings of so many rounds -/
def iterL (f : Tr → Tr) (n : Nat) (y : Tr) : List Tr := (List.range n).map fun t => iterS f t y
/-- the deep ones that are full -/
def fullL (ws : List Int) (S : Int) (y : Tr) : List Int := y.2.1.filter fun q => decide (S ≤ gI ws q)
end Lw

/-! Vk: lots that lean, steps, who is kept to a side. -/
namespace Lw
open PySem PySem.Spec PyProof.Rows L2 Pv
/-- the pits at least so deep -/
def deepI (s : Int) (ws : List Int) : List Int := (enumI 0 ws).filterMap fun p => if s ≤ p.2 then some (p.1 : Int) else none
/-- a lot's pits are pits -/
def okL (n : Nat) (lot : List Int) : Prop := lot.Pairwise (· < ·) ∧ ∀ p ∈ lot, 0 ≤ p ∧ p < n
theorem okL.len {n : Nat} {lot : List Int} (h : okL n lot) : lot.length ≤ n := by have := rise_len lot 0 n h.1 h.2; omega
def beyL (n : Nat) (p : Int) (b : Bool) : List Int := if b then (irange (p + 1) n).reverse else irange 0 p
def deepB (ws : List Int) (p : Int) (b : Bool) : List Int := (beyL ws.length p b).filter fun i => decide (gI ws p < gI ws i)
def bareB (ws lot : List Int) (p : Int) (b : Bool) : List Int := (deepB ws p b).filter fun i => !decide (i ∈ lot)
/-- the pits of a lot beyond which a deeper bare one lies -/
def hindL (ws lot : List Int) (b : Bool) : List Int := lot.filter fun p => decide (0 < ((bareB ws lot p b).length : Int))
def hindO (ws lot : List Int) (b : Bool) : List Int := if b then (hindL ws lot b).reverse else hindL ws lot b
def leanB (ws lot : List Int) (b : Bool) : Bool := (hindL ws lot b).isEmpty
def leastD (ws lot : List Int) : Int := mn (lot.map (gI ws))
/-- bare pits deeper than the least deep one of a lot, from afar -/
def edgeP (ws lot : List Int) (p : Int) : Bool := decide (leastD ws lot < gI ws p) && !decide (p ∈ lot)
def edgeL (ws lot : List Int) (b : Bool) : List Int := (beyL ws.length (if b then -1 else ws.length) b).filter (edgeP ws lot)
def edgeO (ws lot : List Int) (b : Bool) : PyData := if 0 < ((edgeL ws lot b).length : Int) then .int (gI (edgeL ws lot b) 0) else .none
def deepP (ws lot : List Int) (s : Int) : List Int := (deepI s ws).filter fun p => decide (p ∈ lot)
def restL (ws lot : List Int) (b : Bool) : List Int := lot.filter fun p => !decide (p ∈ beyL ws.length (gI (edgeL ws lot b) 0) b)
/-- the lot ahead of a lot -/
def aheadL (ws lot : List Int) (b : Bool) : List Int :=
  if 0 < ((edgeL ws lot b).length : Int) then (if 0 < ((restL ws lot b).length : Int) then deepP ws lot (leastD ws (restL ws lot b)) else []) else []
/-- a lot leans: beyond each of its pits no deeper one is bare -/
def leanP (ws lot : List Int) (b : Bool) : Prop := ∀ p ∈ lot, ∀ q ∈ beyL ws.length p b, gI ws p < gI ws q → q ∈ lot
theorem okL.nil {n : Nat} : okL n [] := ⟨.nil, fun _ h => nomatch h⟩
theorem okL.filter {n : Nat} {lot : List Int} (h : okL n lot) (f : Int → Bool) : okL n (lot.filter f) := ⟨h.1.filter _, fun p hp => h.2 p (List.mem_filter.mp hp).1⟩
/-- the lots on the way to a lot -/
def stepsG (ws : List Int) (b : Bool) : Nat → List Int → List (List Int)
  | 0, _ => []
  | n + 1, lot => if lot.length = 0 then [] else lot :: stepsG ws b n (aheadL ws lot b)
def lotsD (ls : List (List Int)) : List D := ls.map fun l => .tuple (l.map .int)

/-! ### kept to a side -/
theorem okS.lot {n : Nat} {x : Tr} (h : okS n x) : okL n x.2.1 := h.2.2
/-- what lies in the tray of a side -/
def thr (b : Bool) (x : Tr) : Int := src (!b) x
def roomL (ws lot : List Int) (e : Int) (b : Bool) : List Int := (beyL ws.length e b).filter fun q => decide (gI ws q < leastD ws lot)
def edge1 (ws lot : List Int) (b : Bool) : Int := gI (edgeL ws lot b) 0
def keptP (ws : List Int) (b : Bool) (x : Tr) : Prop := src b x = 0 ∧ leanP ws x.2.1 b ∧ (0 < x.2.1.length → 0 < (edgeL ws x.2.1 b).length → thr b x ≤ ((roomL ws x.2.1 (edge1 ws x.2.1 b) b).length : Int))
/-- .. as the program tells it -/
def keptB (ws : List Int) (x : Tr) (b : Bool) : Bool := !decide (0 < src b x) && (leanB ws x.2.1 b && (decide (x.2.1.length = 0) || (decide ((edgeL ws x.2.1 b).length = 0) || decide (thr b x ≤ ((roomL ws x.2.1 (edge1 ws x.2.1 b) b).length : Int)))))
def keptL (ws : List Int) (x : Tr) : List Bool := [false, true].filter (keptB ws x)
def ledB (ws : List Int) (x : Tr) : Bool := keptB ws x false || keptB ws x true
/-! ### reasons -/
def hind1 (ws lot : List Int) (b : Bool) : Int := gI (hindO ws lot b) 0
def bare1 (ws lot : List Int) (b : Bool) : Int := gI (bareB ws lot (hind1 ws lot b) b) 0
def barO (ws lot : List Int) (b : Bool) : PyData := if 0 < ((hindO ws lot b).length : Int) then .tuple [.int (hind1 ws lot b), .int (bare1 ws lot b)] else .none
def reasonD (ws : List Int) (x : Tr) (b : Bool) : PyData :=
  if 0 < src b x then .tuple [.str "tray"]
  else if 0 < ((hindO ws x.2.1 b).length : Int) then .tuple [.str "pits", .int (hind1 ws x.2.1 b), .int (bare1 ws x.2.1 b)]
  else if 0 < (x.2.1.length : Int) ∧ 0 < ((edgeL ws x.2.1 b).length : Int) ∧ ((roomL ws x.2.1 (edge1 ws x.2.1 b) b).length : Int) < thr b x then .tuple [.str "room", .int (edge1 ws x.2.1 b)]
  else .none
def barsD (ws : List Int) (x : Tr) : PyData := if ledB ws x then .none else .tuple [reasonD ws x false, reasonD ws x true]
/-- pits drawn one by one, so far -/
theorem okL.snoc {n j : Nat} {vs : List Int} (h : okL j vs) (hj : j < n) : okL (j + 1) (vs ++ [(j : Int)]) ∧ okL (j + 1) vs := by
  refine ⟨⟨?_, fun p hp => ?_⟩, h.1, fun p hp => by have := h.2 p hp; omega⟩
  · rw [List.pairwise_append]
    exact ⟨h.1, List.pairwise_singleton _ _, fun a ha b hb => by have := h.2 a ha; rw [List.mem_singleton.mp hb]; omega⟩
  · rcases List.mem_append.mp hp with hp | hp
    · have := h.2 p hp; omega
    · rw [List.mem_singleton.mp hp]; omega
theorem okL.irange (n : Nat) : okL n (irange 0 n) := ⟨irange_lt _ _, fun p hp => mem_irange.mp hp⟩
def optI : Option Int → D
  | some k => .int k
  | none => .none
theorem v_eqO {k k' : Nat} {o : Option Int} {j : Int} {R : KC} (q : R 0 (.bool (decide (o = some j)))) : ap2 oEq (.v k (optI o)) (.v k' (.int j)) R := ap2_op (by
  cases o with
  | none =>
    show shp .none ∧ shp (.int j) ∧ R 0 (.bool (PyData.eqv .none (.int j)))
    refine ⟨dep_shp (n := 0) rfl (by decide), dep_shp (n := 0) rfl (by decide), ?_⟩
    have : PyData.eqv .none (.int j) = false := by simp [PyData.eqv]
    rw [this]; simpa using q
  | some i =>
    show R 0 (.bool (decide (i = j)))
    have : decide (some i = some j) = decide (i = j) := by simp
    rw [this] at q; exact q)
theorem okD_opt {n : Nat} {o : Option Int} : okD n (optI o) := by cases o; exact okD_non; exact okD_int
end Lw

/-! Vj: channels that deepen to one side. -/
namespace Lw
open PySem PySem.Spec PyProof.Rows L2 Pv
/-- a spot, seen as if the channel deepened to the right -/
def fl (r : Bool) (n : Nat) (i : Int) : Int := if r then i else n - 1 - i
def flL (r : Bool) (n : Nat) (lot : List Int) : List Int := if r then lot else (lot.map fun (p : Int) => (n : Int) - 1 - p).reverse
/-- depths fall towards the shallow side -/
def Mono (r : Bool) (ws : List Int) : Prop := ∀ p q : Int, 0 ≤ p → p < ws.length → 0 ≤ q → q < ws.length → (gI ws p < gI ws q ↔ fl r ws.length p < fl r ws.length q)
/-- who is led, as the law looks -/
def flS (r : Bool) (n : Nat) (x : Tr) : Tr := if r then x else (x.2.2, flL false n x.2.1, x.1)
def wholeB (n : Nat) (l : List Int) : Bool := decide (l.length = 0) || decide (l = irange (gI l 0) n)
def lastB (n : Nat) (l : List Int) : Bool := decide (l = irange (n - l.length) n)
def dueB (r : Bool) (n : Nat) (x : Tr) : Bool :=
  (decide ((flS r n x).2.2 = 0) && (wholeB n (flS r n x).2.1 || decide ((flS r n x).1 ≤ gI (flS r n x).2.1 0))) || (decide ((flS r n x).1 = 0) && lastB n (flS r n x).2.1)
/-! ### the steps -/
def runsN (lot : List Int) : Nat := (lot.filter fun p => !decide (p + 1 ∈ lot)).length
/-- the last pits lean to the deep side -/
def lastL (r : Bool) (n : Nat) (m : Int) : List Int := if r then irange (n - m) n else irange 0 m
end Lw

/-! Vt: what channels look like from their ends, and what is heard of two. -/
namespace Lw
open PySem PySem.Spec PyProof.Rows L2 Pv
/-- depths from a side -/
def dl (b : Bool) (ws : List Int) : List Int := if b then ws.reverse else ws
def endsL (ws : List Int) (b : Bool) (s : Int) (m : Nat) : List Int := ((dl b ws).filter fun w => decide (s ≤ w)).take m
/-- the depths of a lot -/
def FD (ws lot : List Int) : List Int := lot.map (gI ws)
/-- leans to a side, the other tray bare -/
def LK (ws : List Int) (b : Bool) (x : Tr) : Prop := src b x = 0 ∧ leanP ws x.2.1 b
/-- alike from both ends, as far as so many beads hear -/
def Alike (ws vs : List Int) (m : Nat) : Prop := ∀ b s, endsL ws b s m = endsL vs b s m
theorem Alike.le {ws vs : List Int} {m k : Nat} (h : Alike ws vs m) (hk : k ≤ m) : Alike ws vs k := fun b s => by
  have := congrArg (List.take k) (h b s)
  unfold endsL at this ⊢
  rwa [List.take_take, List.take_take, Nat.min_eq_left hk] at this
structure Corr (ws vs : List Int) (m : Nat) (b : Bool) (x y : Tr) : Prop where
  hx : okS ws.length x
  hy : okS vs.length y
  lx : LK ws b x
  ly : LK vs b y
  tr : src (!b) x = src (!b) y
  fd : ∀ w, w ∈ FD ws x.2.1 ↔ w ∈ FD vs y.2.1
  le : beadsS x ≤ m
/-! ### told apart -/
/-- the first place at which two lists are unlike -/
def unl : List Int → List Int → Option Nat
  | [], [] => none
  | a :: l, c :: k => if a = c then (unl l k).map (· + 1) else some 0
  | [], _ :: _ => some 0
  | _ :: _, [] => some 0
def rowT (b : Bool) (s : Int) (mine its : List Int) : List (Bool × Int) := (!b, s) :: if mine.length = its.length then [(b, max (gL mine) (gL its))] else []
/-- what is told of two channels -/
def toldT (ws vs : List Int) (m : Nat) : List (Bool × Int) → Option (Nat × Bool × List (Bool × Int))
  | [] => none
  | (b, s) :: l => match unl (endsL ws b s m) (endsL vs b s m) with
    | none => toldT ws vs m l
    | some i => some (i + 1, b, rowT b s ((endsL ws b s m).take (i + 1)) ((endsL vs b s m).take (i + 1)))
def keysT (ws vs : List Int) : List (Bool × Int) := (srt (ws ++ vs)).map (false, ·) ++ (srt (ws ++ vs)).map (true, ·)
/-- .. as data -/
def toldD (o : Option (Nat × Bool × List (Bool × Int))) : D := match o with
  | none => .none
  | some r => .tuple [.int r.1, .str (sideS r.2.1), .list (r.2.2.map (prW false))]
end Lw

/-! Vu: all turned about. -/
namespace Lw
open PySem PySem.Spec PyProof.Rows L2 Pv
theorem v_lkS {b : Bool} {k : Nat} {R : KC} (q : R 0 (.str (sideS (!b)))) : ap1 (oLk [("left", "right"), ("right", "left")]) (.v k (.str (sideS b))) R := ap1_op (by
  cases b
  · show pickT R (lkS [("left", "right"), ("right", "left")] "left")
    rw [show lkS [("left", "right"), ("right", "left")] "left" = some "right" by decide +kernel]; exact q
  · show pickT R (lkS [("left", "right"), ("right", "left")] "right")
    rw [show lkS [("left", "right"), ("right", "left")] "right" = some "left" by decide +kernel]; exact q)
theorem nb_optI (o : Option Int) : Nb (optI o) := by cases o with | none => exact nb_non | some i => exact nb_int i
theorem v_neOO {k k' : Nat} {o o' : Option Int} {R : KC} (q : R 0 (.bool (!decide (o = o')))) : ap2 oNe (.v k (optI o)) (.v k' (optI o')) R := v_ne (.mk (nb_optI o)) (.mk (nb_optI o')) fun c hc => by
  have : c = decide (o = o') := by
    have h : optI o = optI o' ↔ o = o' := ⟨fun h => by cases o <;> cases o' <;> first | rfl | (cases h; done) | (cases h; rfl), fun h => by rw [h]⟩
    rw [Bool.eq_iff_iff, hc, decide_eq_true_iff]; exact h
  rw [this]; exact q
def flipS (n : Nat) (x : Tr) : Tr := (x.2.2, turnI n x.2.1, x.1)
def flipR (row : List (Bool × Int)) : List (Bool × Int) := row.map fun p => (!p.1, p.2)
end Lw

/-! Vd: dicts of ints; lots grown till they lean. -/
namespace Lw
open PySem PySem.Spec PyProof.Rows L2 Pv
def lbeyL (n : Nat) (p : Int) (b : Bool) : List Int := if b then irange (p + 1) n else (irange 0 p).reverse
section
variable {r r' : Res} {R : KC} {k : Nat} {es : List (Int × D)}
theorem v_listD (h : r.d = dctD es) (q : R 1 (.list ((es.map (·.1)).map .int))) : apN (at1 oListD) [r] R := apN_op ⟨es, h, q⟩
theorem v_eqD0 (h : r.d = dctD es) (h' : r'.d = dctD []) (q : R 0 (.bool es.isEmpty)) : ap2 (oEqD0 fun b => b) r r' R := ap2_op ⟨es, [], h, h', .inr rfl, by
  have : (es.length == ([] : List (Int × D)).length) = es.isEmpty := by cases es <;> rfl
  rw [this]; exact q⟩
theorem v_neD0 (h : r.d = dctD es) (h' : r'.d = dctD []) (q : R 0 (.bool (!es.isEmpty))) : ap2 (oEqD0 fun b => !b) r r' R := ap2_op ⟨es, [], h, h', .inr rfl, by
  have : (es.length == ([] : List (Int × D)).length) = es.isEmpty := by cases es <;> rfl
  show R 0 (.bool (!(es.length == ([] : List (Int × D)).length)))
  rw [this]; exact q⟩
theorem v_ixK {i : Int} {d : D} (h : r.d = dctD es) (he : valE es i = some d) (q : R 0 d) : ap2 oIxD r (.v k (.int i)) R := ap2_op ⟨es, i, d, h, rfl, he, q⟩
end
theorem dep_side {n : Nat} {b : Bool} : dep n (.str (sideS b)) = true := okD_side.1
theorem inD_sides {b : Bool} {bs : List Bool} : inD (.str (sideS b)) (bs.map fun b => .str (sideS b)) = decide (b ∈ bs) := by
  unfold inD
  rw [List.any_map, Bool.eq_iff_iff, List.any_eq_true, decide_eq_true_iff]
  have key : ∀ c : Bool, PyData.eqv (.str (sideS c)) (.str (sideS b)) = decide (c = b) := fun c => by cases b <;> cases c <;> simp [PyData.eqv] <;> decide +kernel
  constructor
  · rintro ⟨c, h1, h2⟩
    have h2 : PyData.eqv (.str (sideS c)) (.str (sideS b)) = true := h2
    rw [key, decide_eq_true_iff] at h2
    rw [← h2]; exact h1
  · intro h
    exact ⟨b, h, by show PyData.eqv (.str (sideS b)) (.str (sideS b)) = true; rw [key]; exact decide_eq_true rfl⟩
theorem v_inB {r : Res} {R : KC} {k : Nat} {b : Bool} {bs : List Bool} (h : r.d = .list (bs.map fun b => .str (sideS b))) (q : R 0 (.bool (decide (b ∈ bs)))) : ap2 oIn (.v k (.str (sideS b))) r R := ap2_op (by
  show dIn (fun b => b) (.str (sideS b)) R r.d
  rw [h]
  refine ⟨dep_shp (n := 0) dep_side (by decide), dep_shp (n := 1) (List.all_eq_true.mpr fun d hd => ?_) (by decide), ?_⟩
  · obtain ⟨c, _, rfl⟩ := List.mem_map.mp hd
    exact dep_side
  · rw [inD_sides]; exact q)
theorem nb_sides (bs : List Bool) : Nb (.list (bs.map fun b => .str (sideS b))) := List.all_eq_true.mpr fun d hd => by
  obtain ⟨c, _, rfl⟩ := List.mem_map.mp hd
  cases c <;> decide +kernel
theorem sd_l : PyData.str (Str.ofString "left") = PyData.str (sideS false) := rfl
theorem sd_r : PyData.str (Str.ofString "right") = PyData.str (sideS true) := rfl
theorem keepC_0 {d : D} : keepC (some ⟨0, d⟩) = some ⟨0, d⟩ := rfl
theorem lend_no {P : Nat → Prop} : ∀ j, j ∈ ([] : List Nat) → P j := fun _ h => nomatch h
/-! ### keys -/
def keysE (es : List (Int × D)) : List Int := es.map (·.1)
/-! ### grown till it leans -/
def grewB (ws lot : List Int) (b : Bool) (p : Int) : Bool := lot.any fun q => decide (p ∈ deepB ws q b)
def growL (ws lot : List Int) (b : Bool) : List Int := (irange 0 ws.length).filter fun p => decide (p ∈ lot) || grewB ws lot b p
def lowL (ws lot : List Int) (b : Bool) : List Int := lot.filter fun p => !grewB ws lot b p
/-! ### what hinders, as a law tells it -/
def bareW (ws lot : List Int) (b : Bool) (q : Int) : List Int := (lbeyL ws.length q b).filter fun r => decide (gI ws q < gI ws r) && !decide (r ∈ lot)
def hindE (ws lot : List Int) (b : Bool) (xs : List Int) : List (Int × D) := (xs.filter fun q => !(bareW ws lot b q).isEmpty).map fun q => (q, .list ((bareW ws lot b q).map .int))
end Lw

/-! Vb: data of any kind, bounded. -/
namespace Lw
open PySem PySem.Spec PyProof.Rows L2 Pv
/-- what a law's part that is asked more than once is to show -/
def ph__law_rightB : Phi := fun args R => ∃ (m : Nat) (xd : D), args = [ow xd] ∧ Bk (m + 2 ^ 40) (ow xd) ∧ ∀ x', Bk m (ow x') → R (sh (.bool true)) [ow x']
/-- at most n levels, of at most L things each, ints to M, short texts -/
def anyP (L M : Nat) : Nat → D → Prop
  | _, .none => True
  | _, .bool _ => True
  | _, .int i => i.natAbs ≤ M
  | _, .str x => PyData.strOk x = true ∧ x.length ≤ 20
  | n + 1, .list ds => ds.length ≤ L ∧ ∀ d ∈ ds, anyP L M n d
  | n + 1, .tuple ds => ds.length ≤ L ∧ ∀ d ∈ ds, anyP L M n d
  | 0, .list _ => False
  | 0, .tuple _ => False
  | _, .dict _ => False
section
variable {L M : Nat}
theorem anyP_non {n : Nat} : anyP L M n .none := by cases n <;> trivial
theorem anyP_bl {n : Nat} {b : Bool} : anyP L M n (.bool b) := by cases n <;> trivial
theorem anyP_int {n : Nat} {i : Int} : anyP L M n (.int i) ↔ i.natAbs ≤ M := by cases n <;> exact Iff.rfl
theorem anyP_str {n : Nat} {x : Str} : anyP L M n (.str x) ↔ PyData.strOk x = true ∧ x.length ≤ 20 := by cases n <;> exact Iff.rfl
theorem anyP_dict {n : Nat} {kvs : List (D × D)} : ¬ anyP L M n (.dict kvs) := by cases n <;> exact fun h => h
theorem anyP_list {n : Nat} {ds : List D} : anyP L M n (.list ds) ↔ ∃ k, n = k + 1 ∧ ds.length ≤ L ∧ ∀ d ∈ ds, anyP L M k d := by
  cases n with
  | zero => exact ⟨fun h => h.elim, fun ⟨k, h, _⟩ => by cases h⟩
  | succ n => exact ⟨fun h => ⟨n, rfl, h⟩, fun ⟨k, h, h2⟩ => by cases h; exact h2⟩
theorem anyP_tup {n : Nat} {ds : List D} : anyP L M n (.tuple ds) ↔ ∃ k, n = k + 1 ∧ ds.length ≤ L ∧ ∀ d ∈ ds, anyP L M k d := by
  cases n with
  | zero => exact ⟨fun h => h.elim, fun ⟨k, h, _⟩ => by cases h⟩
  | succ n => exact ⟨fun h => ⟨n, rfl, h⟩, fun ⟨k, h, h2⟩ => by cases h; exact h2⟩
theorem anyP_mono {L' M' : Nat} (hL : L ≤ L') (hM : M ≤ M') : ∀ (n m : Nat) (d : D), n ≤ m → anyP L M n d → anyP L' M' m d
  | n, m, .none, _, _ => anyP_non
  | n, m, .bool _, _, _ => anyP_bl
  | n, m, .int i, _, h => anyP_int.mpr (Nat.le_trans (anyP_int.mp h) hM)
  | n, m, .str x, _, h => anyP_str.mpr (anyP_str.mp h)
  | n + 1, m + 1, .list ds, hn, h => ⟨Nat.le_trans h.1 hL, fun d hd => anyP_mono hL hM n m d (by omega) (h.2 d hd)⟩
  | n + 1, m + 1, .tuple ds, hn, h => ⟨Nat.le_trans h.1 hL, fun d hd => anyP_mono hL hM n m d (by omega) (h.2 d hd)⟩
  | 0, _, .list _, _, h => h.elim
  | 0, _, .tuple _, _, h => h.elim
  | _ + 1, 0, _, hn, _ => by omega
  | n, _, .dict _, _, h => (anyP_dict h).elim
theorem strG_flat {n : Nat} {x : Str} (h : PyData.strOk x = true) : dep n (.str x) = true := dep_mono 0 n _ (Nat.zero_le _) (by
  show (flatD (.str x) && (PyData.str x).canLay0) = true
  rw [show (PyData.str x).canLay0 = true from h]; rfl)
theorem anyP_dep : ∀ (n : Nat) (d : D), anyP L M n d → dep n d = true
  | n, .none, _ => by cases n <;> rfl
  | n, .bool _, _ => by cases n <;> rfl
  | n, .int _, _ => by cases n <;> rfl
  | n, .str x, h => strG_flat (anyP_str.mp h).1
  | n + 1, .list ds, h => List.all_eq_true.mpr fun d hd => anyP_dep n d (h.2 d hd)
  | n + 1, .tuple ds, h => List.all_eq_true.mpr fun d hd => anyP_dep n d (h.2 d hd)
  | 0, .list _, h => h.elim
  | 0, .tuple _, h => h.elim
  | n, .dict _, h => (anyP_dict h).elim
/-- how long its text may be -/
def rbL (L : Nat) : Nat → Nat
  | 0 => 210
  | n + 1 => (rbL L n + 2) * L + 213
theorem rbL_ge (L : Nat) : ∀ n, 210 ≤ rbL L n
  | 0 => Nat.le_refl _
  | n + 1 => by show 210 ≤ (rbL L n + 2) * L + 213; omega
theorem anyP_rep (hM : M < 10 ^ 19) : ∀ (n : Nat) (d : D), anyP L M n d → Rep n (rbL L n) d
  | n, .none, _ => ⟨rfl, rfl, Nat.zero_le _, Nat.le_trans (show (4 : Nat) ≤ 210 by decide) (rbL_ge L n)⟩
  | n, .bool b, _ => ⟨rfl, rfl, Nat.zero_le _, Nat.le_trans (by cases b <;> decide +kernel : (PyData.bool b).shown.length ≤ 210) (rbL_ge L n)⟩
  | n, .int i, h => (Rep.int (Nat.lt_of_le_of_lt (anyP_int.mp h) hM)).mono (Nat.zero_le _) (Nat.le_trans (by decide) (rbL_ge L n))
  | n, .str x, h => ⟨(anyP_str.mp h).1, rfl, Nat.zero_le _, Nat.le_trans (by
      have hs := anyP_str.mp h
      have h1 := StrLaws.reprText_len x (fun c hc => by
        have h2 := hs.1
        unfold PyData.strOk at h2
        rw [← Array.all_toList] at h2
        have := of_decide_eq_true (List.all_eq_true.mp h2 c hc)
        exact Nat.lt_trans this (by decide))
      show (reprText x).length ≤ 210
      have := hs.2
      omega) (rbL_ge L n)⟩
  | n + 1, .list ds, h => (Rep.list (m := n) (n := rbL L n) fun d hd => anyP_rep hM n d (h.2 d hd)).mono (Nat.le_refl _) (by
      show (rbL L n + 2) * ds.length + 3 ≤ (rbL L n + 2) * L + 213
      have := Nat.mul_le_mul_left (rbL L n + 2) h.1
      omega)
  | n + 1, .tuple ds, h => (Rep.tuple (m := n) (n := rbL L n) fun d hd => anyP_rep hM n d (h.2 d hd)).mono (Nat.le_refl _) (by
      show (rbL L n + 2) * ds.length + 3 ≤ (rbL L n + 2) * L + 213
      have := Nat.mul_le_mul_left (rbL L n + 2) h.1
      omega)
  | 0, .list _, h => h.elim
  | 0, .tuple _, h => h.elim
  | n, .dict _, h => (anyP_dict h).elim
theorem strG_int {i : Int} (h : i.natAbs < 10 ^ 19) : PyData.strOk (Str.ofString (toString i)) = true ∧ (Str.ofString (toString i)).length ≤ 20 := by
  refine ⟨?_, ?_⟩
  · unfold PyData.strOk
    rw [← Array.all_toList]
    refine List.all_eq_true.mpr fun c hc => decide_eq_true ?_
    refine Classical.byContradiction fun hz => ?_
    exact int_text_free' c ⟨by omega, by omega⟩ i hc
  · rw [PySem.ofString_length]
    exact int_text_length_le10 (k := 19) (by decide) h
end
theorem log_lt {i : Int} {M : Nat} (h : i.natAbs ≤ M) (hM : M ≤ 10 ^ 18) : i.natAbs.log2 < 1920 := by
  by_cases h0 : i.natAbs = 0
  · rw [h0]; decide
  · refine (Nat.log2_lt h0).mpr (Nat.lt_of_le_of_lt (Nat.le_trans h hM) ?_)
    exact Nat.lt_of_lt_of_le (show 10 ^ 18 < 2 ^ 60 by decide) (Nat.pow_le_pow_right (by decide) (by decide))
theorem ixN_pos {n : Nat} {t : Int} (h0 : 0 ≤ t) (h1 : t < n) : ixN n t = some t.toNat := by
  unfold ixN
  rw [if_pos h0, if_pos (by omega)]
section
variable {L M k : Nat} {ds : List D}
theorem any_items (hi : ∀ d ∈ ds, anyP L M k d) : ∀ d ∈ ds, anyP (L + 1) (M + 1) (k + 1) d := fun d hd => anyP_mono (by omega) (by omega) _ _ _ (by omega) (hi d hd)
theorem any_er (hl : ds.length ≤ L) (hi : ∀ d ∈ ds, anyP L M k d) (n : Nat) : anyP (L + 1) (M + 1) (k + 1 + 1) (.list (ds.eraseIdx n)) ∧ anyP (L + 1) (M + 1) (k + 1 + 1) (.tuple (ds.eraseIdx n)) := by
  have hs := List.eraseIdx_sublist ds n
  have h1 : (ds.eraseIdx n).length ≤ L + 1 := by have := hs.length_le; omega
  have h2 : ∀ d ∈ ds.eraseIdx n, anyP (L + 1) (M + 1) (k + 1) d := fun d hd => any_items hi d (hs.subset hd)
  exact ⟨⟨h1, h2⟩, ⟨h1, h2⟩⟩
theorem any_ins (hl : ds.length ≤ L) (hi : ∀ d ∈ ds, anyP L M k d) (n : Nat) {e : D} (he : e ∈ ds) : anyP (L + 1) (M + 1) (k + 1 + 1) (.list (ds.take n ++ [e] ++ ds.drop n)) ∧ anyP (L + 1) (M + 1) (k + 1 + 1) (.tuple (ds.take n ++ [e] ++ ds.drop n)) := by
  have h1 : (ds.take n ++ [e] ++ ds.drop n).length ≤ L + 1 := by rw [List.length_append, List.length_append, List.length_take, List.length_drop, List.length_singleton]; omega
  have h2 : ∀ d ∈ ds.take n ++ [e] ++ ds.drop n, anyP (L + 1) (M + 1) (k + 1) d := fun d hd => by
    refine any_items hi d ?_
    rcases List.mem_append.mp hd with hd | hd
    · rcases List.mem_append.mp hd with hd | hd
      · exact List.mem_of_mem_take hd
      · rw [List.mem_singleton.mp hd]; exact he
    · exact List.mem_of_mem_drop hd
  exact ⟨⟨h1, h2⟩, ⟨h1, h2⟩⟩
theorem any_set (hl : ds.length ≤ L) (hi : ∀ d ∈ ds, anyP L M k d) (n : Nat) {e : D} (he : anyP (L + 1) (M + 1) (k + 1) e) : anyP (L + 1) (M + 1) (k + 1 + 1) (.list (ds.set n e)) ∧ anyP (L + 1) (M + 1) (k + 1 + 1) (.tuple (ds.set n e)) := by
  have h1 : (ds.set n e).length ≤ L + 1 := by rw [List.length_set]; omega
  have h2 : ∀ d ∈ ds.set n e, anyP (L + 1) (M + 1) (k + 1) d := fun d hd => by
    rcases List.mem_or_eq_of_mem_set hd with hd | hd
    · exact any_items hi d hd
    · rw [hd]; exact he
  exact ⟨⟨h1, h2⟩, ⟨h1, h2⟩⟩
end
def obD : Option Bool → D
  | some b => .bool b
  | none => .none
theorem v_isOb {k k' : Nat} {o : Option Bool} {c : Bool} {R : KC} (q : R 0 (.bool (decide (o = some c)))) : ap2 oIsB (.v k (obD o)) (.v k' (.bool c)) R := ap2_op (by
  cases o with
  | none => exact q
  | some b =>
    show R 0 (.bool (decide (b = c)))
    have : decide (some b = some c) = decide (b = c) := by cases b <;> cases c <;> rfl
    rw [this] at q; exact q)
theorem v_notOb {k k' : Nat} {o : Option Bool} {c : Bool} {R : KC} (q : R 0 (.bool (!decide (o = some c)))) : ap2 oNotB (.v k (obD o)) (.v k' (.bool c)) R := ap2_op (by
  cases o with
  | none => exact q
  | some b =>
    show R 0 (.bool (!decide (b = c)))
    have : decide (some b = some c) = decide (b = c) := by cases b <;> cases c <;> rfl
    rw [this] at q; exact q)
/-- a comprehension over data of any kind -/
theorem lc_anyD (g : D → D) {own : List Nat} {tg : FG} {ft : FT} {fe : FE} {r : Res} {R : List D → Pv.Env → Prop} {E : Pv.Env} {X : List D}
    (step : ∀ x acc (N : List D → Pv.Env → Prop), x ∈ X → acc.length < sizeLine → N (acc ++ [g x]) E →
      toEnv (fun e1 => ft e1 fun b e2 => match b with
        | true => fe e2 fun ry e3 => noB [ry] ∧ acc.length < sizeLine ∧ N (acc ++ [ry.d]) (wipeE e3 own)
        | false => N acc (wipeE e2 own)) (tg x E))
    (hr : okb E r) (hl : Hold (X.length ≤ sizeLine)) (fin : R (X.map g) E) : apL (lcGo own tg ft fe r R) X [] E := by
  have := lc_mp id g (own := own) (tg := tg) (ft := ft) (fe := fe) (r := r) (R := R) (E := E) (X := X) step hr hl fin
  rwa [List.map_id] at this
theorem ix_in {ds : List D} {t : Int} (h0 : 0 ≤ t) (h1 : t < ds.length) : ∃ e, ix ds t = some e ∧ e ∈ ds ∧ ds[t.toNat]? = some e := by
  have hl : t.toNat < ds.length := by omega
  refine ⟨ds[t.toNat], ?_, List.getElem_mem hl, List.getElem?_eq_getElem hl⟩
  unfold ix
  rw [if_pos h0, List.getElem?_eq_getElem hl]
end Lw

/-! Vs: reasons that are shown. -/
namespace Lw
open PySem PySem.Spec PyProof.Rows L2 Pv
inductive Rsn where
  | tray | pits (p q : Int) | room (e : Int)
  deriving DecidableEq
def dR : Rsn → D
  | .tray => .tuple [.str "tray"]
  | .pits p q => .tuple [.str "pits", .int p, .int q]
  | .room e => .tuple [.str "room", .int e]
def reasonO (ws : List Int) (x : Tr) (b : Bool) : Option Rsn :=
  if 0 < src b x then some .tray
  else if 0 < ((hindO ws x.2.1 b).length : Int) then some (.pits (hind1 ws x.2.1 b) (bare1 ws x.2.1 b))
  else if 0 < (x.2.1.length : Int) ∧ 0 < ((edgeL ws x.2.1 b).length : Int) ∧ ((roomL ws x.2.1 (edge1 ws x.2.1 b) b).length : Int) < thr b x then some (.room (edge1 ws x.2.1 b))
  else none
def optR : Option Rsn → D
  | some r => dR r
  | none => .none
def inN (n : Nat) (p : Int) : Bool := decide (0 ≤ p) && decide (p < n)
def showsP (ws lot : List Int) (b : Bool) (p q : Int) : Bool := (inN ws.length p && inN ws.length q) && (decide (p ∈ lot) && decide (q ∈ bareB ws lot p b))
def showsM (ws : List Int) (x : Tr) (b : Bool) (e : Int) : Bool := (inN ws.length e && (decide (0 < x.2.1.length) && !decide (e ∈ x.2.1))) && (decide (leastD ws x.2.1 < gI ws e) && decide (((roomL ws x.2.1 e b).length : Int) < thr b x))
def showsR (ws : List Int) (x : Tr) (b : Bool) : Rsn → Bool
  | .tray => decide (0 < src b x)
  | .pits p q => showsP ws x.2.1 b p q
  | .room e => showsM ws x b e
def showsQ (ws : List Int) (x : Tr) (r r' : Rsn) : Bool := showsR ws x false r && showsR ws x true r'
end Lw

/-! Vf: lots, reasons, steps, turned about. -/
namespace Lw
open PySem PySem.Spec PyProof.Rows L2 Pv
def tp (n : Nat) (p : Int) : Int := (n : Int) - 1 - p
section
variable {ws lot : List Int} {b : Bool}
def barI (ws lot : List Int) (b : Bool) : Option (Int × Int) := if 0 < ((hindO ws lot b).length : Int) then some (hind1 ws lot b, bare1 ws lot b) else none
def optP : Option (Int × Int) → D
  | some p => .tuple [.int p.1, .int p.2]
  | none => .none
end
section
variable {ws : List Int} {x : Tr} {b : Bool}
def flRsn (n : Nat) : Rsn → Rsn
  | .tray => .tray
  | .pits p q => .pits (tp n p) (tp n q)
  | .room e => .room (tp n e)
end
section
variable {ws lot : List Int} {b : Bool}
end
end Lw

/-! Vo: channels whose depths stand in the same order. -/
namespace Lw
open PySem PySem.Spec PyProof.Rows L2 Pv
def SameO (ws vs : List Int) : Prop := vs.length = ws.length ∧ ∀ p q : Int, 0 ≤ p → p < ws.length → 0 ≤ q → q < ws.length → (gI vs p < gI vs q ↔ gI ws p < gI ws q)
def SameT (ws vs : List Int) (s s' : Int) : Prop := vs.length = ws.length ∧ ∀ q : Int, 0 ≤ q → q < ws.length → (gI vs q < s' ↔ gI ws q < s)
section
variable {ws vs lot : List Int} {b : Bool}
end
/-! tilts by strengths that stand alike -/
/-- two rows, tilt by tilt alike -/
inductive RowT (ws vs : List Int) : List (Bool × Int) → List (Bool × Int) → Prop
  | nil : RowT ws vs [] []
  | cons {b : Bool} {s s' : Int} {r r' : List (Bool × Int)} : SameT ws vs s s' → RowT ws vs r r' → RowT ws vs ((b, s) :: r) ((b, s') :: r')
/-- how many are less deep -/
def rkI (ws : List Int) (w : Int) : Nat := (ws.filter fun v => decide (v < w)).length
def StrR (ws : List Int) (low s : Int) : Prop := 1 ≤ s ∧ ∀ w ∈ ws, (w < s ↔ (rkI ws w : Int) < low)
/-- a row whose strengths stand where they are told to -/
def RowR (us : List Int) (lows r : List (Bool × Int)) : Prop := r.map (·.1) = lows.map (·.1) ∧ ∀ (i : Nat) (p q : Bool × Int), lows[i]? = some p → r[i]? = some q → StrR us p.2 q.2
theorem RowR.nil (us : List Int) : RowR us [] [] := ⟨rfl, fun i p q h => by simp at h⟩
theorem RowR.len {us : List Int} {lows r : List (Bool × Int)} (h : RowR us lows r) : r.length = lows.length := by
  have := congrArg List.length h.1
  rwa [List.length_map, List.length_map] at this
theorem RowR.snoc {us : List Int} {lows r : List (Bool × Int)} {b : Bool} {low s : Int} (h : RowR us lows r) (hs : StrR us low s) : RowR us (lows ++ [(b, low)]) (r ++ [(b, s)]) := by
  refine ⟨by rw [List.map_append, List.map_append, h.1]; rfl, fun i p q e1 e2 => ?_⟩
  have hl := h.len
  by_cases hi : i < lows.length
  · rw [List.getElem?_append_left hi] at e1
    rw [List.getElem?_append_left (by omega)] at e2
    exact h.2 i p q e1 e2
  · rw [List.getElem?_append_right (by omega)] at e1
    rw [List.getElem?_append_right (by omega), hl] at e2
    cases hk : i - lows.length with
    | zero => rw [hk] at e1 e2; cases e1; cases e2; exact hs
    | succ k => rw [hk] at e1; simp at e1
end Lw

/-! Va: reasons of any kind. -/
namespace Lw
open PySem PySem.Spec PyProof.Rows L2 Pv
def cntB : D → Bool
  | .int i => decide (0 ≤ i)
  | _ => false
def cntN (n : Nat) : D → Bool
  | .int i => inN n i
  | _ => false
def pitsB (ws lot : List Int) (b : Bool) : List D → Bool
  | [.int p, .int q] => showsP ws lot b p q
  | _ => false
def roomB (ws : List Int) (x : Tr) (b : Bool) : List D → Bool
  | [.int e] => showsM ws x b e
  | _ => false
def wordB (ws : List Int) (x : Tr) (b : Bool) (w : Str) (r : List D) : Bool :=
  if w = "tray" then r.isEmpty && decide (0 < src b x) else if w = "pits" then pitsB ws x.2.1 b r else if w = "room" then roomB ws x b r else false
def reasonB (ws : List Int) (x : Tr) (b : Bool) : D → Bool
  | .tuple (.str w :: r) => wordB ws x b w r
  | _ => false
def barB (ws : List Int) (x : Tr) : D → Bool
  | .tuple [r, r'] => reasonB ws x false r && reasonB ws x true r'
  | _ => false
def intsR (M : Nat) : Rsn → Prop
  | .tray => True
  | .pits p q => p.natAbs ≤ M ∧ q.natAbs ≤ M
  | .room e => e.natAbs ≤ M
end Lw

/-! Vp: how a lot that leans is laid: tilts across and back, step by step. -/
namespace Lw
open PySem PySem.Spec PyProof.Rows L2 Pv
/-- the lot is full, the other beads lie in the tray of the side -/
def laidS (b : Bool) (lot : List Int) (c : Nat) : Tr := if b then (0, lot, (c : Int) - lot.length) else ((c : Int) - lot.length, lot, 0)
/-- lots one behind the other, each ahead of the next -/
def chainP (ws : List Int) (b : Bool) (held : List Int) : List Int → List (List Int) → Prop
  | _, [] => True
  | prev, l :: ls => prev = aheadL ws l b ∧ 0 < l.length ∧ okL ws.length l ∧ leanP ws l b ∧ (l = held.filter fun q => decide (leastD ws l ≤ gI ws q)) ∧ chainP ws b held l ls
/-! ### room beyond the edge -/
def withS (b : Bool) (lot : List Int) (r : Int) : Tr := if b then (0, lot, r) else (r, lot, 0)
def lowW (ws : List Int) : Prop := ∀ w ∈ ws, w ≤ 10 ^ 13
/-- there is a bare deeper pit -/
def edgy (ws lot : List Int) (b : Bool) : Bool := decide (0 < lot.length) && decide (0 < (edgeL ws lot b).length)
def roomN (ws lot : List Int) (b : Bool) : Int := ((roomL ws lot (edge1 ws lot b) b).length : Int)
def roomD (ws lot : List Int) (b : Bool) : D := if edgy ws lot b = true then .int (roomN ws lot b) else .none
end Lw

set_option autoImplicit false
/-! Vw: channels that are unlike in the midst alone. -/
namespace Lw
open PySem PySem.Spec PyProof.Rows L2 Pv
end Lw

/-! Vc: how many in a list. -/
namespace Lw
open PySem PySem.Spec PyProof.Rows L2 Pv
end Lw

namespace Lw
open PySem PySem.Spec PyProof.Rows L2 Pv
local macro_rules | `(tactic| row_room_at pv_il) => `(tactic| (repeat' (first | exact IL.nil | exact IL.map _ | apply IL.cons | apply IL.app)))
local macro_rules | `(tactic| row_room_at pv_rl) => `(tactic| (repeat' (first | exact RL.nil | exact RL.map _ | apply RL.consR | apply RL.consL | apply RL.consS | apply RL.app)))
local macro_rules | `(tactic| row_room_at pv_ev) => `(tactic| (repeat ((try (conv => whnf)); first | (with_reducible refine apP_op ?_) | (with_reducible refine apF_op ?_) | (with_reducible refine apL_op ?_) | (with_reducible refine ap2_op ?_) | (with_reducible refine apN_op ?_) | (with_reducible refine ap1_op ?_) | (with_reducible refine ovr_op ?_) | (with_reducible refine ovr2_op ?_) | (with_reducible refine ev_okb_v ?_) | (with_reducible refine ev_scr ?_) | ((with_reducible refine ev_okb ?_ ?_); exact rfl) | ((with_reducible refine ev_dis ?_ ?_); exact rfl) | ((with_reducible refine ev_noB ?_ ?_); exact trivial) | ((with_reducible refine ev_own ?_ ?_); exact trivial) | ((with_reducible refine ev_flat ?_ ?_); exact trivial) | ((with_reducible refine ev_flat ?_ ?_); exact Nat.le_refl 1) | ((with_reducible refine ev_away ?_ ?_); exact rfl) | ((with_reducible refine ev_lst ?_ ?_ ?_); exact trivial; exact rfl) | ((with_reducible refine ev_len ?_ ?_); exact rfl) | ((with_reducible refine ev_ix ?_ ?_); exact rfl) | ((with_reducible refine ev_aug ?_ ?_); exact rfl) | (refine unpk_tE ?_) | (refine unpk_lE ?_))); try (conv => whnf))
local macro_rules | `(tactic| row_room_at pv_cl) => `(tactic| (try simp only [List.getD_cons_zero, List.getD_cons_succ, putIos, startE, getC, List.map_cons, List.map_nil, List.cons_append, List.nil_append, List.replicate, List.length_cons, List.length_nil, List.set_cons_zero, List.set_cons_succ, Nat.reduceAdd, Nat.reduceSub, wipeE, back, List.getElem?_cons_zero, List.getElem?_cons_succ, Res.d_v, Res.d_b, dsOf, Nat.zero_add, Bool.false_eq_true, if_false, keepC_none]))
local macro_rules | `(tactic| row_room_at pv_sd) => `(tactic| (first | assumption | (apply wireOk.p; assumption) | exact Ints.t _ | exact Ints.l _ | exact StdS.o _ | exact StdS.mk _ _ _ | exact StdS.ml _ _ _ | exact Row.l _ | exact Row.t _ | exact Row.wl _ _ | exact Row.wt _ _ | exact Sq.t _ | exact Sq.l _ | exact Ints.t0 | exact Ints.l0 | exact Row.l0 | exact Row.t0 | exact StdS.mk0 _ _ | exact Row.l1 _ _ | exact Row.l1r _ | exact Row.l1l _ | (apply Ints.ofIL; row_room_at pv_il; done) | (apply Ints.ofILt; row_room_at pv_il; done) | (apply Row.ofRL; row_room_at pv_rl; done) | (apply Row.ofRLt; row_room_at pv_rl; done)))
local macro_rules | `(tactic| row_room_at pv_fl) => `(tactic| (first | exact trivial | exact Nat.le_refl 1))
local macro_rules | `(tactic| row_room_at pv_nb) => `(tactic| (first | exact nb_dS _ | exact nb_tupI _ | exact nb_listI _ | exact nb_int _ | exact nb_non | exact nb_side _ | exact nb_nil | exact nb_nilT | exact nb_row _ | exact nb_sides _ | (refine nb_ints ?_; assumption)))
local macro_rules | `(tactic| row_room_at pv_oks) => `(tactic| (repeat' (first | (with_reducible assumption) | omega | refine ledS_ok _ ?_ | refine tiltS_ok ?_ _ _ | refine iterS_ok _ ?_ | refine inT0_ok ?_ _)))
local macro_rules | `(tactic| row_room_at pv_sdn) => `(tactic| (first | (apply wireOk.p; assumption) | exact Ints.t _ | exact Ints.l _ | exact StdS.o _ | exact StdS.mk _ _ _ | exact StdS.ml _ _ _ | exact Row.l _ | exact Row.t _ | exact Row.wl _ _ | exact Row.wt _ _ | exact Sq.t _ | exact Sq.l _ | exact Ints.t0 | exact Ints.l0 | exact Row.l0 | exact Row.t0 | exact StdS.mk0 _ _ | exact Row.l1 _ _ | exact Row.l1r _ | exact Row.l1l _ | (apply Ints.ofIL; row_room_at pv_il; done) | (apply Ints.ofILt; row_room_at pv_il; done) | (apply Row.ofRL; row_room_at pv_rl; done) | (apply Row.ofRLt; row_room_at pv_rl; done)))
local macro_rules | `(tactic| row_room_at pv_hs) => `(tactic| (refine Hold.mk ?_; first | (with_reducible assumption) | omega | row_room_at pv_nb | (simp only [Int.reduceToNat, List.length_map, List.length_reverse, List.length_append, List.length_cons, List.length_nil, srt_len, irange_len, List.length_take, List.length_drop, inT0_len] <;> omega) | (dsimp only; first | (with_reducible assumption) | omega | (simp only [Int.reduceToNat, List.length_map, List.length_reverse, List.length_append, List.length_cons, List.length_nil, srt_len, irange_len, List.length_take, List.length_drop, inT0_len] <;> omega)) | exact rfl | exact trivial | (exact pos_of_ne (by assumption)) | (refine flt_le ?_; simp only [Int.reduceToNat, List.length_map, List.length_reverse, List.length_append, List.length_cons, List.length_nil, srt_len, irange_len, List.length_take, List.length_drop, inT0_len] <;> omega) | (refine flt_lt ?_; simp only [Int.reduceToNat, List.length_map, List.length_reverse, List.length_append, List.length_cons, List.length_nil, srt_len, irange_len, List.length_take, List.length_drop, inT0_len] <;> omega) | (row_room_at pv_oks; done) | (apply okS.le; (focus (row_room_at pv_oks; done)); omega) | row_room_at pv_sdn | decide))
local macro_rules | `(tactic| row_room_at pv_ok) => `(tactic| (repeat' (first | exact okD_int | exact okD_opt | exact okD_bl | exact okD_non | exact okD_side | (refine okD_dS ?_; try row_room_at pv_hs) | refine okDs_nil | refine okDs_cons ?_ ?_ | (refine okD_L ?_ ?_; try row_room_at pv_hs) | (refine okD_T ?_ ?_; try row_room_at pv_hs) | (refine okDs_map ?_; intro y hy))))
local macro_rules | `(tactic| row_room_at pv_and) => `(tactic| (first | (with_reducible refine ev_okb_v ?_) | (with_reducible refine ev_scr ?_) | ((with_reducible refine ev_okb ?_ ?_); exact rfl) | ((with_reducible refine ev_dis ?_ ?_); exact rfl) | ((with_reducible refine ev_noB ?_ ?_); exact trivial) | ((with_reducible refine ev_own ?_ ?_); exact trivial) | ((with_reducible refine ev_flat ?_ ?_); exact trivial) | ((with_reducible refine ev_flat ?_ ?_); exact Nat.le_refl 1) | ((with_reducible refine ev_away ?_ ?_); exact rfl) | ((with_reducible refine ev_lst ?_ ?_ ?_); exact trivial; exact rfl) | ((with_reducible refine ev_len ?_ ?_); exact rfl) | ((with_reducible refine ev_ix ?_ ?_); exact rfl) | ((with_reducible refine ev_aug ?_ ?_); exact rfl) | ((with_reducible refine And.intro ?_ ?_); (focus (first | exact True.intro | exact rfl | exact ⟨trivial, trivial⟩ | exact ⟨trivial, Nat.le_refl 1⟩))) | ((with_reducible refine And.intro ?_ ?_); (focus with_reducible assumption)) | ((with_reducible refine And.intro lend_no ?_); simp only [lendG, keepC_0, keepC_none, Nat.reduceBEq, Nat.reduceAdd, Nat.zero_add, List.contains_nil, Bool.or_false, cond_true, cond_false, BEq.rfl]) | (refine And.intro (lend_bx (by with_reducible assumption)) ?_) | (((with_reducible refine ev_pow ?_ ?_); (focus decide))) | (((with_reducible refine ev_cat ?_ ?_ ?_ ?_); (focus row_room_at pv_fl); (focus row_room_at pv_fl); (first | (focus row_room_at pv_hs) | rotate_left))) | (((with_reducible refine ev_div ?_ ?_ ?_); (focus row_room_at pv_hs); (focus row_room_at pv_hs))) | (((with_reducible refine ev_rg ?_ ?_ ?_ ?_); all_goals (try row_room_at pv_hs); all_goals (try simp only [rngD_eq]))) | (((with_reducible refine ev_rgdn ?_ ?_ ?_); all_goals (try row_room_at pv_hs); all_goals (try simp only [rngDn_eq]))) | (((with_reducible refine ev_r1 ?_ ?_ ?_); all_goals (try row_room_at pv_hs); all_goals (try simp only [rngD_eq]))) | (((with_reducible refine ev_r2 ?_ ?_ ?_ ?_ ?_); all_goals (try row_room_at pv_hs); all_goals (try simp only [rngD_eq]))) | (((with_reducible refine ev_sz ?_ ?_); (first | (focus row_room_at pv_hs) | rotate_left))) | (((with_reducible refine ev_szl ?_ ?_); (first | (focus row_room_at pv_hs) | rotate_left)))))
local macro_rules | `(tactic| row_room_at pv_op2) => `(tactic| (first | ((refine v_in (by row_room_at pv_sd) ?_)) | ((refine v_notIn (by row_room_at pv_sd) ?_)) | ((with_reducible refine v_ixD1 ?_)) | (((with_reducible refine v_reprV ?_ ?_); (first | (focus row_room_at pv_hs) | rotate_left))) | (((with_reducible refine v_reprB ?_ ?_); (first | (focus row_room_at pv_hs) | rotate_left))) | ((with_reducible refine v_eqW ?_)) | ((with_reducible refine v_neW ?_)) | ((refine v_ixS0 (by assumption) ?_)) | ((refine v_ixS1 (by assumption) ?_; intro dl hdl)) | ((refine v_ixS2 (by assumption) ?_)) | ((refine v_eqNL rfl rfl ?_ ?_; (first | (focus row_room_at pv_hs) | rotate_left))) | ((refine v_neNL rfl rfl ?_ ?_; (first | (focus row_room_at pv_hs) | rotate_left))) | ((refine v_eqNT rfl rfl ?_ ?_; (first | (focus row_room_at pv_hs) | rotate_left))) | ((refine v_neNT rfl rfl ?_ ?_; (first | (focus row_room_at pv_hs) | rotate_left))) | ((with_reducible refine v_eqD (by with_reducible assumption) ?_)) | (((have hEqD : EqD _ _ _ := by with_reducible assumption); clear hEqD; (try simp only [sh_d, sh_k, dsOf, Res.d_v]); refine v_eqD (by with_reducible assumption) ?_)) | ((with_reducible refine v_neD (by with_reducible assumption) ?_)) | (((have hEqD : EqD _ _ _ := by with_reducible assumption); clear hEqD; (try simp only [sh_d, sh_k, dsOf, Res.d_v]); refine v_neD (by with_reducible assumption) ?_)) | ((with_reducible refine v_eqO ?_)) | ((with_reducible refine v_neOO ?_)) | ((with_reducible refine v_eqR ?_)) | ((with_reducible refine v_eqL ?_)) | ((with_reducible refine v_eqSS ?_)) | ((with_reducible refine v_eqS ?_)) | ((with_reducible refine v_neS ?_)) | ((with_reducible refine v_eqI ?_)) | ((with_reducible refine v_neI ?_)) | ((with_reducible refine v_eqTT ?_)) | ((with_reducible refine v_neTT ?_)) | ((with_reducible refine v_eqLL ?_)) | ((with_reducible refine v_neLL ?_)) | ((refine v_ixA rfl (by row_room_at pv_fl) ?_)) | ((refine v_ixF rfl (by row_room_at pv_fl) (by with_reducible assumption) ?_)) | ((refine v_ixLI (by row_room_at pv_sd) (by row_room_at pv_fl) ?_ ?_; (first | (focus row_room_at pv_hs) | rotate_left))) | ((refine v_ixL (by row_room_at pv_sd) (by row_room_at pv_fl) ?_ ?_; (first | (focus row_room_at pv_hs) | rotate_left); intro y hy)) | ((refine v_ixI (by row_room_at pv_sd) (by row_room_at pv_fl) ?_ ?_ ?_; (first | (focus row_room_at pv_hs) | rotate_left); (first | (focus row_room_at pv_hs) | rotate_left))) | ((refine v_ixM (.inl rfl) (by row_room_at pv_fl) ?_ ?_ ?_; (first | (focus row_room_at pv_hs) | rotate_left); (first | (focus row_room_at pv_hs) | rotate_left))) | ((refine v_ixM (.inr rfl) (by row_room_at pv_fl) ?_ ?_ ?_; (first | (focus row_room_at pv_hs) | rotate_left); (first | (focus row_room_at pv_hs) | rotate_left))) | ((refine v_index rfl (by row_room_at pv_fl) ?_ ?_; (first | (focus row_room_at pv_hs) | rotate_left))) | ((refine v_catL rfl rfl (by row_room_at pv_fl) (by row_room_at pv_fl) ?_ ?_; (first | (focus row_room_at pv_hs) | rotate_left))) | ((refine v_catT rfl rfl (by row_room_at pv_fl) (by row_room_at pv_fl) ?_ ?_; (first | (focus row_room_at pv_hs) | rotate_left))) | ((refine v_catIL rfl rfl (by row_room_at pv_il) (by row_room_at pv_il) (by row_room_at pv_fl) (by row_room_at pv_fl) ?_ ?_; (first | (focus row_room_at pv_hs) | rotate_left))) | ((refine v_catIT rfl rfl (by row_room_at pv_il) (by row_room_at pv_il) (by row_room_at pv_fl) (by row_room_at pv_fl) ?_ ?_; (first | (focus row_room_at pv_hs) | rotate_left))) | ((refine v_rep rfl (by row_room_at pv_fl) ?_ ?_ ?_ ?_; (first | (focus row_room_at pv_hs) | rotate_left); (first | (focus row_room_at pv_hs) | rotate_left); (first | (focus row_room_at pv_hs) | rotate_left))) | (((with_reducible refine v_mulR ?_ ?_ ?_); (focus row_room_at pv_hs); (focus row_room_at pv_hs))) | (((with_reducible refine v_mulL ?_ ?_ ?_); (focus row_room_at pv_hs); (focus row_room_at pv_hs))) | (((refine v_repT rfl ?_ ?_ ?_); (focus row_room_at pv_hs); (focus row_room_at pv_hs))) | ((with_reducible refine v_isOb ?_)) | ((with_reducible refine v_notOb ?_)) | ((refine v_inB rfl ?_)) | ((refine v_eqD0 rfl rfl ?_)) | ((refine v_neD0 rfl rfl ?_)) | ((refine v_ixK rfl (by with_reducible assumption) ?_)) | (with_reducible refine ap2_op ?_)))
local macro_rules | `(tactic| row_room_at pv_opN) => `(tactic| (first | ((refine v_lenI (by row_room_at pv_sd) ?_)) | ((refine v_lenM (by row_room_at pv_sd) ?_)) | ((refine v_len (by row_room_at pv_sd) ?_)) | ((refine v_list (by row_room_at pv_sd) (by row_room_at pv_fl) ?_)) | ((refine v_tuple (by row_room_at pv_sd) (by row_room_at pv_fl) ?_)) | ((refine v_sorted rfl (by row_room_at pv_fl) ?_)) | ((refine v_sortedS rfl (by row_room_at pv_fl) ?_ (fun us hus hum hul => ?_); (focus row_room_at pv_hs))) | ((refine v_sortedS1 rfl (by row_room_at pv_fl) ?_ (fun us hus hum hul => ?_); (focus row_room_at pv_hs))) | ((refine v_sortedT rfl ?_)) | ((refine v_sortedI (by row_room_at pv_sd) (by row_room_at pv_fl) ?_)) | ((refine v_sortedP rfl (by row_room_at pv_fl) (fun ps2 hps2 => ?_))) | ((refine v_maxDf rfl (by row_room_at pv_fl) ?_)) | ((refine v_max (by row_room_at pv_sd) (by row_room_at pv_fl) ?_ ?_; (first | (focus row_room_at pv_hs) | rotate_left))) | ((refine v_min (by row_room_at pv_sd) (by row_room_at pv_fl) ?_ ?_; (first | (focus row_room_at pv_hs) | rotate_left))) | ((refine v_all rfl trivial ?_)) | ((refine v_any rfl trivial ?_)) | (((with_reducible refine v_reprV ?_ ?_); (first | (focus row_room_at pv_hs) | rotate_left))) | (((with_reducible refine v_reprB ?_ ?_); (first | (focus row_room_at pv_hs) | rotate_left))) | ((refine v_listD rfl ?_)) | (with_reducible refine apN_op ?_)))
local macro_rules | `(tactic| row_room_at pv_op1) => `(tactic| (first | ((refine v_revL rfl (by row_room_at pv_fl) ?_)) | ((refine v_revT rfl (by row_room_at pv_fl) ?_)) | ((refine v_fwdL rfl (by row_room_at pv_fl) ?_)) | ((refine v_fwdT rfl (by row_room_at pv_fl) ?_)) | ((refine v_slButL rfl (by row_room_at pv_fl) ?_)) | ((refine v_slButT rfl ?_)) | ((refine v_slMidL rfl (by row_room_at pv_fl) ?_)) | ((refine v_slLastL rfl (by row_room_at pv_fl) ?_)) | ((refine v_slInL rfl (by row_room_at pv_fl) ?_ ?_ ?_; (first | (focus row_room_at pv_hs) | rotate_left); (first | (focus row_room_at pv_hs) | rotate_left))) | ((refine v_slInT rfl ?_ ?_ ?_; (first | (focus row_room_at pv_hs) | rotate_left); (first | (focus row_room_at pv_hs) | rotate_left))) | ((refine v_slToL rfl (by row_room_at pv_fl) ?_ ?_; (first | (focus row_room_at pv_hs) | rotate_left))) | ((refine v_slToT rfl (by row_room_at pv_fl) ?_ ?_; (first | (focus row_room_at pv_hs) | rotate_left))) | ((refine v_slFromL rfl (by row_room_at pv_fl) ?_ ?_; (first | (focus row_room_at pv_hs) | rotate_left))) | ((refine v_slFromT rfl (by row_room_at pv_fl) ?_ ?_; (first | (focus row_room_at pv_hs) | rotate_left))) | ((with_reducible refine v_isT ?_)) | ((with_reducible refine v_isL ?_)) | ((with_reducible refine v_isS ?_)) | ((with_reducible refine v_isB ?_)) | ((with_reducible refine v_isI ?_)) | ((with_reducible refine v_isLT ?_)) | ((with_reducible refine v_lkS ?_)) | ((with_reducible refine v_isOb ?_)) | (with_reducible refine ap1_op ?_)))
local macro_rules | `(tactic| row_room_at pv_ov) => `(tactic| (first | ((refine v_seqP (by assumption) ?_; intro wr k1 d1)) | ((refine v_seq (by row_room_at pv_sd) ?_; intro k1 d1)) | ((refine v_enum (by row_room_at pv_sd) ?_)) | ((refine v_enumM (.inl rfl) ?_)) | ((refine v_enumM (.inr rfl) ?_)) | (with_reducible refine ovr_op ?_)))
local macro_rules | `(tactic| row_room_at pv_ov2) => `(tactic| (first | (with_reducible refine ovr2_op ?_)))
local macro_rules | `(tactic| row_room_at pv_late) => `(tactic| (first | (refine ev_onD ?_) | (refine ev_onInts ?_) | (refine ev_at1D ?_) | (refine v_unpP ?_) | (refine v_unpS (by assumption) ?_; intro dl hdl) | (refine unpk_tE ?_) | (refine unpk_lE ?_) | (simp only [gs_n, gs_t, gs_0, unpk_t, unpk_l, dsOf, List.map_cons, List.map_nil, Res.d_v, Res.d_b, List.length_cons, List.length_nil, Nat.zero_add, Nat.reduceAdd, if_true]) | (exact hN) | (exact hR _) | (refine hT ?_; (focus (first | exact decide_eq_true hc | (simp [*]; done) | (simp [*]; (try intro hz); omega)))) | (refine hF ?_; (focus (first | exact decide_eq_false hc | (simp [*]; done) | (simp [*]; (try intro hz); omega)))) | (refine R_of hR ?_ ?_; all_goals (try row_room_at pv_hs)) | (simp only [List.getD_cons_zero, List.getD_cons_succ, putIos, startE, getC, List.map_cons, List.map_nil, List.cons_append, List.nil_append, List.replicate, List.length_cons, List.length_nil, List.set_cons_zero, List.set_cons_succ, Nat.reduceAdd, Nat.reduceSub, wipeE, back, List.getElem?_cons_zero, List.getElem?_cons_succ, Res.d_v, Res.d_b, dsOf, Nat.zero_add, Bool.false_eq_true, if_false, keepC_none]) | (split <;> rename_i hc <;> (try simp only [decide_eq_true_eq, decide_eq_false_iff_not, Bool.not_eq_true', Bool.not_eq_false', Bool.not_eq_true, Bool.not_eq_false, Int.not_lt, Int.not_le, Bool.not_not, beq_iff_eq] at hc) <;> (try (cases hc; done)) <;> (try (exact absurd True.intro hc)) <;> (try contradiction) <;> (try (exfalso; omega)) <;> (try subst hc))))
local macro_rules | `(tactic| row_room_at pv_latex) => `(tactic| (first | (refine ev_onD ?_) | (refine ev_onInts ?_) | (refine ev_at1D ?_) | (refine v_unpP ?_) | (refine v_unpS (by assumption) ?_; intro dl hdl) | (refine unpk_tE ?_) | (refine unpk_lE ?_) | (simp only [gs_n, gs_t, gs_0, unpk_t, unpk_l, dsOf, List.map_cons, List.map_nil, Res.d_v, Res.d_b, List.length_cons, List.length_nil, Nat.zero_add, Nat.reduceAdd, if_true]) | (exact hN) | (exact hR _) | (refine hT ?_; (focus (first | exact decide_eq_true hc | (simp [*]; done) | (simp [*]; (try intro hz); omega)))) | (refine hF ?_; (focus (first | exact decide_eq_false hc | (simp [*]; done) | (simp [*]; (try intro hz); omega)))) | (refine R_of hR ?_ ?_; all_goals (try row_room_at pv_hs))))
local macro_rules | `(tactic| row_room_at pv_end) => `(tactic| (all_goals (try (conv => whnf)); all_goals row_room_at pv_cl; all_goals (try row_room_at pv_hs)))
local macro_rules | `(tactic| row_room_at pv_leaft) => `(tactic| (first | assumption | exact leaf_bk (by assumption) | exact leaf_strs1 | exact leaf_ints | exact leaf_strs | exact leaf_bn | exact leaf_log | exact leaf_pages | exact leafI_imm rfl | exact leafI_imm (imm_ch _) | exact leafI_imm (imm_dS _) | exact leafI_list fun x hx => (List.not_mem_nil hx).elim))
local macro_rules | `(tactic| row_room_at pv_kept) => `(tactic| (first | exact True.intro | (refine And.intro ?_ ?_; (focus (first | exact True.intro | exact And.intro rfl (by row_room_at pv_leaft)))) ))
local macro_rules | `(tactic| row_room_at pv_immt) => `(tactic| (first | exact rfl | exact imm_ch _ | exact imm_dS _ | exact imm_pg _ | row_room_at pv_leaft))
local macro_rules | `(tactic| row_room_at pv_lends) => `(tactic| (try simp only [lendG, keepC_0, keepC_s, keepC_none, Nat.reduceBEq, Nat.reduceAdd, Nat.zero_add, List.contains_cons, List.contains_nil, Bool.or_false, Bool.false_or, Bool.or_true, Bool.true_or, cond_true, cond_false, BEq.rfl, List.set_cons_zero, List.set_cons_succ]))

def topS (i : Nat) : Stmt := PySem.Challenge.pw_tiltpits_k01_channels_lots_standings_or.main.body.getD i (.Pass ⟨0, 0, 0, 0⟩)
local macro_rules | `(tactic| row_room_at pv_st_is_number) => `(tactic| ((try ((with_reducible show toEnv _ _); (first | refine toEnv_go rfl ?_ | refine toEnv_gT rfl rfl ?_); row_room_at pv_cl)); (try (conv => whnf)); first | ((with_reducible show _ ∧ _); row_room_at pv_and) | ((with_reducible show ap2 _ _ _ _); row_room_at pv_op2) | ((with_reducible show apN _ _ _); row_room_at pv_opN) | ((with_reducible show ap1 _ _ _); row_room_at pv_op1) | ((with_reducible show ovr _ _); row_room_at pv_ov) | ((with_reducible show ovr2 _ _ _); row_room_at pv_ov2) | row_room_at pv_late))
local macro_rules | `(tactic| row_room_at pv_go_is_number) => `(tactic| (repeat' row_room_at pv_st_is_number))
local macro_rules | `(tactic| row_room_at pv_gox_is_number) => `(tactic| (repeat' ((try ((with_reducible show toEnv _ _); (first | refine toEnv_go rfl ?_ | refine toEnv_gT rfl rfl ?_); row_room_at pv_cl)); (try (conv => whnf)); first | ((with_reducible show _ ∧ _); row_room_at pv_and) | ((with_reducible show ap2 _ _ _ _); row_room_at pv_op2) | ((with_reducible show apN _ _ _); row_room_at pv_opN) | ((with_reducible show ap1 _ _ _); row_room_at pv_op1) | ((with_reducible show ovr _ _); row_room_at pv_ov) | ((with_reducible show ovr2 _ _ _); row_room_at pv_ov2) | row_room_at pv_latex)))
local macro_rules | `(tactic| row_room_at pv_gou_is_number) => `(tactic| (repeat' (first | (with_reducible refine apF_op ?_) | (with_reducible refine apL_op ?_) | row_room_at pv_st_is_number)))

def b_is_number : FS := (fRet (fAndV (fOp1 (oIsi ["int"]) (fVar 0)) (fNotV (fOp1 (oIsi ["bool"]) (fVar 0)))))

def numB : D → Bool
  | .int _ => true
  | _ => false
theorem numB_ex {d : D} (h : numB d = true) : ∃ i, d = .int i := by
  cases d with
  | int i => exact ⟨i, rfl⟩
  | _ => cases h
@[irreducible] def ph_is_number : Phi := fun args R => ∃ (d : D) (L M j : Nat), args = [sh d] ∧ (anyP L M j d) ∧ R (sh (.bool (numB d))) []
theorem call_is_number {d : D}{L M j : Nat} {R : Cell → List Cell → Prop} (hd : anyP L M j d) (q : R (sh (.bool (numB d))) []) : ph_is_number [sh d] R := by
  unfold ph_is_number
  exact ⟨d, L, M, j, rfl, hd, q⟩
theorem vc_is_number (args R) (h : ph_is_number args R) : b_is_number (startE 1 args) (defK [false] R) := by
  unfold ph_is_number at h
  obtain ⟨d, L, M, j, rfl, hd, hR⟩ := h
  cases d with
  | dict kvs => exact (anyP_dict hd).elim
  | _ => (row_room_at pv_go_is_number; row_room_at pv_end)

local macro_rules | `(tactic| row_room_at pv_call_is_number) => `(tactic| (refine apP_op (call_is_number (by row_room_at pv_sd) ?_)))
local macro_rules | `(tactic| row_room_at pv_st_is_count) => `(tactic| ((try ((with_reducible show toEnv _ _); (first | refine toEnv_go rfl ?_ | refine toEnv_gT rfl rfl ?_); row_room_at pv_cl)); (try (conv => whnf)); first | ((with_reducible show _ ∧ _); row_room_at pv_and) | ((with_reducible show ap2 _ _ _ _); row_room_at pv_op2) | ((with_reducible show apN _ _ _); row_room_at pv_opN) | ((with_reducible show ap1 _ _ _); row_room_at pv_op1) | ((with_reducible show ovr _ _); row_room_at pv_ov) | ((with_reducible show ovr2 _ _ _); row_room_at pv_ov2) | ((with_reducible show apP _ _ _); row_room_at pv_cl; first | row_room_at pv_call_is_number) | ((with_reducible show apP _ _ _); row_room_at pv_cl; (first | (rw [sd_l]; first | row_room_at pv_call_is_number) | (rw [sd_r]; first | row_room_at pv_call_is_number))) | row_room_at pv_late))
local macro_rules | `(tactic| row_room_at pv_go_is_count) => `(tactic| (repeat' row_room_at pv_st_is_count))
local macro_rules | `(tactic| row_room_at pv_gox_is_count) => `(tactic| (repeat' ((try ((with_reducible show toEnv _ _); (first | refine toEnv_go rfl ?_ | refine toEnv_gT rfl rfl ?_); row_room_at pv_cl)); (try (conv => whnf)); first | ((with_reducible show _ ∧ _); row_room_at pv_and) | ((with_reducible show ap2 _ _ _ _); row_room_at pv_op2) | ((with_reducible show apN _ _ _); row_room_at pv_opN) | ((with_reducible show ap1 _ _ _); row_room_at pv_op1) | ((with_reducible show ovr _ _); row_room_at pv_ov) | ((with_reducible show ovr2 _ _ _); row_room_at pv_ov2) | ((with_reducible show apP _ _ _); row_room_at pv_cl; first | row_room_at pv_call_is_number) | ((with_reducible show apP _ _ _); row_room_at pv_cl; (first | (rw [sd_l]; first | row_room_at pv_call_is_number) | (rw [sd_r]; first | row_room_at pv_call_is_number))) | row_room_at pv_latex)))
local macro_rules | `(tactic| row_room_at pv_gou_is_count) => `(tactic| (repeat' (first | (with_reducible refine apF_op ?_) | (with_reducible refine apL_op ?_) | row_room_at pv_st_is_count)))

def b_is_count : FS := (fRet (fAndV (fCall [false] ph_is_number (fCons (fVar 0) fNil)) (fOp2 oGe (fVar 0) (fC (.int 0)))))

-- VA
@[irreducible] def ph_is_count : Phi := fun args R => ∃ (d : D) (L M j : Nat), args = [sh d] ∧ (anyP L M j d) ∧ R (sh (.bool (cntB d))) []
theorem call_is_count {d : D}{L M j : Nat} {R : Cell → List Cell → Prop} (hd : anyP L M j d) (q : R (sh (.bool (cntB d))) []) : ph_is_count [sh d] R := by
  unfold ph_is_count
  exact ⟨d, L, M, j, rfl, hd, q⟩
theorem vc_is_count (args R) (h : ph_is_count args R) : b_is_count (startE 1 args) (defK [false] R) := by
  unfold ph_is_count at h
  obtain ⟨d, L, M, j, rfl, hd, hR⟩ := h
  cases d with
  | dict kvs => exact (anyP_dict hd).elim
  | _ => (row_room_at pv_go_is_count; row_room_at pv_end)

local macro_rules | `(tactic| row_room_at pv_st_is_side) => `(tactic| ((try ((with_reducible show toEnv _ _); (first | refine toEnv_go rfl ?_ | refine toEnv_gT rfl rfl ?_); row_room_at pv_cl)); (try (conv => whnf)); first | ((with_reducible show _ ∧ _); row_room_at pv_and) | ((with_reducible show ap2 _ _ _ _); row_room_at pv_op2) | ((with_reducible show apN _ _ _); row_room_at pv_opN) | ((with_reducible show ap1 _ _ _); row_room_at pv_op1) | ((with_reducible show ovr _ _); row_room_at pv_ov) | ((with_reducible show ovr2 _ _ _); row_room_at pv_ov2) | row_room_at pv_late))
local macro_rules | `(tactic| row_room_at pv_go_is_side) => `(tactic| (repeat' row_room_at pv_st_is_side))
local macro_rules | `(tactic| row_room_at pv_gox_is_side) => `(tactic| (repeat' ((try ((with_reducible show toEnv _ _); (first | refine toEnv_go rfl ?_ | refine toEnv_gT rfl rfl ?_); row_room_at pv_cl)); (try (conv => whnf)); first | ((with_reducible show _ ∧ _); row_room_at pv_and) | ((with_reducible show ap2 _ _ _ _); row_room_at pv_op2) | ((with_reducible show apN _ _ _); row_room_at pv_opN) | ((with_reducible show ap1 _ _ _); row_room_at pv_op1) | ((with_reducible show ovr _ _); row_room_at pv_ov) | ((with_reducible show ovr2 _ _ _); row_room_at pv_ov2) | row_room_at pv_latex)))
local macro_rules | `(tactic| row_room_at pv_gou_is_side) => `(tactic| (repeat' (first | (with_reducible refine apF_op ?_) | (with_reducible refine apL_op ?_) | row_room_at pv_st_is_side)))

def b_is_side : FS := (fRet (fAndV (fOp1 (oIsi ["str"]) (fVar 0)) (fOp2 oIn (fVar 0) (fC (.tuple [.str "left", .str "right"])))))

def sideB : D → Bool
  | .str s => inD (.str s) [.str (Str.ofString "left"), .str (Str.ofString "right")]
  | _ => false
@[irreducible] def ph_is_side : Phi := fun args R => ∃ (d : D) (L M j : Nat), args = [sh d] ∧ (anyP L M j d) ∧ R (sh (.bool (sideB d))) []
theorem call_is_side {d : D}{L M j : Nat} {R : Cell → List Cell → Prop} (hd : anyP L M j d) (q : R (sh (.bool (sideB d))) []) : ph_is_side [sh d] R := by
  unfold ph_is_side
  exact ⟨d, L, M, j, rfl, hd, q⟩
theorem vc_is_side (args R) (h : ph_is_side args R) : b_is_side (startE 1 args) (defK [false] R) := by
  unfold ph_is_side at h
  obtain ⟨d, L, M, j, rfl, hd, hR⟩ := h
  cases d with
  | str s =>
    have hs := (anyP_str.mp hd).1
    (row_room_at pv_go_is_side; row_room_at pv_end)
    refine ⟨dep_shp (n := 1) (strG_flat hs) (by decide), dep_shp (n := 2) (by decide +kernel) (by decide), ?_⟩
    (row_room_at pv_go_is_side; row_room_at pv_end)
  | dict kvs => exact (anyP_dict hd).elim
  | _ => (row_room_at pv_go_is_side; row_room_at pv_end)

local macro_rules | `(tactic| row_room_at pv_st_is_rising) => `(tactic| ((try ((with_reducible show toEnv _ _); (first | refine toEnv_go rfl ?_ | refine toEnv_gT rfl rfl ?_); row_room_at pv_cl)); (try (conv => whnf)); first | ((with_reducible show _ ∧ _); row_room_at pv_and) | ((with_reducible show ap2 _ _ _ _); row_room_at pv_op2) | ((with_reducible show apN _ _ _); row_room_at pv_opN) | ((with_reducible show ap1 _ _ _); row_room_at pv_op1) | ((with_reducible show ovr _ _); row_room_at pv_ov) | ((with_reducible show ovr2 _ _ _); row_room_at pv_ov2) | row_room_at pv_late))
local macro_rules | `(tactic| row_room_at pv_go_is_rising) => `(tactic| (repeat' row_room_at pv_st_is_rising))
local macro_rules | `(tactic| row_room_at pv_gox_is_rising) => `(tactic| (repeat' ((try ((with_reducible show toEnv _ _); (first | refine toEnv_go rfl ?_ | refine toEnv_gT rfl rfl ?_); row_room_at pv_cl)); (try (conv => whnf)); first | ((with_reducible show _ ∧ _); row_room_at pv_and) | ((with_reducible show ap2 _ _ _ _); row_room_at pv_op2) | ((with_reducible show apN _ _ _); row_room_at pv_opN) | ((with_reducible show ap1 _ _ _); row_room_at pv_op1) | ((with_reducible show ovr _ _); row_room_at pv_ov) | ((with_reducible show ovr2 _ _ _); row_room_at pv_ov2) | row_room_at pv_latex)))
local macro_rules | `(tactic| row_room_at pv_gou_is_rising) => `(tactic| (repeat' (first | (with_reducible refine apF_op ?_) | (with_reducible refine apL_op ?_) | row_room_at pv_st_is_rising)))

def b_is_rising : FS := (fRet (fOpN (at1 oAll) (fCons (fLc [1] (fRange1 (fCons (fOp2 oSub (fOpN (at1 oLen) (fCons (fVar 0) fNil)) (fC (.int 1))) fNil)) (gN 1) fYes (fOp2 oLt (fOp2 oIx (fVar 0) (fVar 1)) (fOp2 oIx (fVar 0) (fOp2 oAdd (fVar 1) (fC (.int 1)))))) fNil)))

def risB (ws : List Int) : Bool := (irange 0 ((ws.length : Int) - 1)).all fun i => decide (gI ws i < gI ws (i + 1))
theorem risB_iff {ws : List Int} : risB ws = true ↔ ws.Pairwise (· < ·) := by
  unfold risB
  rw [List.all_eq_true]
  constructor
  · intro h
    have step : ∀ (i : Nat) (hi : i + 1 < ws.length), ws[i]'(by omega) < ws[i + 1] := fun i hi => by
      have := of_decide_eq_true (h (i : Int) (mem_irange.mpr ⟨by omega, by omega⟩))
      rw [show (i : Int) + 1 = ((i + 1 : Nat) : Int) by omega, gI_nat (by omega), gI_nat hi] at this
      exact this
    have key : ∀ (d i : Nat) (hd : i + (d + 1) < ws.length), ws[i]'(by omega) < ws[i + (d + 1)] := by
      intro d
      induction d with
      | zero => intro i hd; exact step i hd
      | succ d ih =>
        intro i hd
        have h1 := ih i (by omega)
        have h2 := step (i + (d + 1)) (by omega)
        exact Int.lt_trans h1 h2
    refine List.pairwise_iff_getElem.mpr fun i j hi hj hij => ?_
    obtain ⟨d, rfl⟩ : ∃ d, j = i + (d + 1) := ⟨j - i - 1, by omega⟩
    exact key d i hj
  · intro h i hi
    have := mem_irange.mp hi
    obtain ⟨k, rfl⟩ : ∃ k : Nat, i = k := ⟨i.toNat, by omega⟩
    refine decide_eq_true ?_
    rw [show (k : Int) + 1 = ((k + 1 : Nat) : Int) by omega, gI_nat (by omega), gI_nat (by omega)]
    exact List.pairwise_iff_getElem.mp h k (k + 1) (by omega) (by omega) (by omega)
@[irreducible] def ph_is_rising : Phi := fun args R => ∃ (d : D) (ws : List Int), args = [sh d] ∧ (Ints d ws) ∧ (ws.length ≤ 1000) ∧ R (sh (.bool (risB ws))) []
theorem call_is_rising {d : D}{ws : List Int} {R : Cell → List Cell → Prop} (hd : Ints d ws) (hn : Hold (ws.length ≤ 1000)) (q : R (sh (.bool (risB ws))) []) : ph_is_rising [sh d] R := by
  unfold ph_is_rising
  exact ⟨d, ws, rfl, hd, hn.out, q⟩
theorem vc_is_rising (args R) (h : ph_is_rising args R) : b_is_rising (startE 2 args) (defK [false] R) := by
  unfold ph_is_rising at h
  obtain ⟨d, ws, rfl, hd, hn, hR⟩ := h
  (row_room_at pv_go_is_rising; row_room_at pv_end)
  refine lc_mp .int (fun i => .bool (decide (gI ws i < gI ws (i + 1)))) (fun i acc N hq hl2 hN => ?_) trivial (.mk (by rw [irange_len]; exact Nat.le_trans (show ((ws.length : Int) - 1 - 0).toNat ≤ 1000 by omega) (by decide))) ?_
  · have := mem_irange.mp hq
    (row_room_at pv_go_is_rising; row_room_at pv_end)
  (row_room_at pv_go_is_rising; row_room_at pv_end)

local macro_rules | `(tactic| row_room_at pv_call_is_count) => `(tactic| (refine apP_op (call_is_count (by row_room_at pv_sd) ?_)))
local macro_rules | `(tactic| row_room_at pv_call_is_rising) => `(tactic| (refine apP_op (call_is_rising (by row_room_at pv_sd) ?_ ?_); (first | (focus row_room_at pv_hs) | rotate_left)))
local macro_rules | `(tactic| row_room_at pv_st_is_lot) => `(tactic| ((try ((with_reducible show toEnv _ _); (first | refine toEnv_go rfl ?_ | refine toEnv_gT rfl rfl ?_); row_room_at pv_cl)); (try (conv => whnf)); first | ((with_reducible show _ ∧ _); row_room_at pv_and) | ((with_reducible show ap2 _ _ _ _); row_room_at pv_op2) | ((with_reducible show apN _ _ _); row_room_at pv_opN) | ((with_reducible show ap1 _ _ _); row_room_at pv_op1) | ((with_reducible show ovr _ _); row_room_at pv_ov) | ((with_reducible show ovr2 _ _ _); row_room_at pv_ov2) | ((with_reducible show apP _ _ _); row_room_at pv_cl; first | row_room_at pv_call_is_count | row_room_at pv_call_is_rising) | ((with_reducible show apP _ _ _); row_room_at pv_cl; (first | (rw [sd_l]; first | row_room_at pv_call_is_count | row_room_at pv_call_is_rising) | (rw [sd_r]; first | row_room_at pv_call_is_count | row_room_at pv_call_is_rising))) | row_room_at pv_late))
local macro_rules | `(tactic| row_room_at pv_go_is_lot) => `(tactic| (repeat' row_room_at pv_st_is_lot))
local macro_rules | `(tactic| row_room_at pv_gox_is_lot) => `(tactic| (repeat' ((try ((with_reducible show toEnv _ _); (first | refine toEnv_go rfl ?_ | refine toEnv_gT rfl rfl ?_); row_room_at pv_cl)); (try (conv => whnf)); first | ((with_reducible show _ ∧ _); row_room_at pv_and) | ((with_reducible show ap2 _ _ _ _); row_room_at pv_op2) | ((with_reducible show apN _ _ _); row_room_at pv_opN) | ((with_reducible show ap1 _ _ _); row_room_at pv_op1) | ((with_reducible show ovr _ _); row_room_at pv_ov) | ((with_reducible show ovr2 _ _ _); row_room_at pv_ov2) | ((with_reducible show apP _ _ _); row_room_at pv_cl; first | row_room_at pv_call_is_count | row_room_at pv_call_is_rising) | ((with_reducible show apP _ _ _); row_room_at pv_cl; (first | (rw [sd_l]; first | row_room_at pv_call_is_count | row_room_at pv_call_is_rising) | (rw [sd_r]; first | row_room_at pv_call_is_count | row_room_at pv_call_is_rising))) | row_room_at pv_latex)))
local macro_rules | `(tactic| row_room_at pv_gou_is_lot) => `(tactic| (repeat' (first | (with_reducible refine apF_op ?_) | (with_reducible refine apL_op ?_) | row_room_at pv_st_is_lot)))

def b_is_lot : FS := (fSeq (fIfS (fOr (fNot (fTst (fOp1 (oIsi ["tuple"]) (fVar 1)))) (fNot (fTst (fOpN (at1 oAll) (fCons (fLc [2] (fSeqI (fVar 1)) (gN 2) fYes (fAndV (fCall [false] ph_is_count (fCons (fVar 2) fNil)) (fOp2 oLt (fVar 2) (fOpN (at1 oLen) (fCons (fVar 0) fNil))))) fNil))))) (fRet (fC (.bool false))) fNext) (fRet (fCall [false] ph_is_rising (fCons (fVar 1) fNil))))

-- VA
-- USES is_count
-- USES is_rising
def lotB (n : Nat) (lot : List Int) : Bool := (lot.all fun p => decide (0 ≤ p) && decide (p < n)) && risB lot
def pitB (n : Nat) : D → Bool
  | .int i => decide (0 ≤ i) && decide (i < n)
  | _ => false
def iOf : D → Int
  | .int i => i
  | _ => 0
/-- a thing is a lot of a channel of so many pits -/
def lotD (n : Nat) : D → Bool
  | .tuple ds => ds.all (pitB n) && risB (ds.map iOf)
  | _ => false
theorem pits_ex {n : Nat} : ∀ {ds : List D}, ds.all (pitB n) = true → ∃ lot : List Int, ds = lot.map .int
  | [], _ => ⟨[], rfl⟩
  | d :: ds, h => by
    rw [List.all_cons, Bool.and_eq_true] at h
    obtain ⟨lot, rfl⟩ := pits_ex h.2
    cases d with
    | int i => exact ⟨i :: lot, rfl⟩
    | _ => exact absurd (show false = true from h.1) (by decide)
theorem lotD_i {n : Nat} {lot : List Int} (h : (lot.map PyData.int).all (pitB n) = true) : lotD n (.tuple (lot.map .int)) = risB lot := by
  have e : (lot.map PyData.int).map iOf = lot := by
    rw [List.map_map]
    exact List.map_id lot
  show ((lot.map PyData.int).all (pitB n) && risB ((lot.map PyData.int).map iOf)) = _
  rw [h, e, Bool.true_and]
theorem lotD_n {n : Nat} {ds : List D} (h : ds.all (pitB n) = false) : lotD n (.tuple ds) = false := by
  show (ds.all (pitB n) && _) = false
  rw [h, Bool.false_and]
@[irreducible] def ph_is_lot : Phi := fun args R => ∃ (d t : D) (ws : List Int) (L M j : Nat), args = [sh d, sh t] ∧ (Ints d ws) ∧ (anyP L M j t) ∧ (ws.length ≤ 1000) ∧ (L ≤ 1000) ∧ R (sh (.bool (lotD ws.length t))) []
theorem call_is_lot {d t : D}{ws : List Int}{L M j : Nat} {R : Cell → List Cell → Prop} (hd : Ints d ws) (ht : anyP L M j t) (hn : Hold (ws.length ≤ 1000)) (hl : Hold (L ≤ 1000)) (q : R (sh (.bool (lotD ws.length t))) []) : ph_is_lot [sh d, sh t] R := by
  unfold ph_is_lot
  exact ⟨d, t, ws, L, M, j, rfl, hd, ht, hn.out, hl.out, q⟩
theorem vc_is_lot (args R) (h : ph_is_lot args R) : b_is_lot (startE 3 args) (defK [false, false] R) := by
  unfold ph_is_lot at h
  obtain ⟨d, t, ws, L, M, j, rfl, hd, ht, hn, hl, hR⟩ := h
  cases t with
  | dict kvs => exact (anyP_dict ht).elim
  | tuple ds =>
    obtain ⟨k, rfl, hk, hi⟩ := anyP_tup.mp ht
    (row_room_at pv_go_is_lot; row_room_at pv_end)
    refine lc_anyD (fun x => .bool (pitB ws.length x)) (fun x acc N hq hl2 hN => ?_) trivial (.mk (Nat.le_trans (show ds.length ≤ 1000 by omega) (by decide))) ?_
    · have hx := hi x hq
      cases x with
      | int i =>
        have e : PyData.bool (pitB ws.length (.int i)) = .bool (decide (0 ≤ i) && decide (i < (ws.length : Int))) := rfl
        rw [e] at hN
        clear e
        cases h0 : decide (0 ≤ i) with
        | true =>
          rw [h0] at hN
          have := of_decide_eq_true h0
          (row_room_at pv_go_is_lot; row_room_at pv_end)
          all_goals exact absurd ((show cntB (.int i) = true from h0).symm.trans (by assumption)) (by decide)
        | false =>
          rw [h0] at hN
          have := of_decide_eq_false h0
          (row_room_at pv_go_is_lot; row_room_at pv_end)
          all_goals exact absurd ((show cntB (.int i) = false from h0).symm.trans (by assumption)) (by decide)
      | dict kvs => exact (anyP_dict hx).elim
      | _ =>
        (row_room_at pv_go_is_lot; row_room_at pv_end)
    rw [show ds.map (fun x => PyData.bool (pitB ws.length x)) = (ds.map (pitB ws.length)).map PyData.bool by rw [List.map_map]; rfl]
    have hall : (ds.map (pitB ws.length)).all id = ds.all (pitB ws.length) := by rw [List.all_map]; rfl
    have hall : ((ds.map (pitB ws.length)).all fun x => x) = ds.all (pitB ws.length) := hall
    cases hb : ds.all (pitB ws.length) with
    | true =>
      obtain ⟨lot, rfl⟩ := pits_ex hb
      rw [lotD_i hb] at hR
      rw [List.length_map] at hk
      (row_room_at pv_go_is_lot; row_room_at pv_end)
      all_goals exact absurd ((hall.trans hb).symm.trans (by assumption)) (by decide)
    | false =>
      rw [lotD_n hb] at hR
      (row_room_at pv_go_is_lot; row_room_at pv_end)
      all_goals exact absurd ((hall.trans hb).symm.trans (by assumption)) (by decide)
  | _ => (row_room_at pv_go_is_lot; row_room_at pv_end)

local macro_rules | `(tactic| row_room_at pv_st_is_channel) => `(tactic| ((try ((with_reducible show toEnv _ _); (first | refine toEnv_go rfl ?_ | refine toEnv_gT rfl rfl ?_); row_room_at pv_cl)); (try (conv => whnf)); first | ((with_reducible show _ ∧ _); row_room_at pv_and) | ((with_reducible show ap2 _ _ _ _); row_room_at pv_op2) | ((with_reducible show apN _ _ _); row_room_at pv_opN) | ((with_reducible show ap1 _ _ _); row_room_at pv_op1) | ((with_reducible show ovr _ _); row_room_at pv_ov) | ((with_reducible show ovr2 _ _ _); row_room_at pv_ov2) | ((with_reducible show apP _ _ _); row_room_at pv_cl; first | row_room_at pv_call_is_number) | ((with_reducible show apP _ _ _); row_room_at pv_cl; (first | (rw [sd_l]; first | row_room_at pv_call_is_number) | (rw [sd_r]; first | row_room_at pv_call_is_number))) | row_room_at pv_late))
local macro_rules | `(tactic| row_room_at pv_go_is_channel) => `(tactic| (repeat' row_room_at pv_st_is_channel))
local macro_rules | `(tactic| row_room_at pv_gox_is_channel) => `(tactic| (repeat' ((try ((with_reducible show toEnv _ _); (first | refine toEnv_go rfl ?_ | refine toEnv_gT rfl rfl ?_); row_room_at pv_cl)); (try (conv => whnf)); first | ((with_reducible show _ ∧ _); row_room_at pv_and) | ((with_reducible show ap2 _ _ _ _); row_room_at pv_op2) | ((with_reducible show apN _ _ _); row_room_at pv_opN) | ((with_reducible show ap1 _ _ _); row_room_at pv_op1) | ((with_reducible show ovr _ _); row_room_at pv_ov) | ((with_reducible show ovr2 _ _ _); row_room_at pv_ov2) | ((with_reducible show apP _ _ _); row_room_at pv_cl; first | row_room_at pv_call_is_number) | ((with_reducible show apP _ _ _); row_room_at pv_cl; (first | (rw [sd_l]; first | row_room_at pv_call_is_number) | (rw [sd_r]; first | row_room_at pv_call_is_number))) | row_room_at pv_latex)))
local macro_rules | `(tactic| row_room_at pv_gou_is_channel) => `(tactic| (repeat' (first | (with_reducible refine apF_op ?_) | (with_reducible refine apL_op ?_) | row_room_at pv_st_is_channel)))

def b_is_channel : FS := (fSeq (fIfS (fOr (fNot (fTst (fOp1 (oIsi ["tuple"]) (fVar 0)))) (fOr (fTst (fOp2 oEq (fOpN (at1 oLen) (fCons (fVar 0) fNil)) (fC (.int 0)))) (fNot (fTst (fOpN (at1 oAll) (fCons (fLc [1] (fSeqI (fVar 0)) (gN 1) fYes (fCall [false] ph_is_number (fCons (fVar 1) fNil))) fNil)))))) (fRet (fC (.bool false))) fNext) (fRet (fAndV (fOp2 oGt (fOpN (at1 oMin) (fCons (fVar 0) fNil)) (fC (.int 0))) (fOp2 oEq (fOpN (at1 oLenSet) (fCons (fVar 0) fNil)) (fOpN (at1 oLen) (fCons (fVar 0) fNil))))))

-- USES is_lot
-- USES is_number
theorem nodup_of_len : ∀ {ws : List Int}, ¬ ws.Nodup → ∃ us : List Int, (∀ k, k ∈ ws → k ∈ us) ∧ us.length < ws.length
  | [], h => absurd List.nodup_nil h
  | w :: ws, h => by
    by_cases hw : w ∈ ws
    · exact ⟨ws, fun k hk => (List.mem_cons.mp hk).elim (fun e => e ▸ hw) id, Nat.lt_succ_self _⟩
    · obtain ⟨us, h1, h2⟩ := nodup_of_len (ws := ws) fun hn => h (List.nodup_cons.mpr ⟨hw, hn⟩)
      exact ⟨w :: us, fun k hk => (List.mem_cons.mp hk).elim (fun e => e ▸ List.mem_cons_self) fun hk => List.mem_cons_of_mem _ (h1 k hk), by rw [List.length_cons, List.length_cons]; omega⟩
theorem len_nodup {ks ws : List Int} (hk : ks.Nodup) (h : ∀ k, k ∈ ks ↔ k ∈ ws) : decide ((ks.length : Int) = (ws.length : Int)) = decide ws.Nodup := by
  refine decide_eq_decide.mpr ⟨fun e => Classical.byContradiction fun hn => ?_, fun hn => ?_⟩
  · obtain ⟨us, h1, h2⟩ := nodup_of_len hn
    have := sub_len hk fun i hi => h1 i ((h i).mp hi)
    omega
  · have h1 := sub_len hk fun i hi => (h i).mp hi
    have h2 := sub_len hn fun i hi => (h i).mpr hi
    omega
/-- a channel -/
def chanB (ws : List Int) : Bool := !ws.isEmpty && (decide (0 < mn ws) && decide ws.Nodup)
theorem nums_ex : ∀ {ds : List D}, ds.all numB = true → ∃ ws : List Int, ds = ws.map .int
  | [], _ => ⟨[], rfl⟩
  | d :: ds, h => by
    rw [List.all_cons, Bool.and_eq_true] at h
    obtain ⟨ws, rfl⟩ := nums_ex h.2
    obtain ⟨i, rfl⟩ := numB_ex h.1
    exact ⟨i :: ws, rfl⟩
/-- a thing is a channel -/
def chanD : D → Bool
  | .tuple ds => ds.all numB && chanB (ds.map iOf)
  | _ => false
theorem nums_all (ws : List Int) : (ws.map PyData.int).all numB = true := by
  rw [List.all_map, List.all_eq_true]; exact fun _ _ => rfl
theorem chanD_i (ws : List Int) : chanD (.tuple (ws.map .int)) = chanB ws := by
  have e : (ws.map PyData.int).map iOf = ws := by rw [List.map_map]; exact List.map_id ws
  show ((ws.map PyData.int).all numB && chanB ((ws.map PyData.int).map iOf)) = _
  rw [nums_all, e, Bool.true_and]
theorem chanD_n {ds : List D} (h : ds.all numB = false) : chanD (.tuple ds) = false := by
  show (ds.all numB && _) = false
  rw [h, Bool.false_and]
@[irreducible] def ph_is_channel : Phi := fun args R => ∃ (t : D) (L M j : Nat), args = [sh t] ∧ (anyP L M j t) ∧ (L ≤ 1000) ∧ R (sh (.bool (chanD t))) []
theorem call_is_channel {t : D}{L M j : Nat} {R : Cell → List Cell → Prop} (ht : anyP L M j t) (hl : Hold (L ≤ 1000)) (q : R (sh (.bool (chanD t))) []) : ph_is_channel [sh t] R := by
  unfold ph_is_channel
  exact ⟨t, L, M, j, rfl, ht, hl.out, q⟩
theorem vc_is_channel (args R) (h : ph_is_channel args R) : b_is_channel (startE 2 args) (defK [false] R) := by
  unfold ph_is_channel at h
  obtain ⟨t, L, M, j, rfl, ht, hl, hR⟩ := h
  cases t with
  | dict kvs => exact (anyP_dict ht).elim
  | tuple ds =>
    obtain ⟨k, rfl, hk, hi⟩ := anyP_tup.mp ht
    match ds, hi, hk with
    | [], _, _ => (row_room_at pv_go_is_channel; row_room_at pv_end)
    | a :: r, hi, hk =>
      have hpos : 0 < ((a :: r).length : Int) := by rw [List.length_cons]; omega
      generalize a :: r = ds at *
      (row_room_at pv_go_is_channel; row_room_at pv_end)
      refine lc_anyD (fun x => .bool (numB x)) (fun x acc N hq hl2 hN => ?_) trivial (.mk (Nat.le_trans (show ds.length ≤ 1000 by omega) (by decide))) ?_
      · have hx := hi x hq
        (row_room_at pv_go_is_channel; row_room_at pv_end)
      rw [show ds.map (fun x => PyData.bool (numB x)) = (ds.map numB).map PyData.bool by rw [List.map_map]; rfl]
      have hall : (ds.map numB).all id = ds.all numB := by rw [List.all_map]; rfl
      have hall : ((ds.map numB).all fun x => x) = ds.all numB := hall
      cases hb : ds.all numB with
      | false =>
        rw [chanD_n hb] at hR
        (row_room_at pv_go_is_channel; row_room_at pv_end)
        all_goals exact absurd ((hall.trans hb).symm.trans (by assumption)) (by decide)
      | true =>
        obtain ⟨ws, rfl⟩ := nums_ex hb
        rw [chanD_i] at hR
        have hz : chanB ws = (!ws.isEmpty && (decide (0 < mn ws) && decide ws.Nodup)) := rfl
        rw [List.length_map] at hk hpos
        have hl2 : 0 < ws.length := by omega
        have hn : ws.length ≤ 1000 := by omega
        have hw : ws.isEmpty = false := by rw [List.isEmpty_eq_false_iff]; exact List.ne_nil_of_length_pos hl2
        rw [hz, hw] at hR
        clear hi ht
        cases hm : decide (0 < mn ws) with
        | true =>
          rw [hm] at hR
          have := of_decide_eq_true hm
          (row_room_at pv_go_is_channel; row_room_at pv_end)
          · exact absurd ((hall.trans hb).symm.trans (by assumption)) (by decide)
          · refine ⟨ws, rfl, hn, fun ks h1 h2 => ?_⟩
            have hln := len_nodup h1 h2
            (row_room_at pv_go_is_channel; row_room_at pv_end)
            rw [hln]
            exact .mk rfl
        | false =>
          rw [hm] at hR
          have := of_decide_eq_false hm
          (row_room_at pv_go_is_channel; row_room_at pv_end)
          all_goals exact absurd ((hall.trans hb).symm.trans (by assumption)) (by decide)
  | _ => (row_room_at pv_go_is_channel; row_room_at pv_end)

local macro_rules | `(tactic| row_room_at pv_call_is_lot) => `(tactic| (refine apP_op (call_is_lot (by row_room_at pv_sd) (by row_room_at pv_sd) ?_ ?_ ?_); (first | (focus row_room_at pv_hs) | rotate_left); (first | (focus row_room_at pv_hs) | rotate_left)))
local macro_rules | `(tactic| row_room_at pv_st_is_standing) => `(tactic| ((try ((with_reducible show toEnv _ _); (first | refine toEnv_go rfl ?_ | refine toEnv_gT rfl rfl ?_); row_room_at pv_cl)); (try (conv => whnf)); first | ((with_reducible show _ ∧ _); row_room_at pv_and) | ((with_reducible show ap2 _ _ _ _); row_room_at pv_op2) | ((with_reducible show apN _ _ _); row_room_at pv_opN) | ((with_reducible show ap1 _ _ _); row_room_at pv_op1) | ((with_reducible show ovr _ _); row_room_at pv_ov) | ((with_reducible show ovr2 _ _ _); row_room_at pv_ov2) | ((with_reducible show apP _ _ _); row_room_at pv_cl; first | row_room_at pv_call_is_count | row_room_at pv_call_is_lot) | ((with_reducible show apP _ _ _); row_room_at pv_cl; (first | (rw [sd_l]; first | row_room_at pv_call_is_count | row_room_at pv_call_is_lot) | (rw [sd_r]; first | row_room_at pv_call_is_count | row_room_at pv_call_is_lot))) | row_room_at pv_late))
local macro_rules | `(tactic| row_room_at pv_go_is_standing) => `(tactic| (repeat' row_room_at pv_st_is_standing))
local macro_rules | `(tactic| row_room_at pv_gox_is_standing) => `(tactic| (repeat' ((try ((with_reducible show toEnv _ _); (first | refine toEnv_go rfl ?_ | refine toEnv_gT rfl rfl ?_); row_room_at pv_cl)); (try (conv => whnf)); first | ((with_reducible show _ ∧ _); row_room_at pv_and) | ((with_reducible show ap2 _ _ _ _); row_room_at pv_op2) | ((with_reducible show apN _ _ _); row_room_at pv_opN) | ((with_reducible show ap1 _ _ _); row_room_at pv_op1) | ((with_reducible show ovr _ _); row_room_at pv_ov) | ((with_reducible show ovr2 _ _ _); row_room_at pv_ov2) | ((with_reducible show apP _ _ _); row_room_at pv_cl; first | row_room_at pv_call_is_count | row_room_at pv_call_is_lot) | ((with_reducible show apP _ _ _); row_room_at pv_cl; (first | (rw [sd_l]; first | row_room_at pv_call_is_count | row_room_at pv_call_is_lot) | (rw [sd_r]; first | row_room_at pv_call_is_count | row_room_at pv_call_is_lot))) | row_room_at pv_latex)))
local macro_rules | `(tactic| row_room_at pv_gou_is_standing) => `(tactic| (repeat' (first | (with_reducible refine apF_op ?_) | (with_reducible refine apL_op ?_) | row_room_at pv_st_is_standing)))

def b_is_standing : FS := (fSeq (fIfS (fOr (fNot (fTst (fOp1 (oIsi ["tuple"]) (fVar 1)))) (fTst (fOp2 oNe (fOpN (at1 oLen) (fCons (fVar 1) fNil)) (fC (.int 3))))) (fRet (fC (.bool false))) fNext) (fRet (fAndV (fCall [false] ph_is_count (fCons (fOp2 oIx (fVar 1) (fC (.int 0))) fNil)) (fAndV (fCall [false, false] ph_is_lot (fCons (fVar 0) (fCons (fOp2 oIx (fVar 1) (fC (.int 1))) fNil))) (fCall [false] ph_is_count (fCons (fOp2 oIx (fVar 1) (fC (.int 2))) fNil))))))

-- USES is_lot
/-- a thing is a standing of a channel of so many pits -/
def stnD (n : Nat) : D → Bool
  | .tuple [a, b, c] => cntB a && (lotD n b && cntB c)
  | _ => false
theorem stnD_len {n : Nat} {ds : List D} (h : ds.length ≠ 3) : stnD n (.tuple ds) = false := by
  unfold stnD
  split
  · rename_i e
    injection e with e
    subst e
    exact absurd rfl h
  · rfl
theorem stnD_3 {n : Nat} {a b c : D} : stnD n (.tuple [a, b, c]) = (cntB a && (lotD n b && cntB c)) := rfl
@[irreducible] def ph_is_standing : Phi := fun args R => ∃ (d t : D) (ws : List Int) (L M j : Nat), args = [sh d, sh t] ∧ (Ints d ws) ∧ (anyP L M j t) ∧ (ws.length ≤ 1000) ∧ (L ≤ 1000) ∧ R (sh (.bool (stnD ws.length t))) []
theorem call_is_standing {d t : D}{ws : List Int}{L M j : Nat} {R : Cell → List Cell → Prop} (hd : Ints d ws) (ht : anyP L M j t) (hn : Hold (ws.length ≤ 1000)) (hl : Hold (L ≤ 1000)) (q : R (sh (.bool (stnD ws.length t))) []) : ph_is_standing [sh d, sh t] R := by
  unfold ph_is_standing
  exact ⟨d, t, ws, L, M, j, rfl, hd, ht, hn.out, hl.out, q⟩
theorem vc_is_standing (args R) (h : ph_is_standing args R) : b_is_standing (startE 2 args) (defK [false, false] R) := by
  unfold ph_is_standing at h
  obtain ⟨d, t, ws, L, M, j, rfl, hd, ht, hn, hl, hR⟩ := h
  cases t with
  | dict kvs => exact (anyP_dict ht).elim
  | tuple ds =>
    obtain ⟨k, rfl, hk, hi⟩ := anyP_tup.mp ht
    match ds, hi with
    | [], _ =>
      rw [stnD_len (by simp)] at hR
      (row_room_at pv_go_is_standing; row_room_at pv_end)
    | [a], _ =>
      rw [stnD_len (by simp)] at hR
      (row_room_at pv_go_is_standing; row_room_at pv_end)
    | [a, b], _ =>
      rw [stnD_len (by simp)] at hR
      (row_room_at pv_go_is_standing; row_room_at pv_end)
    | a :: b :: c :: e :: r, _ =>
      rw [stnD_len (by simp)] at hR
      (row_room_at pv_go_is_standing; row_room_at pv_end)
    | [a, b, c], hi =>
      have h1 := hi a List.mem_cons_self
      have h2 := hi b (List.mem_cons_of_mem _ List.mem_cons_self)
      have h3 := hi c (List.mem_cons_of_mem _ (List.mem_cons_of_mem _ List.mem_cons_self))
      clear hi
      rw [stnD_3] at hR
      (row_room_at pv_go_is_standing; row_room_at pv_end)
      · exact .mk (by rw [show cntB a = true by assumption, show lotD ws.length b = true by assumption]; rfl)
      · exact .mk (by rw [show cntB a = true by assumption, show lotD ws.length b = false by assumption]; rfl)
      · exact .mk (by rw [show cntB a = false by assumption]; rfl)
  | _ => (row_room_at pv_go_is_standing; row_room_at pv_end)

local macro_rules | `(tactic| row_room_at pv_call_is_side) => `(tactic| (refine apP_op (call_is_side (by row_room_at pv_sd) ?_)))
local macro_rules | `(tactic| row_room_at pv_st_is_tilt) => `(tactic| ((try ((with_reducible show toEnv _ _); (first | refine toEnv_go rfl ?_ | refine toEnv_gT rfl rfl ?_); row_room_at pv_cl)); (try (conv => whnf)); first | ((with_reducible show _ ∧ _); row_room_at pv_and) | ((with_reducible show ap2 _ _ _ _); row_room_at pv_op2) | ((with_reducible show apN _ _ _); row_room_at pv_opN) | ((with_reducible show ap1 _ _ _); row_room_at pv_op1) | ((with_reducible show ovr _ _); row_room_at pv_ov) | ((with_reducible show ovr2 _ _ _); row_room_at pv_ov2) | ((with_reducible show apP _ _ _); row_room_at pv_cl; first | row_room_at pv_call_is_number | row_room_at pv_call_is_side) | ((with_reducible show apP _ _ _); row_room_at pv_cl; (first | (rw [sd_l]; first | row_room_at pv_call_is_number | row_room_at pv_call_is_side) | (rw [sd_r]; first | row_room_at pv_call_is_number | row_room_at pv_call_is_side))) | row_room_at pv_late))
local macro_rules | `(tactic| row_room_at pv_go_is_tilt) => `(tactic| (repeat' row_room_at pv_st_is_tilt))
local macro_rules | `(tactic| row_room_at pv_gox_is_tilt) => `(tactic| (repeat' ((try ((with_reducible show toEnv _ _); (first | refine toEnv_go rfl ?_ | refine toEnv_gT rfl rfl ?_); row_room_at pv_cl)); (try (conv => whnf)); first | ((with_reducible show _ ∧ _); row_room_at pv_and) | ((with_reducible show ap2 _ _ _ _); row_room_at pv_op2) | ((with_reducible show apN _ _ _); row_room_at pv_opN) | ((with_reducible show ap1 _ _ _); row_room_at pv_op1) | ((with_reducible show ovr _ _); row_room_at pv_ov) | ((with_reducible show ovr2 _ _ _); row_room_at pv_ov2) | ((with_reducible show apP _ _ _); row_room_at pv_cl; first | row_room_at pv_call_is_number | row_room_at pv_call_is_side) | ((with_reducible show apP _ _ _); row_room_at pv_cl; (first | (rw [sd_l]; first | row_room_at pv_call_is_number | row_room_at pv_call_is_side) | (rw [sd_r]; first | row_room_at pv_call_is_number | row_room_at pv_call_is_side))) | row_room_at pv_latex)))
local macro_rules | `(tactic| row_room_at pv_gou_is_tilt) => `(tactic| (repeat' (first | (with_reducible refine apF_op ?_) | (with_reducible refine apL_op ?_) | row_room_at pv_st_is_tilt)))

def b_is_tilt : FS := (fSeq (fIfS (fOr (fNot (fTst (fOp1 (oIsi ["tuple"]) (fVar 0)))) (fTst (fOp2 oNe (fOpN (at1 oLen) (fCons (fVar 0) fNil)) (fC (.int 2))))) (fRet (fC (.bool false))) fNext) (fRet (fAndV (fCall [false] ph_is_side (fCons (fOp2 oIx (fVar 0) (fC (.int 0))) fNil)) (fAndV (fCall [false] ph_is_number (fCons (fOp2 oIx (fVar 0) (fC (.int 1))) fNil)) (fOp2 oGt (fOp2 oIx (fVar 0) (fC (.int 1))) (fC (.int 0)))))))

-- USES is_side
-- USES is_number
def tiltB : D → Bool
  | .tuple [a, .int n] => sideB a && decide (0 < n)
  | _ => false
theorem tiltB_len {ds : List D} (h : ds.length ≠ 2) : tiltB (.tuple ds) = false := by
  unfold tiltB
  split
  · rename_i e
    injection e with e
    subst e
    exact absurd rfl h
  · rfl
@[irreducible] def ph_is_tilt : Phi := fun args R => ∃ (d : D) (L M j : Nat), args = [sh d] ∧ (anyP L M j d) ∧ R (sh (.bool (tiltB d))) []
theorem call_is_tilt {d : D}{L M j : Nat} {R : Cell → List Cell → Prop} (hd : anyP L M j d) (q : R (sh (.bool (tiltB d))) []) : ph_is_tilt [sh d] R := by
  unfold ph_is_tilt
  exact ⟨d, L, M, j, rfl, hd, q⟩
theorem vc_is_tilt (args R) (h : ph_is_tilt args R) : b_is_tilt (startE 1 args) (defK [false] R) := by
  unfold ph_is_tilt at h
  obtain ⟨d, L, M, j, rfl, hd, hR⟩ := h
  cases d with
  | dict kvs => exact (anyP_dict hd).elim
  | tuple ds =>
    obtain ⟨k, rfl, hl, hi⟩ := anyP_tup.mp hd
    match ds, hi with
    | [], _ => (row_room_at pv_go_is_tilt; row_room_at pv_end)
    | [a], _ => (row_room_at pv_go_is_tilt; row_room_at pv_end)
    | a :: b :: c :: r, _ =>
      (row_room_at pv_go_is_tilt; row_room_at pv_end)
      exact .mk (congrArg (fun z => sh (PyData.bool z)) (tiltB_len (by simp)).symm)
    | [a, b], hi =>
      have h1 := hi a List.mem_cons_self
      have h2 := hi b (List.mem_cons_of_mem _ List.mem_cons_self)
      clear hi
      cases b with
      | int i =>
        (row_room_at pv_go_is_tilt; row_room_at pv_end)
        · exact .mk (congrArg (fun z => sh (PyData.bool z)) (by show _ = (sideB a && decide (0 < i)); rw [hc, Bool.true_and]))
        · exact .mk (congrArg (fun z => sh (PyData.bool z)) (by show _ = (sideB a && decide (0 < i)); rw [hc, Bool.false_and]))
      | dict kvs => exact (anyP_dict h2).elim
      | _ => (row_room_at pv_go_is_tilt; row_room_at pv_end)
  | _ => (row_room_at pv_go_is_tilt; row_room_at pv_end)

local macro_rules | `(tactic| row_room_at pv_call_is_tilt) => `(tactic| (refine apP_op (call_is_tilt (by row_room_at pv_sd) ?_)))
local macro_rules | `(tactic| row_room_at pv_st_is_row) => `(tactic| ((try ((with_reducible show toEnv _ _); (first | refine toEnv_go rfl ?_ | refine toEnv_gT rfl rfl ?_); row_room_at pv_cl)); (try (conv => whnf)); first | ((with_reducible show _ ∧ _); row_room_at pv_and) | ((with_reducible show ap2 _ _ _ _); row_room_at pv_op2) | ((with_reducible show apN _ _ _); row_room_at pv_opN) | ((with_reducible show ap1 _ _ _); row_room_at pv_op1) | ((with_reducible show ovr _ _); row_room_at pv_ov) | ((with_reducible show ovr2 _ _ _); row_room_at pv_ov2) | ((with_reducible show apP _ _ _); row_room_at pv_cl; first | row_room_at pv_call_is_tilt) | ((with_reducible show apP _ _ _); row_room_at pv_cl; (first | (rw [sd_l]; first | row_room_at pv_call_is_tilt) | (rw [sd_r]; first | row_room_at pv_call_is_tilt))) | row_room_at pv_late))
local macro_rules | `(tactic| row_room_at pv_go_is_row) => `(tactic| (repeat' row_room_at pv_st_is_row))
local macro_rules | `(tactic| row_room_at pv_gox_is_row) => `(tactic| (repeat' ((try ((with_reducible show toEnv _ _); (first | refine toEnv_go rfl ?_ | refine toEnv_gT rfl rfl ?_); row_room_at pv_cl)); (try (conv => whnf)); first | ((with_reducible show _ ∧ _); row_room_at pv_and) | ((with_reducible show ap2 _ _ _ _); row_room_at pv_op2) | ((with_reducible show apN _ _ _); row_room_at pv_opN) | ((with_reducible show ap1 _ _ _); row_room_at pv_op1) | ((with_reducible show ovr _ _); row_room_at pv_ov) | ((with_reducible show ovr2 _ _ _); row_room_at pv_ov2) | ((with_reducible show apP _ _ _); row_room_at pv_cl; first | row_room_at pv_call_is_tilt) | ((with_reducible show apP _ _ _); row_room_at pv_cl; (first | (rw [sd_l]; first | row_room_at pv_call_is_tilt) | (rw [sd_r]; first | row_room_at pv_call_is_tilt))) | row_room_at pv_latex)))
local macro_rules | `(tactic| row_room_at pv_gou_is_row) => `(tactic| (repeat' (first | (with_reducible refine apF_op ?_) | (with_reducible refine apL_op ?_) | row_room_at pv_st_is_row)))

def b_is_row : FS := (fRet (fAndV (fOp1 (oIsi ["list"]) (fVar 0)) (fOpN (at1 oAll) (fCons (fLc [1] (fSeqI (fVar 0)) (gN 1) fYes (fCall [false] ph_is_tilt (fCons (fVar 1) fNil))) fNil))))

-- USES is_tilt
def rowB : D → Bool
  | .list ds => ds.all tiltB
  | _ => false
@[irreducible] def ph_is_row : Phi := fun args R => ∃ (d : D) (L M j : Nat), args = [sh d] ∧ (anyP L M j d) ∧ (L ≤ 1000) ∧ R (sh (.bool (rowB d))) []
theorem call_is_row {d : D}{L M j : Nat} {R : Cell → List Cell → Prop} (hd : anyP L M j d) (hl : Hold (L ≤ 1000)) (q : R (sh (.bool (rowB d))) []) : ph_is_row [sh d] R := by
  unfold ph_is_row
  exact ⟨d, L, M, j, rfl, hd, hl.out, q⟩
theorem vc_is_row (args R) (h : ph_is_row args R) : b_is_row (startE 2 args) (defK [false] R) := by
  unfold ph_is_row at h
  obtain ⟨d, L, M, j, rfl, hd, hl, hR⟩ := h
  cases d with
  | dict kvs => exact (anyP_dict hd).elim
  | list ds =>
    obtain ⟨k, rfl, hk, hi⟩ := anyP_list.mp hd
    (row_room_at pv_go_is_row; row_room_at pv_end)
    refine lc_anyD (fun x => .bool (tiltB x)) (fun x acc N hq hl2 hN => ?_) trivial (.mk (Nat.le_trans (show ds.length ≤ 1000 by omega) (by decide))) ?_
    · have hx := hi x hq
      (row_room_at pv_go_is_row; row_room_at pv_end)
    rw [show ds.map (fun x => PyData.bool (tiltB x)) = (ds.map tiltB).map PyData.bool by rw [List.map_map]; rfl]
    (row_room_at pv_go_is_row; row_room_at pv_end)
    exact .mk (congrArg (fun z => sh (PyData.bool z)) (by show _ = ds.all tiltB; rw [List.all_map]; rfl))
  | _ => (row_room_at pv_go_is_row; row_room_at pv_end)

def b__law_cell_at : FS := (fSeq (fIfS (fTst (fOp2 oLt (fVar 1) (fOpN (at1 oLen) (fCons (fVar 0) fNil)))) (fRet (fOp2 oIx (fVar 0) (fVar 1))) fNext) (fRet (fC (.int 0))))

def ph__law_cell_at : Phi := fun args R => ∃ (ns : List Int) (k : Int), args = [sh (scrD ns), sh (.int k)] ∧ 0 ≤ k ∧ ∀ v : Int, R (sh (.int v)) []
theorem vc__law_cell_at (args R) (h : ph__law_cell_at args R) : b__law_cell_at (startE 2 args) (defK [false, false] R) := by
  obtain ⟨ns, k, rfl, hk, hR⟩ := h
  simp only [b__law_cell_at, scrD]
  simp only [fSeq, fIfS, fTst, fOp1, fOp2, fOpN, fVar, fFz, fMv, fC, fAsg, fAsgO, fSetIx, fRet, fRetN, fNext, fDrop, fMth, fAug, fUnp, fPar, fNil, fCons, fBreak, fAnd, fOr, fNot, fAndV, fOrV, fNotV, fIf, fNoPart, fPart, fSl, fStp, fYes, startE, getC, sh, ow, okb_v, okb_b, Res.d_v, Res.d_b, flat, noB, dsOf, at1, at2, onOwn, isOwn, mAppend, ioC, defK, oGt, oLt, oGe, oLe, oSub, oAdd, oMulA, oMul, oDiv, oMod, oPow, oIx, oEq, oNe, oIsN, oNotN, oIsB, oNotB, oIn, oNotIn, oLst, oTup, oLen, oList, oTuple, oAbs, oToInt, oMax2, oMin2, oMax, oMin, oAll, oAny, oSorted, oIsi, oNeg, oSl, oStp, dInt0, dInt, dAdd, dMulA, dIx, dEq, dIsB, dNotB, dLen, dList, dTuple, dAbs, dToInt, dNeg, dSl, dStp, dB, atInt, dI, pick, pickI, pickC, ix, toEnv, gN, gT, gsNil, gsCons, setRes, fCall, fCallK, mkArgs, distinct, ioIx, putIos, permD, fLc, fSeqI, fRange1, fRange2, fEnum, fZip, overSeq, overEnum, overZip, away, wipeE, back, forGo, fFor, List.length_cons, List.length_nil, List.getElem?_cons_zero, List.getElem?_cons_succ, List.getElem?_nil, List.set_cons_zero, List.set_cons_succ, List.set_nil, List.map_cons, List.map_nil, List.cons_append, List.nil_append, List.replicate, List.getD_cons_zero, List.getD_cons_succ, List.getD_nil, List.any_cons, List.any_nil, true_and, and_true, Bool.false_eq_true, if_true, if_false, ite_true, ite_false, Nat.le_refl, Bool.or_false, Bool.false_or, Bool.or_true, Bool.true_or, Bool.not_true, Bool.not_false, Bool.and_true, Bool.true_and, Bool.and_self, ixN, Option.some.injEq, exists_eq_left, exists_eq_left', Int.reduceToNat, Int.reduceLE, Int.reduceLT, Int.reduceNeg, Int.reduceAdd, Int.reduceSub, Nat.reduceAdd, Nat.reduceLeDiff, reduceIte, reduceCtorEq, decide_true, decide_false, Nat.reduceSub, Int.reducePow, Int.reduceMul, Int.natCast_add, Int.cast_ofNat_Int, Int.natCast_zero, List.contains_nil, List.contains_cons, Nat.reduceBEq, Nat.reduceEqDiff, refr, ap1_eq, ap2_eq, apN_eq, ovr_eq, ovr2_eq, unpk_t, unpk_l, oSlA, oStpA, apP_eq, apF_eq, apL_eq, isScr_map]
  by_cases h0 : k < (ns.length : Int)
  · simp only [h0, hk, List.length_map, decide_true, if_true]
    have hl : k.toNat < ns.length := by omega
    rw [List.getElem?_map, List.getElem?_eq_getElem hl]
    exact hR _
  · simp only [h0, hk, List.length_map, decide_false]
    exact hR _

def b__law_box : FS := (fSeq (fAsg 2 (fCall [false, false] ph__law_cell_at (fCons (fVar 0) (fCons (fVar 1) fNil)))) (fRet (fOpN oLst (fCons (fOp2 oMulA (fOpN (at1 oAbs) (fCons (fVar 2) fNil)) (fOpN (at1 oToInt) (fCons (fOp2 oGe (fOpN (at1 oAbs) (fCons (fVar 2) fNil)) (fOp2 oPow (fC (.int 10)) (fC (.int 18)))) fNil))) (fCons (fOp2 oAdd (fOp2 oAdd (fOp2 oMod (fVar 2) (fC (.int 2305843009213693951))) (fOp2 oMulA (fC (.int 39373)) (fVar 1))) (fC (.int 17))) (fCons (fC (.int 0)) fNil))))))

def ph__law_box : Phi := fun args R => ∃ (ns : List Int) (k : Int), args = [sh (scrD ns), sh (.int k)] ∧ 0 ≤ k ∧ k < 1000 ∧ ∀ x, Bx 0 x → R x []
theorem vc__law_box (args R) (h : ph__law_box args R) : b__law_box (startE 3 args) (defK [false, false] R) := by
  obtain ⟨ns, k, rfl, hk, hk2, hR⟩ := h
  simp only [b__law_box]
  simp only [fSeq, fIfS, fTst, fOp1, fOp2, fOpN, fVar, fFz, fMv, fC, fAsg, fAsgO, fSetIx, fRet, fRetN, fNext, fDrop, fMth, fAug, fUnp, fPar, fNil, fCons, fBreak, fAnd, fOr, fNot, fAndV, fOrV, fNotV, fIf, fNoPart, fPart, fSl, fStp, fYes, startE, getC, sh, ow, okb_v, okb_b, Res.d_v, Res.d_b, flat, noB, dsOf, at1, at2, onOwn, isOwn, mAppend, ioC, defK, oGt, oLt, oGe, oLe, oSub, oAdd, oMulA, oMul, oDiv, oMod, oPow, oIx, oEq, oNe, oIsN, oNotN, oIsB, oNotB, oIn, oNotIn, oLst, oTup, oLen, oList, oTuple, oAbs, oToInt, oMax2, oMin2, oMax, oMin, oAll, oAny, oSorted, oIsi, oNeg, oSl, oStp, dInt0, dInt, dAdd, dMulA, dIx, dEq, dIsB, dNotB, dLen, dList, dTuple, dAbs, dToInt, dNeg, dSl, dStp, dB, atInt, dI, pick, pickI, pickC, ix, toEnv, gN, gT, gsNil, gsCons, setRes, fCall, fCallK, mkArgs, distinct, ioIx, putIos, permD, fLc, fSeqI, fRange1, fRange2, fEnum, fZip, overSeq, overEnum, overZip, away, wipeE, back, forGo, fFor, List.length_cons, List.length_nil, List.getElem?_cons_zero, List.getElem?_cons_succ, List.getElem?_nil, List.set_cons_zero, List.set_cons_succ, List.set_nil, List.map_cons, List.map_nil, List.cons_append, List.nil_append, List.replicate, List.getD_cons_zero, List.getD_cons_succ, List.getD_nil, List.any_cons, List.any_nil, true_and, and_true, Bool.false_eq_true, if_true, if_false, ite_true, ite_false, Nat.le_refl, Bool.or_false, Bool.false_or, Bool.or_true, Bool.true_or, Bool.not_true, Bool.not_false, Bool.and_true, Bool.true_and, Bool.and_self, ixN, Option.some.injEq, exists_eq_left, exists_eq_left', Int.reduceToNat, Int.reduceLE, Int.reduceLT, Int.reduceNeg, Int.reduceAdd, Int.reduceSub, Nat.reduceAdd, Nat.reduceLeDiff, reduceIte, reduceCtorEq, decide_true, decide_false, Nat.reduceSub, Int.reducePow, Int.reduceMul, Int.natCast_add, Int.cast_ofNat_Int, Int.natCast_zero, List.contains_nil, List.contains_cons, Nat.reduceBEq, Nat.reduceEqDiff, refr, ap1_eq, ap2_eq, apN_eq, ovr_eq, ovr2_eq, unpk_t, unpk_l, oSlA, oStpA, apP_eq, apF_eq, apL_eq, isScr_map]
  refine ⟨ns, k, rfl, hk, fun v => ?_⟩
  simp only [fSeq, fIfS, fTst, fOp1, fOp2, fOpN, fVar, fFz, fMv, fC, fAsg, fAsgO, fSetIx, fRet, fRetN, fNext, fDrop, fMth, fAug, fUnp, fPar, fNil, fCons, fBreak, fAnd, fOr, fNot, fAndV, fOrV, fNotV, fIf, fNoPart, fPart, fSl, fStp, fYes, startE, getC, sh, ow, okb_v, okb_b, Res.d_v, Res.d_b, flat, noB, dsOf, at1, at2, onOwn, isOwn, mAppend, ioC, defK, oGt, oLt, oGe, oLe, oSub, oAdd, oMulA, oMul, oDiv, oMod, oPow, oIx, oEq, oNe, oIsN, oNotN, oIsB, oNotB, oIn, oNotIn, oLst, oTup, oLen, oList, oTuple, oAbs, oToInt, oMax2, oMin2, oMax, oMin, oAll, oAny, oSorted, oIsi, oNeg, oSl, oStp, dInt0, dInt, dAdd, dMulA, dIx, dEq, dIsB, dNotB, dLen, dList, dTuple, dAbs, dToInt, dNeg, dSl, dStp, dB, atInt, dI, pick, pickI, pickC, ix, toEnv, gN, gT, gsNil, gsCons, setRes, fCall, fCallK, mkArgs, distinct, ioIx, putIos, permD, fLc, fSeqI, fRange1, fRange2, fEnum, fZip, overSeq, overEnum, overZip, away, wipeE, back, forGo, fFor, List.length_cons, List.length_nil, List.getElem?_cons_zero, List.getElem?_cons_succ, List.getElem?_nil, List.set_cons_zero, List.set_cons_succ, List.set_nil, List.map_cons, List.map_nil, List.cons_append, List.nil_append, List.replicate, List.getD_cons_zero, List.getD_cons_succ, List.getD_nil, List.any_cons, List.any_nil, true_and, and_true, Bool.false_eq_true, if_true, if_false, ite_true, ite_false, Nat.le_refl, Bool.or_false, Bool.false_or, Bool.or_true, Bool.true_or, Bool.not_true, Bool.not_false, Bool.and_true, Bool.true_and, Bool.and_self, ixN, Option.some.injEq, exists_eq_left, exists_eq_left', Int.reduceToNat, Int.reduceLE, Int.reduceLT, Int.reduceNeg, Int.reduceAdd, Int.reduceSub, Nat.reduceAdd, Nat.reduceLeDiff, reduceIte, reduceCtorEq, decide_true, decide_false, Nat.reduceSub, Int.reducePow, Int.reduceMul, Int.natCast_add, Int.cast_ofNat_Int, Int.natCast_zero, List.contains_nil, List.contains_cons, Nat.reduceBEq, Nat.reduceEqDiff, refr, ap1_eq, ap2_eq, apN_eq, ovr_eq, ovr2_eq, unpk_t, unpk_l, oSlA, oStpA, apP_eq, apF_eq, apL_eq, isScr_map]
  have h2 : ∀ b : Bool, 0 ≤ (if b = true then (1 : Int) else 0) ∧ (if b = true then (1 : Int) else 0) ≤ 1 := fun b => by cases b <;> decide
  obtain ⟨b1, b2⟩ := h2 (decide (1000000000000000000 ≤ (v.natAbs : Int)))
  have m0 := Int.emod_nonneg v (b := 2305843009213693951) (by decide)
  have m1 := Int.emod_lt_of_pos v (b := 2305843009213693951) (by decide)
  exact ⟨⟨by decide, by decide, by decide⟩, cmr (by omega) (by omega), cml (by decide) (by decide), by decide, hR _ ⟨_, _, _, rfl, Int.mul_nonneg (by omega) b1, by omega, by omega, by decide, by decide⟩⟩

def b__law_take : FS := (fSeq (fIfS (fTst (fOp2 oGt (fOp2 oIx (fVar 0) (fC (.int 0))) (fC (.int 0)))) (fSeq (fAsg 2 (fOp2 oMod (fOp2 oIx (fVar 0) (fC (.int 0))) (fVar 1))) (fSeq (fSetIx 0 (fOp2 oDiv (fOp2 oIx (fVar 0) (fC (.int 0))) (fVar 1)) (fC (.int 0))) (fRet (fVar 2)))) fNext) (fSeq (fSetIx 0 (fOp2 oAdd (fOp2 oIx (fVar 0) (fC (.int 2))) (fC (.int 1))) (fC (.int 2))) (fSeq (fAsg 3 (fOp2 oMod (fOp2 oMulA (fOp2 oAdd (fOp2 oIx (fVar 0) (fC (.int 1))) (fOp2 oMulA (fC (.int 48271)) (fOp2 oIx (fVar 0) (fC (.int 2))))) (fOp2 oAdd (fC (.int 39373)) (fOp2 oIx (fVar 0) (fC (.int 2))))) (fC (.int 2147483647)))) (fSeq (fAsg 4 (fOp2 oMod (fOp2 oMulA (fOp2 oAdd (fOp2 oAdd (fVar 3) (fOp2 oIx (fVar 0) (fC (.int 2)))) (fOp2 oDiv (fOp2 oIx (fVar 0) (fC (.int 1))) (fC (.int 1000003)))) (fOp2 oAdd (fOp2 oMod (fVar 3) (fC (.int 40009))) (fC (.int 7)))) (fC (.int 2147483629)))) (fRet (fOp2 oMod (fOp2 oDiv (fOp2 oMod (fOp2 oAdd (fOp2 oMulA (fVar 4) (fC (.int 48271))) (fVar 3)) (fC (.int 2147483587))) (fC (.int 64))) (fVar 1)))))))

def ph__law_take : Phi := fun args R => match args with
  | [x, ⟨0, .int s⟩] => ∃ n, Bx n x ∧ n < 2 ^ 60 ∧ 0 < s ∧ s < 2 ^ 62 ∧ ∀ t x', 0 ≤ t → t < s → Bx (n + 1) x' → R (sh (.int t)) [x']
  | _ => False
theorem vc__law_take (args R) (h : ph__law_take args R) : b__law_take (startE 5 args) (defK [true, false] R) := by
  unfold ph__law_take at h
  split at h
  · obtain ⟨n, ⟨a, b, c, rfl, ha, hb, hb2, hc, hcn⟩, hn, hs, hs2, hR⟩ := h
    rename_i s
    simp only [b__law_take, bx]
    simp only [fSeq, fIfS, fTst, fOp1, fOp2, fOpN, fVar, fFz, fMv, fC, fAsg, fAsgO, fSetIx, fRet, fRetN, fNext, fDrop, fMth, fAug, fUnp, fPar, fNil, fCons, fBreak, fAnd, fOr, fNot, fAndV, fOrV, fNotV, fIf, fNoPart, fPart, fSl, fStp, fYes, startE, getC, sh, ow, okb_v, okb_b, Res.d_v, Res.d_b, flat, noB, dsOf, at1, at2, onOwn, isOwn, mAppend, ioC, defK, oGt, oLt, oGe, oLe, oSub, oAdd, oMulA, oMul, oDiv, oMod, oPow, oIx, oEq, oNe, oIsN, oNotN, oIsB, oNotB, oIn, oNotIn, oLst, oTup, oLen, oList, oTuple, oAbs, oToInt, oMax2, oMin2, oMax, oMin, oAll, oAny, oSorted, oIsi, oNeg, oSl, oStp, dInt0, dInt, dAdd, dMulA, dIx, dEq, dIsB, dNotB, dLen, dList, dTuple, dAbs, dToInt, dNeg, dSl, dStp, dB, atInt, dI, pick, pickI, pickC, ix, toEnv, gN, gT, gsNil, gsCons, setRes, fCall, fCallK, mkArgs, distinct, ioIx, putIos, permD, fLc, fSeqI, fRange1, fRange2, fEnum, fZip, overSeq, overEnum, overZip, away, wipeE, back, forGo, fFor, List.length_cons, List.length_nil, List.getElem?_cons_zero, List.getElem?_cons_succ, List.getElem?_nil, List.set_cons_zero, List.set_cons_succ, List.set_nil, List.map_cons, List.map_nil, List.cons_append, List.nil_append, List.replicate, List.getD_cons_zero, List.getD_cons_succ, List.getD_nil, List.any_cons, List.any_nil, true_and, and_true, Bool.false_eq_true, if_true, if_false, ite_true, ite_false, Nat.le_refl, Bool.or_false, Bool.false_or, Bool.or_true, Bool.true_or, Bool.not_true, Bool.not_false, Bool.and_true, Bool.true_and, Bool.and_self, ixN, Option.some.injEq, exists_eq_left, exists_eq_left', Int.reduceToNat, Int.reduceLE, Int.reduceLT, Int.reduceNeg, Int.reduceAdd, Int.reduceSub, Nat.reduceAdd, Nat.reduceLeDiff, reduceIte, reduceCtorEq, decide_true, decide_false, Nat.reduceSub, Int.reducePow, Int.reduceMul, Int.natCast_add, Int.cast_ofNat_Int, Int.natCast_zero, List.contains_nil, List.contains_cons, Nat.reduceBEq, Nat.reduceEqDiff, refr, ap1_eq, ap2_eq, apN_eq, ovr_eq, ovr2_eq, unpk_t, unpk_l, oSlA, oStpA, apP_eq, apF_eq, apL_eq, isScr_map]
    by_cases h0 : 0 < a
    · simp only [h0, decide_true]
      refine ⟨hs, cdv hs hs2, hR _ _ (Int.emod_nonneg _ (by omega)) (Int.emod_lt_of_pos _ hs) ⟨_, _, _, rfl, Int.ediv_nonneg ha (by omega), hb, hb2, hc, by omega⟩⟩
    · simp only [h0, decide_false]
      refine ⟨cml (by omega) (by omega), cmr (by omega) (by omega), cdv (by omega) (by omega), cmr (by omega) (by omega), cmr (by omega) (by omega), cdv (by omega) (by omega), hs, hR _ _ (Int.emod_nonneg _ (by omega)) (Int.emod_lt_of_pos _ hs) ⟨_, _, _, rfl, ha, hb, hb2, by omega, by omega⟩⟩
  · exact h.elim
-- CALLS
-- CALL call__law_take dhhh | t x' ht0 ht1 hx'
theorem call__law_take {m : Nat} {x : Cell} {s : Int} {R : Cell → List Cell → Prop} (hx : Bk m x) (h1 : Hold (1 ≤ m)) (h2 : Hold (0 < s)) (h3 : Hold (s < 2 ^ 62)) (q : ∀ t x', 0 ≤ t → t < s → Bk (m - 1) (ow x') → R (sh (.int t)) [ow x']) : ph__law_take [x, ⟨0, .int s⟩] R := by
  obtain ⟨n, a, b⟩ := hx.get
  have h1' := h1.out
  exact ⟨n, a, by omega, h2.out, h3.out, fun t x' a1 a2 a3 => by
    obtain ⟨d, rfl⟩ := a3.ex
    exact q t d a1 a2 (.of a3 (by omega))⟩

def b__law_of : FS := (fRet (fOp2 oIx (fVar 1) (fCall [true, false] ph__law_take (fCons (fVar 0) (fCons (fOpN (at1 oLen) (fCons (fVar 1) fNil)) fNil)))))

def ph__law_of : Phi := fun args R => ∃ (n : Nat) (x : Cell) (d : D) (ds : List D), args = [x, ⟨0, d⟩] ∧ (d = .list ds ∨ d = .tuple ds) ∧ Bx n x ∧ n < 2 ^ 60 ∧ 0 < ds.length ∧ ds.length < 2 ^ 62 ∧ ∀ e x', e ∈ ds → Bx (n + 1) x' → R (sh e) [x']
theorem vc__law_of (args R) (h : ph__law_of args R) : b__law_of (startE 2 args) (defK [true, false] R) := by
  obtain ⟨n, x, d, ds, rfl, hd, hx, hn, h0, h1, hR⟩ := h
  obtain ⟨xd, rfl⟩ := hx.ex
  have hl : ((ds.length : Nat) : Int) = (ds.length : Int) := rfl
  rcases hd with rfl | rfl
  all_goals
    simp only [b__law_of]
    simp only [fSeq, fIfS, fTst, fOp1, fOp2, fOpN, fVar, fFz, fMv, fC, fAsg, fAsgO, fSetIx, fRet, fRetN, fNext, fDrop, fMth, fAug, fUnp, fPar, fNil, fCons, fBreak, fAnd, fOr, fNot, fAndV, fOrV, fNotV, fIf, fNoPart, fPart, fSl, fStp, fYes, startE, getC, sh, ow, okb_v, okb_b, Res.d_v, Res.d_b, flat, noB, dsOf, at1, at2, onOwn, isOwn, mAppend, ioC, defK, oGt, oLt, oGe, oLe, oSub, oAdd, oMulA, oMul, oDiv, oMod, oPow, oIx, oEq, oNe, oIsN, oNotN, oIsB, oNotB, oIn, oNotIn, oLst, oTup, oLen, oList, oTuple, oAbs, oToInt, oMax2, oMin2, oMax, oMin, oAll, oAny, oSorted, oIsi, oNeg, oSl, oStp, dInt0, dInt, dAdd, dMulA, dIx, dEq, dIsB, dNotB, dLen, dList, dTuple, dAbs, dToInt, dNeg, dSl, dStp, dB, atInt, dI, pick, pickI, pickC, ix, toEnv, gN, gT, gsNil, gsCons, setRes, fCall, fCallK, mkArgs, distinct, ioIx, putIos, permD, fLc, fSeqI, fRange1, fRange2, fEnum, fZip, overSeq, overEnum, overZip, away, wipeE, back, forGo, fFor, List.length_cons, List.length_nil, List.getElem?_cons_zero, List.getElem?_cons_succ, List.getElem?_nil, List.set_cons_zero, List.set_cons_succ, List.set_nil, List.map_cons, List.map_nil, List.cons_append, List.nil_append, List.replicate, List.getD_cons_zero, List.getD_cons_succ, List.getD_nil, List.any_cons, List.any_nil, true_and, and_true, Bool.false_eq_true, if_true, if_false, ite_true, ite_false, Nat.le_refl, Bool.or_false, Bool.false_or, Bool.or_true, Bool.true_or, Bool.not_true, Bool.not_false, Bool.and_true, Bool.true_and, Bool.and_self, ixN, Option.some.injEq, exists_eq_left, exists_eq_left', Int.reduceToNat, Int.reduceLE, Int.reduceLT, Int.reduceNeg, Int.reduceAdd, Int.reduceSub, Nat.reduceAdd, Nat.reduceLeDiff, reduceIte, reduceCtorEq, decide_true, decide_false, Nat.reduceSub, Int.reducePow, Int.reduceMul, Int.natCast_add, Int.cast_ofNat_Int, Int.natCast_zero, List.contains_nil, List.contains_cons, Nat.reduceBEq, Nat.reduceEqDiff, refr, ap1_eq, ap2_eq, apN_eq, ovr_eq, ovr2_eq, unpk_t, unpk_l, oSlA, oStpA, apP_eq, apF_eq, apL_eq, isScr_map]
    refine ⟨n, hx, hn, by omega, by omega, fun t x' t0 t1 hx' => ?_⟩
    obtain ⟨xd', rfl⟩ := hx'.ex
    simp only [fSeq, fIfS, fTst, fOp1, fOp2, fOpN, fVar, fFz, fMv, fC, fAsg, fAsgO, fSetIx, fRet, fRetN, fNext, fDrop, fMth, fAug, fUnp, fPar, fNil, fCons, fBreak, fAnd, fOr, fNot, fAndV, fOrV, fNotV, fIf, fNoPart, fPart, fSl, fStp, fYes, startE, getC, sh, ow, okb_v, okb_b, Res.d_v, Res.d_b, flat, noB, dsOf, at1, at2, onOwn, isOwn, mAppend, ioC, defK, oGt, oLt, oGe, oLe, oSub, oAdd, oMulA, oMul, oDiv, oMod, oPow, oIx, oEq, oNe, oIsN, oNotN, oIsB, oNotB, oIn, oNotIn, oLst, oTup, oLen, oList, oTuple, oAbs, oToInt, oMax2, oMin2, oMax, oMin, oAll, oAny, oSorted, oIsi, oNeg, oSl, oStp, dInt0, dInt, dAdd, dMulA, dIx, dEq, dIsB, dNotB, dLen, dList, dTuple, dAbs, dToInt, dNeg, dSl, dStp, dB, atInt, dI, pick, pickI, pickC, ix, toEnv, gN, gT, gsNil, gsCons, setRes, fCall, fCallK, mkArgs, distinct, ioIx, putIos, permD, fLc, fSeqI, fRange1, fRange2, fEnum, fZip, overSeq, overEnum, overZip, away, wipeE, back, forGo, fFor, List.length_cons, List.length_nil, List.getElem?_cons_zero, List.getElem?_cons_succ, List.getElem?_nil, List.set_cons_zero, List.set_cons_succ, List.set_nil, List.map_cons, List.map_nil, List.cons_append, List.nil_append, List.replicate, List.getD_cons_zero, List.getD_cons_succ, List.getD_nil, List.any_cons, List.any_nil, true_and, and_true, Bool.false_eq_true, if_true, if_false, ite_true, ite_false, Nat.le_refl, Bool.or_false, Bool.false_or, Bool.or_true, Bool.true_or, Bool.not_true, Bool.not_false, Bool.and_true, Bool.true_and, Bool.and_self, ixN, Option.some.injEq, exists_eq_left, exists_eq_left', Int.reduceToNat, Int.reduceLE, Int.reduceLT, Int.reduceNeg, Int.reduceAdd, Int.reduceSub, Nat.reduceAdd, Nat.reduceLeDiff, reduceIte, reduceCtorEq, decide_true, decide_false, Nat.reduceSub, Int.reducePow, Int.reduceMul, Int.natCast_add, Int.cast_ofNat_Int, Int.natCast_zero, List.contains_nil, List.contains_cons, Nat.reduceBEq, Nat.reduceEqDiff, refr, ap1_eq, ap2_eq, apN_eq, ovr_eq, ovr2_eq, unpk_t, unpk_l, oSlA, oStpA, apP_eq, apF_eq, apL_eq, isScr_map]
    have ht : t.toNat < ds.length := by omega
    simp only [t0, if_true]
    rw [List.getElem?_eq_getElem ht]
    exact hR _ _ (List.getElem_mem ht) hx'
-- CALLS
-- CALL call__law_ofS edh | b x' hx'
-- CALL call__law_of ddhhh | i x' hi hx'
-- CALL call__law_ofM ddhhh | y x' hy hx'
theorem call__law_ofE {m : Nat} {x : Cell} {d : D} {ds : List D} {R : Cell → List Cell → Prop} (hd : Sq d ds) (hx : Bk m x) (h1 : Hold (1 ≤ m)) (h2 : Hold (0 < ds.length)) (h3 : Hold (ds.length < 2 ^ 62)) (q : ∀ e x', e ∈ ds → Bk (m - 1) (ow x') → R (sh e) [ow x']) : ph__law_of [x, ⟨0, d⟩] R := by
  obtain ⟨n, a, b⟩ := hx.get
  have h1' := h1.out
  exact ⟨n, x, d, ds, rfl, hd, a, by omega, h2.out, h3.out, fun e x' a1 a3 => by
    obtain ⟨d, rfl⟩ := a3.ex
    exact q e d a1 (.of a3 (by omega))⟩
theorem call__law_ofM {α : Type} {inj : α → D} {xs : List α} {m : Nat} {x : Cell} {d : D} {R : Cell → List Cell → Prop} (hd : Sq d (xs.map inj)) (hx : Bk m x) (h1 : Hold (1 ≤ m)) (h2 : Hold (0 < xs.length)) (h3 : Hold (xs.length < 2 ^ 62)) (q : ∀ y x', y ∈ xs → Bk (m - 1) (ow x') → R (sh (inj y)) [ow x']) : ph__law_of [x, ⟨0, d⟩] R :=
  call__law_ofE hd hx h1 (.mk (by rw [List.length_map]; exact h2.out)) (.mk (by rw [List.length_map]; exact h3.out)) fun e x' he hx' => by
    obtain ⟨y, hy, rfl⟩ := List.mem_map.mp he
    exact q y x' hy hx'
theorem call__law_of {xs : List Int} {m : Nat} {x : Cell} {d : D} {R : Cell → List Cell → Prop} (hd : Ints d xs) (hx : Bk m x) (h1 : Hold (1 ≤ m)) (h2 : Hold (0 < xs.length)) (h3 : Hold (xs.length < 2 ^ 62)) (q : ∀ i x', i ∈ xs → Bk (m - 1) (ow x') → R (sh (.int i)) [ow x']) : ph__law_of [x, ⟨0, d⟩] R := call__law_ofM (inj := .int) hd hx h1 h2 h3 q
theorem call__law_ofS {m : Nat} {x : Cell} {d : D} {R : Cell → List Cell → Prop} (hd : d = .list [.str "left", .str "right"]) (hx : Bk m x) (h1 : Hold (1 ≤ m)) (q : ∀ b x', Bk (m - 1) (ow x') → R (sh (.str (sideS b))) [ow x']) : ph__law_of [x, ⟨0, d⟩] R :=
  call__law_ofE (.inl hd) hx h1 (.mk (by decide)) (.mk (by decide)) fun e x' he hx' => by
    rcases List.mem_cons.mp he with rfl | he
    · exact q false x' hx'
    · rw [List.mem_singleton.mp he]; exact q true x' hx'

def b__law_same (φ : Phi) : FS := (fSeq (fIfS (fTst (fOp1 (oIsi ["list", "tuple"]) (fVar 1))) (fSeq (fIfS (fOr (fTst (fOp2 oNe (fOp1 (oIsi ["list"]) (fVar 0)) (fOp1 (oIsi ["list"]) (fVar 1)))) (fTst (fOp2 oNe (fOp1 (oIsi ["tuple"]) (fVar 0)) (fOp1 (oIsi ["tuple"]) (fVar 1))))) (fRet (fC (.bool false))) fNext) (fRet (fAndV (fOp2 oEq (fOpN (at1 oLen) (fCons (fVar 0) fNil)) (fOpN (at1 oLen) (fCons (fVar 1) fNil))) (fOpN (at1 oAll) (fCons (fLc [2, 3] (fZip (fCons (fVar 0) (fCons (fVar 1) fNil))) (gT 2 (gsCons (gN 2) (gsCons (gN 3) gsNil))) fYes (fCall [false, false] φ (fCons (fVar 2) (fCons (fVar 3) fNil)))) fNil))))) fNext) (fSeq (fIfS (fOr (fTst (fOp2 oIsN (fVar 1) (fC .none))) (fTst (fOp1 (oIsi ["bool", "str"]) (fVar 1)))) (fRet (fAndV (fOp2 oEq (fVar 0) (fVar 1)) (fAndV (fOp2 oEq (fOp1 (oIsi ["bool"]) (fVar 0)) (fOp1 (oIsi ["bool"]) (fVar 1))) (fOp2 oEq (fOp2 oIsN (fVar 0) (fC .none)) (fOp2 oIsN (fVar 1) (fC .none)))))) fNext) (fRet (fAndV (fOp1 (oIsi ["int"]) (fVar 0)) (fAndV (fNotV (fOp1 (oIsi ["bool"]) (fVar 0))) (fOp2 oEq (fVar 0) (fVar 1)))))))

/-- the same, of so many levels, compared with itself: yes -/
def phSame (n : Nat) : Phi := fun args R => ∃ d : D, args = [sh d, sh d] ∧ dep n d = true ∧ smallF n d = true ∧ R (sh (.bool true)) []
def ph__law_same : Phi := phSame 7
theorem zip_self (ds : List D) : zipD ds ds = ds.map fun d => .tuple [d, d] := by
  induction ds with
  | nil => rfl
  | cons d ds ih => show _ :: zipD ds ds = _ :: _; rw [ih]
theorem same_all {φ : Phi} {ds : List D} {c0 c1 : Cell} {R : List D → Pv.Env → Prop} {r : Res} (hr : ∀ e, okb e r) (hl : ds.length ≤ 2 ^ 20) (hφ : ∀ d ∈ ds, ∀ S, S (sh (.bool true)) [] → φ [sh d, sh d] S)
    (fin : R ((List.replicate ds.length true).map .bool) [some c0, some c1, none, none]) :
    lcGo [2, 3] (gT 2 (gsCons (gN 2) (gsCons (gN 3) gsNil))) fYes (fCall [false, false] φ (fCons (fVar 2) (fCons (fVar 3) fNil))) r R (zipD ds ds) [] [some c0, some c1, none, none] := by
  have hz : (2 : Nat) ^ 20 < sizeLine := by decide
  rw [zip_self]
  refine lc_inv (fun d => PyData.tuple [d, d]) (fun xs acc e => ∃ i, i + xs.length = ds.length ∧ (∀ d ∈ xs, d ∈ ds) ∧ acc = (List.replicate i true).map .bool ∧ e = [some c0, some c1, none, none]) (fun _ _ e _ => hr e) (fun d xs acc e N hI hN => ?_) (fun acc e hI => ?_) _ _ _ ⟨0, by rw [Nat.zero_add], fun d h => h, rfl, rfl⟩
  · obtain ⟨i, h1, h2, rfl, rfl⟩ := hI
    rw [List.length_cons] at h1
    (row_room_at pv_ev; row_room_at pv_cl)
    refine hφ d (h2 d List.mem_cons_self) _ ?_
    (row_room_at pv_ev; row_room_at pv_cl)
    refine ⟨by show ((List.replicate i true).map PyData.bool).length < sizeLine; rw [List.length_map, List.length_replicate]; omega, hN _ _ ⟨i + 1, by omega, fun x hx => h2 x (List.mem_cons_of_mem _ hx), ?_, rfl⟩⟩
    rw [List.replicate_succ', List.map_append]
    rfl
  · obtain ⟨i, h1, h2, rfl, rfl⟩ := hI
    rw [List.length_nil, Nat.add_zero] at h1
    rw [h1]
    exact fin
theorem same_any {φ : Phi} {d : D} {R : Cell → List Cell → Prop} (hR : R (sh (.bool true)) [])
    (h : leafD d = true ∨ ∃ ds : List D, (d = .list ds ∨ d = .tuple ds) ∧ ds.length ≤ 2 ^ 20 ∧ ∀ d ∈ ds, ∀ S : Cell → List Cell → Prop, S (sh (.bool true)) [] → φ [sh d, sh d] S) : b__law_same φ (startE 4 [sh d, sh d]) (defK [false, false] R) := by
  rcases h with h | ⟨ds, hd, hl, hφ⟩
  · have hs : shp d := dep_shp (n := 0) h (by decide)
    have he := eqv_self 0 d h
    cases d with
    | none =>
      simp only [b__law_same]
      simp only [fSeq, fIfS, fTst, fOp1, fOp2, fOpN, fVar, fFz, fMv, fC, fAsg, fAsgO, fSetIx, fRet, fRetN, fNext, fDrop, fMth, fAug, fUnp, fPar, fNil, fCons, fBreak, fAnd, fOr, fNot, fAndV, fOrV, fNotV, fIf, fNoPart, fPart, fSl, fStp, fYes, startE, getC, sh, ow, okb_v, okb_b, Res.d_v, Res.d_b, flat, noB, dsOf, at1, at2, onOwn, isOwn, mAppend, ioC, defK, oGt, oLt, oGe, oLe, oSub, oAdd, oMulA, oMul, oDiv, oMod, oPow, oIx, oEq, oNe, oIsN, oNotN, oIsB, oNotB, oIn, oNotIn, oLst, oTup, oLen, oList, oTuple, oAbs, oToInt, oMax2, oMin2, oMax, oMin, oAll, oAny, oSorted, oIsi, oNeg, oSl, oStp, dInt0, dInt, dAdd, dMulA, dIx, dEq, dIsB, dNotB, dLen, dList, dTuple, dAbs, dToInt, dNeg, dSl, dStp, dB, atInt, dI, pick, pickI, pickC, ix, toEnv, gN, gT, gsNil, gsCons, setRes, fCall, fCallK, mkArgs, distinct, ioIx, putIos, permD, fLc, fSeqI, fRange1, fRange2, fEnum, fZip, overSeq, overEnum, overZip, away, wipeE, back, forGo, fFor, List.length_cons, List.length_nil, List.getElem?_cons_zero, List.getElem?_cons_succ, List.getElem?_nil, List.set_cons_zero, List.set_cons_succ, List.set_nil, List.map_cons, List.map_nil, List.cons_append, List.nil_append, List.replicate, List.getD_cons_zero, List.getD_cons_succ, List.getD_nil, List.any_cons, List.any_nil, true_and, and_true, Bool.false_eq_true, if_true, if_false, ite_true, ite_false, Nat.le_refl, Bool.or_false, Bool.false_or, Bool.or_true, Bool.true_or, Bool.not_true, Bool.not_false, Bool.and_true, Bool.true_and, Bool.and_self, ixN, Option.some.injEq, exists_eq_left, exists_eq_left', Int.reduceToNat, Int.reduceLE, Int.reduceLT, Int.reduceNeg, Int.reduceAdd, Int.reduceSub, Nat.reduceAdd, Nat.reduceLeDiff, reduceIte, reduceCtorEq, decide_true, decide_false, Nat.reduceSub, Int.reducePow, Int.reduceMul, Int.natCast_add, Int.cast_ofNat_Int, Int.natCast_zero, List.contains_nil, List.contains_cons, Nat.reduceBEq, Nat.reduceEqDiff, refr, ap1_eq, ap2_eq, apN_eq, ovr_eq, ovr2_eq, unpk_t, unpk_l, oSlA, oStpA, apP_eq, apF_eq, apL_eq, isScr_map, isNone, eq_self, isi_list, isi_list_tup, isi_list_int, isi_list_str, isi_list_bl, isi_list_non, isi_tuple_list, isi_tuple, isi_tuple_int, isi_tuple_str, isi_tuple_bl, isi_tuple_non, isi_bool_list, isi_bool_tup, isi_bool_int, isi_bool_str, isi_bool, isi_bool_non, isi_str_list, isi_str_tup, isi_str_int, isi_str, isi_str_bl, isi_str_non, isi_int_list, isi_int_tup, isi_int, isi_int_str, isi_int_bl, isi_int_non]
      refine ⟨hs, hs, ?_⟩
      rw [he]
      simp only [fSeq, fIfS, fTst, fOp1, fOp2, fOpN, fVar, fFz, fMv, fC, fAsg, fAsgO, fSetIx, fRet, fRetN, fNext, fDrop, fMth, fAug, fUnp, fPar, fNil, fCons, fBreak, fAnd, fOr, fNot, fAndV, fOrV, fNotV, fIf, fNoPart, fPart, fSl, fStp, fYes, startE, getC, sh, ow, okb_v, okb_b, Res.d_v, Res.d_b, flat, noB, dsOf, at1, at2, onOwn, isOwn, mAppend, ioC, defK, oGt, oLt, oGe, oLe, oSub, oAdd, oMulA, oMul, oDiv, oMod, oPow, oIx, oEq, oNe, oIsN, oNotN, oIsB, oNotB, oIn, oNotIn, oLst, oTup, oLen, oList, oTuple, oAbs, oToInt, oMax2, oMin2, oMax, oMin, oAll, oAny, oSorted, oIsi, oNeg, oSl, oStp, dInt0, dInt, dAdd, dMulA, dIx, dEq, dIsB, dNotB, dLen, dList, dTuple, dAbs, dToInt, dNeg, dSl, dStp, dB, atInt, dI, pick, pickI, pickC, ix, toEnv, gN, gT, gsNil, gsCons, setRes, fCall, fCallK, mkArgs, distinct, ioIx, putIos, permD, fLc, fSeqI, fRange1, fRange2, fEnum, fZip, overSeq, overEnum, overZip, away, wipeE, back, forGo, fFor, List.length_cons, List.length_nil, List.getElem?_cons_zero, List.getElem?_cons_succ, List.getElem?_nil, List.set_cons_zero, List.set_cons_succ, List.set_nil, List.map_cons, List.map_nil, List.cons_append, List.nil_append, List.replicate, List.getD_cons_zero, List.getD_cons_succ, List.getD_nil, List.any_cons, List.any_nil, true_and, and_true, Bool.false_eq_true, if_true, if_false, ite_true, ite_false, Nat.le_refl, Bool.or_false, Bool.false_or, Bool.or_true, Bool.true_or, Bool.not_true, Bool.not_false, Bool.and_true, Bool.true_and, Bool.and_self, ixN, Option.some.injEq, exists_eq_left, exists_eq_left', Int.reduceToNat, Int.reduceLE, Int.reduceLT, Int.reduceNeg, Int.reduceAdd, Int.reduceSub, Nat.reduceAdd, Nat.reduceLeDiff, reduceIte, reduceCtorEq, decide_true, decide_false, Nat.reduceSub, Int.reducePow, Int.reduceMul, Int.natCast_add, Int.cast_ofNat_Int, Int.natCast_zero, List.contains_nil, List.contains_cons, Nat.reduceBEq, Nat.reduceEqDiff, refr, ap1_eq, ap2_eq, apN_eq, ovr_eq, ovr2_eq, unpk_t, unpk_l, oSlA, oStpA, apP_eq, apF_eq, apL_eq, isScr_map, isNone, eq_self, isi_list, isi_list_tup, isi_list_int, isi_list_str, isi_list_bl, isi_list_non, isi_tuple_list, isi_tuple, isi_tuple_int, isi_tuple_str, isi_tuple_bl, isi_tuple_non, isi_bool_list, isi_bool_tup, isi_bool_int, isi_bool_str, isi_bool, isi_bool_non, isi_str_list, isi_str_tup, isi_str_int, isi_str, isi_str_bl, isi_str_non, isi_int_list, isi_int_tup, isi_int, isi_int_str, isi_int_bl, isi_int_non]
      exact hR
    | bool b =>
      simp only [b__law_same]
      simp only [fSeq, fIfS, fTst, fOp1, fOp2, fOpN, fVar, fFz, fMv, fC, fAsg, fAsgO, fSetIx, fRet, fRetN, fNext, fDrop, fMth, fAug, fUnp, fPar, fNil, fCons, fBreak, fAnd, fOr, fNot, fAndV, fOrV, fNotV, fIf, fNoPart, fPart, fSl, fStp, fYes, startE, getC, sh, ow, okb_v, okb_b, Res.d_v, Res.d_b, flat, noB, dsOf, at1, at2, onOwn, isOwn, mAppend, ioC, defK, oGt, oLt, oGe, oLe, oSub, oAdd, oMulA, oMul, oDiv, oMod, oPow, oIx, oEq, oNe, oIsN, oNotN, oIsB, oNotB, oIn, oNotIn, oLst, oTup, oLen, oList, oTuple, oAbs, oToInt, oMax2, oMin2, oMax, oMin, oAll, oAny, oSorted, oIsi, oNeg, oSl, oStp, dInt0, dInt, dAdd, dMulA, dIx, dEq, dIsB, dNotB, dLen, dList, dTuple, dAbs, dToInt, dNeg, dSl, dStp, dB, atInt, dI, pick, pickI, pickC, ix, toEnv, gN, gT, gsNil, gsCons, setRes, fCall, fCallK, mkArgs, distinct, ioIx, putIos, permD, fLc, fSeqI, fRange1, fRange2, fEnum, fZip, overSeq, overEnum, overZip, away, wipeE, back, forGo, fFor, List.length_cons, List.length_nil, List.getElem?_cons_zero, List.getElem?_cons_succ, List.getElem?_nil, List.set_cons_zero, List.set_cons_succ, List.set_nil, List.map_cons, List.map_nil, List.cons_append, List.nil_append, List.replicate, List.getD_cons_zero, List.getD_cons_succ, List.getD_nil, List.any_cons, List.any_nil, true_and, and_true, Bool.false_eq_true, if_true, if_false, ite_true, ite_false, Nat.le_refl, Bool.or_false, Bool.false_or, Bool.or_true, Bool.true_or, Bool.not_true, Bool.not_false, Bool.and_true, Bool.true_and, Bool.and_self, ixN, Option.some.injEq, exists_eq_left, exists_eq_left', Int.reduceToNat, Int.reduceLE, Int.reduceLT, Int.reduceNeg, Int.reduceAdd, Int.reduceSub, Nat.reduceAdd, Nat.reduceLeDiff, reduceIte, reduceCtorEq, decide_true, decide_false, Nat.reduceSub, Int.reducePow, Int.reduceMul, Int.natCast_add, Int.cast_ofNat_Int, Int.natCast_zero, List.contains_nil, List.contains_cons, Nat.reduceBEq, Nat.reduceEqDiff, refr, ap1_eq, ap2_eq, apN_eq, ovr_eq, ovr2_eq, unpk_t, unpk_l, oSlA, oStpA, apP_eq, apF_eq, apL_eq, isScr_map, isNone, eq_self, isi_list, isi_list_tup, isi_list_int, isi_list_str, isi_list_bl, isi_list_non, isi_tuple_list, isi_tuple, isi_tuple_int, isi_tuple_str, isi_tuple_bl, isi_tuple_non, isi_bool_list, isi_bool_tup, isi_bool_int, isi_bool_str, isi_bool, isi_bool_non, isi_str_list, isi_str_tup, isi_str_int, isi_str, isi_str_bl, isi_str_non, isi_int_list, isi_int_tup, isi_int, isi_int_str, isi_int_bl, isi_int_non]
      exact hR
    | int i =>
      simp only [b__law_same]
      simp only [fSeq, fIfS, fTst, fOp1, fOp2, fOpN, fVar, fFz, fMv, fC, fAsg, fAsgO, fSetIx, fRet, fRetN, fNext, fDrop, fMth, fAug, fUnp, fPar, fNil, fCons, fBreak, fAnd, fOr, fNot, fAndV, fOrV, fNotV, fIf, fNoPart, fPart, fSl, fStp, fYes, startE, getC, sh, ow, okb_v, okb_b, Res.d_v, Res.d_b, flat, noB, dsOf, at1, at2, onOwn, isOwn, mAppend, ioC, defK, oGt, oLt, oGe, oLe, oSub, oAdd, oMulA, oMul, oDiv, oMod, oPow, oIx, oEq, oNe, oIsN, oNotN, oIsB, oNotB, oIn, oNotIn, oLst, oTup, oLen, oList, oTuple, oAbs, oToInt, oMax2, oMin2, oMax, oMin, oAll, oAny, oSorted, oIsi, oNeg, oSl, oStp, dInt0, dInt, dAdd, dMulA, dIx, dEq, dIsB, dNotB, dLen, dList, dTuple, dAbs, dToInt, dNeg, dSl, dStp, dB, atInt, dI, pick, pickI, pickC, ix, toEnv, gN, gT, gsNil, gsCons, setRes, fCall, fCallK, mkArgs, distinct, ioIx, putIos, permD, fLc, fSeqI, fRange1, fRange2, fEnum, fZip, overSeq, overEnum, overZip, away, wipeE, back, forGo, fFor, List.length_cons, List.length_nil, List.getElem?_cons_zero, List.getElem?_cons_succ, List.getElem?_nil, List.set_cons_zero, List.set_cons_succ, List.set_nil, List.map_cons, List.map_nil, List.cons_append, List.nil_append, List.replicate, List.getD_cons_zero, List.getD_cons_succ, List.getD_nil, List.any_cons, List.any_nil, true_and, and_true, Bool.false_eq_true, if_true, if_false, ite_true, ite_false, Nat.le_refl, Bool.or_false, Bool.false_or, Bool.or_true, Bool.true_or, Bool.not_true, Bool.not_false, Bool.and_true, Bool.true_and, Bool.and_self, ixN, Option.some.injEq, exists_eq_left, exists_eq_left', Int.reduceToNat, Int.reduceLE, Int.reduceLT, Int.reduceNeg, Int.reduceAdd, Int.reduceSub, Nat.reduceAdd, Nat.reduceLeDiff, reduceIte, reduceCtorEq, decide_true, decide_false, Nat.reduceSub, Int.reducePow, Int.reduceMul, Int.natCast_add, Int.cast_ofNat_Int, Int.natCast_zero, List.contains_nil, List.contains_cons, Nat.reduceBEq, Nat.reduceEqDiff, refr, ap1_eq, ap2_eq, apN_eq, ovr_eq, ovr2_eq, unpk_t, unpk_l, oSlA, oStpA, apP_eq, apF_eq, apL_eq, isScr_map, isNone, eq_self, isi_list, isi_list_tup, isi_list_int, isi_list_str, isi_list_bl, isi_list_non, isi_tuple_list, isi_tuple, isi_tuple_int, isi_tuple_str, isi_tuple_bl, isi_tuple_non, isi_bool_list, isi_bool_tup, isi_bool_int, isi_bool_str, isi_bool, isi_bool_non, isi_str_list, isi_str_tup, isi_str_int, isi_str, isi_str_bl, isi_str_non, isi_int_list, isi_int_tup, isi_int, isi_int_str, isi_int_bl, isi_int_non]
      exact hR
    | str z =>
      simp only [b__law_same]
      simp only [fSeq, fIfS, fTst, fOp1, fOp2, fOpN, fVar, fFz, fMv, fC, fAsg, fAsgO, fSetIx, fRet, fRetN, fNext, fDrop, fMth, fAug, fUnp, fPar, fNil, fCons, fBreak, fAnd, fOr, fNot, fAndV, fOrV, fNotV, fIf, fNoPart, fPart, fSl, fStp, fYes, startE, getC, sh, ow, okb_v, okb_b, Res.d_v, Res.d_b, flat, noB, dsOf, at1, at2, onOwn, isOwn, mAppend, ioC, defK, oGt, oLt, oGe, oLe, oSub, oAdd, oMulA, oMul, oDiv, oMod, oPow, oIx, oEq, oNe, oIsN, oNotN, oIsB, oNotB, oIn, oNotIn, oLst, oTup, oLen, oList, oTuple, oAbs, oToInt, oMax2, oMin2, oMax, oMin, oAll, oAny, oSorted, oIsi, oNeg, oSl, oStp, dInt0, dInt, dAdd, dMulA, dIx, dEq, dIsB, dNotB, dLen, dList, dTuple, dAbs, dToInt, dNeg, dSl, dStp, dB, atInt, dI, pick, pickI, pickC, ix, toEnv, gN, gT, gsNil, gsCons, setRes, fCall, fCallK, mkArgs, distinct, ioIx, putIos, permD, fLc, fSeqI, fRange1, fRange2, fEnum, fZip, overSeq, overEnum, overZip, away, wipeE, back, forGo, fFor, List.length_cons, List.length_nil, List.getElem?_cons_zero, List.getElem?_cons_succ, List.getElem?_nil, List.set_cons_zero, List.set_cons_succ, List.set_nil, List.map_cons, List.map_nil, List.cons_append, List.nil_append, List.replicate, List.getD_cons_zero, List.getD_cons_succ, List.getD_nil, List.any_cons, List.any_nil, true_and, and_true, Bool.false_eq_true, if_true, if_false, ite_true, ite_false, Nat.le_refl, Bool.or_false, Bool.false_or, Bool.or_true, Bool.true_or, Bool.not_true, Bool.not_false, Bool.and_true, Bool.true_and, Bool.and_self, ixN, Option.some.injEq, exists_eq_left, exists_eq_left', Int.reduceToNat, Int.reduceLE, Int.reduceLT, Int.reduceNeg, Int.reduceAdd, Int.reduceSub, Nat.reduceAdd, Nat.reduceLeDiff, reduceIte, reduceCtorEq, decide_true, decide_false, Nat.reduceSub, Int.reducePow, Int.reduceMul, Int.natCast_add, Int.cast_ofNat_Int, Int.natCast_zero, List.contains_nil, List.contains_cons, Nat.reduceBEq, Nat.reduceEqDiff, refr, ap1_eq, ap2_eq, apN_eq, ovr_eq, ovr2_eq, unpk_t, unpk_l, oSlA, oStpA, apP_eq, apF_eq, apL_eq, isScr_map, isNone, eq_self, isi_list, isi_list_tup, isi_list_int, isi_list_str, isi_list_bl, isi_list_non, isi_tuple_list, isi_tuple, isi_tuple_int, isi_tuple_str, isi_tuple_bl, isi_tuple_non, isi_bool_list, isi_bool_tup, isi_bool_int, isi_bool_str, isi_bool, isi_bool_non, isi_str_list, isi_str_tup, isi_str_int, isi_str, isi_str_bl, isi_str_non, isi_int_list, isi_int_tup, isi_int, isi_int_str, isi_int_bl, isi_int_non]
      exact hR
    | list _ => cases h
    | tuple _ => cases h
    | dict _ => cases h
  · rcases hd with rfl | rfl
    all_goals
      simp only [b__law_same]
      simp only [fSeq, fIfS, fTst, fOp1, fOp2, fOpN, fVar, fFz, fMv, fC, fAsg, fAsgO, fSetIx, fRet, fRetN, fNext, fDrop, fMth, fAug, fUnp, fPar, fNil, fCons, fBreak, fAnd, fOr, fNot, fAndV, fOrV, fNotV, fIf, fNoPart, fPart, fSl, fStp, fYes, startE, getC, sh, ow, okb_v, okb_b, Res.d_v, Res.d_b, flat, noB, dsOf, at1, at2, onOwn, isOwn, mAppend, ioC, defK, oGt, oLt, oGe, oLe, oSub, oAdd, oMulA, oMul, oDiv, oMod, oPow, oIx, oEq, oNe, oIsN, oNotN, oIsB, oNotB, oIn, oNotIn, oLst, oTup, oLen, oList, oTuple, oAbs, oToInt, oMax2, oMin2, oMax, oMin, oAll, oAny, oSorted, oIsi, oNeg, oSl, oStp, dInt0, dInt, dAdd, dMulA, dIx, dEq, dIsB, dNotB, dLen, dList, dTuple, dAbs, dToInt, dNeg, dSl, dStp, dB, atInt, dI, pick, pickI, pickC, ix, toEnv, gN, gT, gsNil, gsCons, setRes, fCall, fCallK, mkArgs, distinct, ioIx, putIos, permD, fLc, fSeqI, fRange1, fRange2, fEnum, fZip, overSeq, overEnum, overZip, away, wipeE, back, forGo, fFor, List.length_cons, List.length_nil, List.getElem?_cons_zero, List.getElem?_cons_succ, List.getElem?_nil, List.set_cons_zero, List.set_cons_succ, List.set_nil, List.map_cons, List.map_nil, List.cons_append, List.nil_append, List.replicate, List.getD_cons_zero, List.getD_cons_succ, List.getD_nil, List.any_cons, List.any_nil, true_and, and_true, Bool.false_eq_true, if_true, if_false, ite_true, ite_false, Nat.le_refl, Bool.or_false, Bool.false_or, Bool.or_true, Bool.true_or, Bool.not_true, Bool.not_false, Bool.and_true, Bool.true_and, Bool.and_self, ixN, Option.some.injEq, exists_eq_left, exists_eq_left', Int.reduceToNat, Int.reduceLE, Int.reduceLT, Int.reduceNeg, Int.reduceAdd, Int.reduceSub, Nat.reduceAdd, Nat.reduceLeDiff, reduceIte, reduceCtorEq, decide_true, decide_false, Nat.reduceSub, Int.reducePow, Int.reduceMul, Int.natCast_add, Int.cast_ofNat_Int, Int.natCast_zero, List.contains_nil, List.contains_cons, Nat.reduceBEq, Nat.reduceEqDiff, refr, ap1_eq, ap2_eq, apN_eq, ovr_eq, ovr2_eq, unpk_t, unpk_l, oSlA, oStpA, apP_eq, apF_eq, apL_eq, isScr_map, isNone, eq_self, isi_list, isi_list_tup, isi_list_int, isi_list_str, isi_list_bl, isi_list_non, isi_tuple_list, isi_tuple, isi_tuple_int, isi_tuple_str, isi_tuple_bl, isi_tuple_non, isi_bool_list, isi_bool_tup, isi_bool_int, isi_bool_str, isi_bool, isi_bool_non, isi_str_list, isi_str_tup, isi_str_int, isi_str, isi_str_bl, isi_str_non, isi_int_list, isi_int_tup, isi_int, isi_int_str, isi_int_bl, isi_int_non]
      refine same_all (fun _ => trivial) hl hφ ?_
      simp only [fSeq, fIfS, fTst, fOp1, fOp2, fOpN, fVar, fFz, fMv, fC, fAsg, fAsgO, fSetIx, fRet, fRetN, fNext, fDrop, fMth, fAug, fUnp, fPar, fNil, fCons, fBreak, fAnd, fOr, fNot, fAndV, fOrV, fNotV, fIf, fNoPart, fPart, fSl, fStp, fYes, startE, getC, sh, ow, okb_v, okb_b, Res.d_v, Res.d_b, flat, noB, dsOf, at1, at2, onOwn, isOwn, mAppend, ioC, defK, oGt, oLt, oGe, oLe, oSub, oAdd, oMulA, oMul, oDiv, oMod, oPow, oIx, oEq, oNe, oIsN, oNotN, oIsB, oNotB, oIn, oNotIn, oLst, oTup, oLen, oList, oTuple, oAbs, oToInt, oMax2, oMin2, oMax, oMin, oAll, oAny, oSorted, oIsi, oNeg, oSl, oStp, dInt0, dInt, dAdd, dMulA, dIx, dEq, dIsB, dNotB, dLen, dList, dTuple, dAbs, dToInt, dNeg, dSl, dStp, dB, atInt, dI, pick, pickI, pickC, ix, toEnv, gN, gT, gsNil, gsCons, setRes, fCall, fCallK, mkArgs, distinct, ioIx, putIos, permD, fLc, fSeqI, fRange1, fRange2, fEnum, fZip, overSeq, overEnum, overZip, away, wipeE, back, forGo, fFor, List.length_cons, List.length_nil, List.getElem?_cons_zero, List.getElem?_cons_succ, List.getElem?_nil, List.set_cons_zero, List.set_cons_succ, List.set_nil, List.map_cons, List.map_nil, List.cons_append, List.nil_append, List.replicate, List.getD_cons_zero, List.getD_cons_succ, List.getD_nil, List.any_cons, List.any_nil, true_and, and_true, Bool.false_eq_true, if_true, if_false, ite_true, ite_false, Nat.le_refl, Bool.or_false, Bool.false_or, Bool.or_true, Bool.true_or, Bool.not_true, Bool.not_false, Bool.and_true, Bool.true_and, Bool.and_self, ixN, Option.some.injEq, exists_eq_left, exists_eq_left', Int.reduceToNat, Int.reduceLE, Int.reduceLT, Int.reduceNeg, Int.reduceAdd, Int.reduceSub, Nat.reduceAdd, Nat.reduceLeDiff, reduceIte, reduceCtorEq, decide_true, decide_false, Nat.reduceSub, Int.reducePow, Int.reduceMul, Int.natCast_add, Int.cast_ofNat_Int, Int.natCast_zero, List.contains_nil, List.contains_cons, Nat.reduceBEq, Nat.reduceEqDiff, refr, ap1_eq, ap2_eq, apN_eq, ovr_eq, ovr2_eq, unpk_t, unpk_l, oSlA, oStpA, apP_eq, apF_eq, apL_eq, isScr_map]
      refine ⟨trivial, List.replicate ds.length true, rfl, ?_⟩
      rw [all_true]
      exact hR
theorem vc__law_same (n : Nat) (args R) (h : phSame (n + 1) args R) : b__law_same (phSame n) (startE 4 args) (defK [false, false] R) := by
  obtain ⟨d, rfl, hd, hs, hR⟩ := h
  refine same_any hR ?_
  cases d with
  | list ds =>
    rw [smallF, Bool.and_eq_true] at hs
    exact .inr ⟨ds, .inl rfl, of_decide_eq_true hs.1, fun d h S hS => ⟨d, rfl, List.all_eq_true.mp hd d h, List.all_eq_true.mp hs.2 d h, hS⟩⟩
  | tuple ds =>
    rw [smallF, Bool.and_eq_true] at hs
    exact .inr ⟨ds, .inr rfl, of_decide_eq_true hs.1, fun d h S hS => ⟨d, rfl, List.all_eq_true.mp hd d h, List.all_eq_true.mp hs.2 d h, hS⟩⟩
  | none => exact .inl rfl
  | bool _ => exact .inl rfl
  | int _ => exact .inl rfl
  | str _ => exact .inl hd
  | dict _ => cases hd
theorem vc__law_same0 (args R) (h : phSame 0 args R) : b__law_same noPhi (startE 4 args) (defK [false, false] R) := by
  obtain ⟨d, rfl, hd, hs, hR⟩ := h
  exact same_any hR (.inl hd)
-- CALLS
-- CALL call__law_same hh |
theorem call__law_same {d e : D} {R : Cell → List Cell → Prop} (h : Hold (d = e)) (h2 : Hold (okD 7 e)) (q : R (sh (.bool true)) []) : ph__law_same [sh d, sh e] R := ⟨e, by rw [h.out], h2.out.1, h2.out.2, q⟩

def b__law_strewn : FS := (fSeq (fPar [2, 3] [true, true] (fCons (fOpN (at1 oList) (fCons (fVar 1) fNil)) (fCons (fOpN oLst fNil) fNil))) (fSeq (fWhile (fTst (fOp2 oNe (fVar 2) (fOpN oLst fNil))) (fDrop (fMth 3 mAppend (fCons (fMth 2 mPopAt (fCons (fCall [true, false] ph__law_take (fCons (fVar 0) (fCons (fOpN (at1 oLen) (fCons (fVar 2) fNil)) fNil))) fNil)) fNil)))) (fRet (fMv 3))))

def ph__law_strewn : Phi := fun args R => ∃ (n : Nat) (x : Cell) (d : D) (ds : List D), args = [x, ⟨0, d⟩] ∧ (d = .list ds ∨ d = .tuple ds) ∧ Bx n x ∧ n + ds.length < 2 ^ 60 ∧ ds.length ≤ 2 ^ 20 ∧ (∀ e ∈ ds, dep 60 e = true) ∧ ∀ es x', es.Perm ds → Bx (n + ds.length) x' → R ⟨1, .list es⟩ [x']
theorem strewn_go {N : Nat} {d : D} {ds : List D} {k : Kt} (hN : N + ds.length < 2 ^ 60) (hl : ds.length ≤ 2 ^ 20) (hd : ∀ e ∈ ds, dep 60 e = true) (hk : ∀ es x', es.Perm ds → Bx (N + ds.length) x' → k.nx [some x', some (sh d), some (ow (.list [])), some (ow (.list es))]) :
    ∀ (m : Nat) (left acc : List D) (x : Cell), left.length = m → (left ++ acc).Perm ds → Bx (N + acc.length) x →
    whGo (fTst (fOp2 oNe (fVar 2) (fOpN oLst fNil))) (fDrop (fMth 3 mAppend (fCons (fMth 2 mPopAt (fCons (fCall [true, false] ph__law_take (fCons (fVar 0) (fCons (fOpN (at1 oLen) (fCons (fVar 2) fNil)) fNil))) fNil)) fNil))) k (m + 1) [some x, some (sh d), some (ow (.list left)), some (ow (.list acc))] := by
  intro m
  induction m with
  | zero =>
    intro left acc x hm hp hx
    have e : left = [] := List.eq_nil_of_length_eq_zero hm
    subst e
    rw [List.nil_append] at hp
    have := hp.length_eq
    simp only [whGo]
    simp only [fSeq, fIfS, fTst, fOp1, fOp2, fOpN, fVar, fFz, fMv, fC, fAsg, fAsgO, fSetIx, fRet, fRetN, fNext, fDrop, fMth, fAug, fUnp, fPar, fNil, fCons, fBreak, fAnd, fOr, fNot, fAndV, fOrV, fNotV, fIf, fNoPart, fPart, fSl, fStp, fYes, startE, getC, sh, ow, okb_v, okb_b, Res.d_v, Res.d_b, flat, noB, dsOf, at1, at2, onOwn, isOwn, mAppend, ioC, defK, oGt, oLt, oGe, oLe, oSub, oAdd, oMulA, oMul, oDiv, oMod, oPow, oIx, oEq, oNe, oIsN, oNotN, oIsB, oNotB, oIn, oNotIn, oLst, oTup, oLen, oList, oTuple, oAbs, oToInt, oMax2, oMin2, oMax, oMin, oAll, oAny, oSorted, oIsi, oNeg, oSl, oStp, dInt0, dInt, dAdd, dMulA, dIx, dEq, dIsB, dNotB, dLen, dList, dTuple, dAbs, dToInt, dNeg, dSl, dStp, dB, atInt, dI, pick, pickI, pickC, ix, toEnv, gN, gT, gsNil, gsCons, setRes, fCall, fCallK, mkArgs, distinct, ioIx, putIos, permD, fLc, fSeqI, fRange1, fRange2, fEnum, fZip, overSeq, overEnum, overZip, away, wipeE, back, forGo, fFor, List.length_cons, List.length_nil, List.getElem?_cons_zero, List.getElem?_cons_succ, List.getElem?_nil, List.set_cons_zero, List.set_cons_succ, List.set_nil, List.map_cons, List.map_nil, List.cons_append, List.nil_append, List.replicate, List.getD_cons_zero, List.getD_cons_succ, List.getD_nil, List.any_cons, List.any_nil, true_and, and_true, Bool.false_eq_true, if_true, if_false, ite_true, ite_false, Nat.le_refl, Bool.or_false, Bool.false_or, Bool.or_true, Bool.true_or, Bool.not_true, Bool.not_false, Bool.and_true, Bool.true_and, Bool.and_self, ixN, Option.some.injEq, exists_eq_left, exists_eq_left', Int.reduceToNat, Int.reduceLE, Int.reduceLT, Int.reduceNeg, Int.reduceAdd, Int.reduceSub, Nat.reduceAdd, Nat.reduceLeDiff, reduceIte, reduceCtorEq, decide_true, decide_false, Nat.reduceSub, Int.reducePow, Int.reduceMul, Int.natCast_add, Int.cast_ofNat_Int, Int.natCast_zero, List.contains_nil, List.contains_cons, Nat.reduceBEq, Nat.reduceEqDiff, refr, ap1_eq, ap2_eq, apN_eq, ovr_eq, ovr2_eq, unpk_t, unpk_l, oSlA, oStpA, apP_eq, apF_eq, apL_eq, isScr_map]
    refine ⟨Nat.zero_le _, by decide, by decide, ?_⟩
    show k.nx _
    exact hk acc x hp (by rw [← this]; exact hx)
  | succ m ih =>
    intro left acc x hm hp hx
    obtain ⟨xd, rfl⟩ := hx.ex
    have hll := hp.length_eq
    rw [List.length_append] at hll
    have hs : shp (.list left) := dep_shp (n := 61) (List.all_eq_true.mpr fun e he => hd e (hp.subset (List.mem_append_left _ he))) (by decide)
    have hz : (2 : Nat) ^ 20 < sizeLine := by decide
    match left, hm with
    | a :: left, hm =>
      have hlc : (a :: left).length = left.length + 1 := rfl
      have hne : PyData.eqv (.list (a :: left)) (.list []) = false := rfl
      rw [whGo]
      simp only [fSeq, fIfS, fTst, fOp1, fOp2, fOpN, fVar, fFz, fMv, fC, fAsg, fAsgO, fSetIx, fRet, fRetN, fNext, fDrop, fMth, fAug, fUnp, fPar, fNil, fCons, fBreak, fAnd, fOr, fNot, fAndV, fOrV, fNotV, fIf, fNoPart, fPart, fSl, fStp, fYes, startE, getC, sh, ow, okb_v, okb_b, Res.d_v, Res.d_b, flat, noB, dsOf, at1, at2, onOwn, isOwn, mAppend, ioC, defK, oGt, oLt, oGe, oLe, oSub, oAdd, oMulA, oMul, oDiv, oMod, oPow, oIx, oEq, oNe, oIsN, oNotN, oIsB, oNotB, oIn, oNotIn, oLst, oTup, oLen, oList, oTuple, oAbs, oToInt, oMax2, oMin2, oMax, oMin, oAll, oAny, oSorted, oIsi, oNeg, oSl, oStp, dInt0, dInt, dAdd, dMulA, dIx, dEq, dIsB, dNotB, dLen, dList, dTuple, dAbs, dToInt, dNeg, dSl, dStp, dB, atInt, dI, pick, pickI, pickC, ix, toEnv, gN, gT, gsNil, gsCons, setRes, fCall, fCallK, mkArgs, distinct, ioIx, putIos, permD, fLc, fSeqI, fRange1, fRange2, fEnum, fZip, overSeq, overEnum, overZip, away, wipeE, back, forGo, fFor, List.length_cons, List.length_nil, List.getElem?_cons_zero, List.getElem?_cons_succ, List.getElem?_nil, List.set_cons_zero, List.set_cons_succ, List.set_nil, List.map_cons, List.map_nil, List.cons_append, List.nil_append, List.replicate, List.getD_cons_zero, List.getD_cons_succ, List.getD_nil, List.any_cons, List.any_nil, true_and, and_true, Bool.false_eq_true, if_true, if_false, ite_true, ite_false, Nat.le_refl, Bool.or_false, Bool.false_or, Bool.or_true, Bool.true_or, Bool.not_true, Bool.not_false, Bool.and_true, Bool.true_and, Bool.and_self, ixN, Option.some.injEq, exists_eq_left, exists_eq_left', Int.reduceToNat, Int.reduceLE, Int.reduceLT, Int.reduceNeg, Int.reduceAdd, Int.reduceSub, Nat.reduceAdd, Nat.reduceLeDiff, reduceIte, reduceCtorEq, decide_true, decide_false, Nat.reduceSub, Int.reducePow, Int.reduceMul, Int.natCast_add, Int.cast_ofNat_Int, Int.natCast_zero, List.contains_nil, List.contains_cons, Nat.reduceBEq, Nat.reduceEqDiff, refr, ap1_eq, ap2_eq, apN_eq, ovr_eq, ovr2_eq, unpk_t, unpk_l, oSlA, oStpA, apP_eq, apF_eq, apL_eq, isScr_map]
      refine ⟨Nat.zero_le _, hs, by decide, ?_⟩
      rw [hne]
      simp only [fSeq, fIfS, fTst, fOp1, fOp2, fOpN, fVar, fFz, fMv, fC, fAsg, fAsgO, fSetIx, fRet, fRetN, fNext, fDrop, fMth, fAug, fUnp, fPar, fNil, fCons, fBreak, fAnd, fOr, fNot, fAndV, fOrV, fNotV, fIf, fNoPart, fPart, fSl, fStp, fYes, startE, getC, sh, ow, okb_v, okb_b, Res.d_v, Res.d_b, flat, noB, dsOf, at1, at2, onOwn, isOwn, mAppend, ioC, defK, oGt, oLt, oGe, oLe, oSub, oAdd, oMulA, oMul, oDiv, oMod, oPow, oIx, oEq, oNe, oIsN, oNotN, oIsB, oNotB, oIn, oNotIn, oLst, oTup, oLen, oList, oTuple, oAbs, oToInt, oMax2, oMin2, oMax, oMin, oAll, oAny, oSorted, oIsi, oNeg, oSl, oStp, dInt0, dInt, dAdd, dMulA, dIx, dEq, dIsB, dNotB, dLen, dList, dTuple, dAbs, dToInt, dNeg, dSl, dStp, dB, atInt, dI, pick, pickI, pickC, ix, toEnv, gN, gT, gsNil, gsCons, setRes, fCall, fCallK, mkArgs, distinct, ioIx, putIos, permD, fLc, fSeqI, fRange1, fRange2, fEnum, fZip, overSeq, overEnum, overZip, away, wipeE, back, forGo, fFor, List.length_cons, List.length_nil, List.getElem?_cons_zero, List.getElem?_cons_succ, List.getElem?_nil, List.set_cons_zero, List.set_cons_succ, List.set_nil, List.map_cons, List.map_nil, List.cons_append, List.nil_append, List.replicate, List.getD_cons_zero, List.getD_cons_succ, List.getD_nil, List.any_cons, List.any_nil, true_and, and_true, Bool.false_eq_true, if_true, if_false, ite_true, ite_false, Nat.le_refl, Bool.or_false, Bool.false_or, Bool.or_true, Bool.true_or, Bool.not_true, Bool.not_false, Bool.and_true, Bool.true_and, Bool.and_self, ixN, Option.some.injEq, exists_eq_left, exists_eq_left', Int.reduceToNat, Int.reduceLE, Int.reduceLT, Int.reduceNeg, Int.reduceAdd, Int.reduceSub, Nat.reduceAdd, Nat.reduceLeDiff, reduceIte, reduceCtorEq, decide_true, decide_false, Nat.reduceSub, Int.reducePow, Int.reduceMul, Int.natCast_add, Int.cast_ofNat_Int, Int.natCast_zero, List.contains_nil, List.contains_cons, Nat.reduceBEq, Nat.reduceEqDiff, refr, ap1_eq, ap2_eq, apN_eq, ovr_eq, ovr2_eq, unpk_t, unpk_l, oSlA, oStpA, apP_eq, apF_eq, apL_eq, isScr_map]
      refine ⟨N + acc.length, hx, by omega, by omega, by omega, fun t x' t0 t1 hx' => ?_⟩
      obtain ⟨xd', rfl⟩ := hx'.ex
      have ht : t.toNat < (a :: left).length := by rw [List.length_cons]; omega
      simp only [mPopAt]
      simp only [fSeq, fIfS, fTst, fOp1, fOp2, fOpN, fVar, fFz, fMv, fC, fAsg, fAsgO, fSetIx, fRet, fRetN, fNext, fDrop, fMth, fAug, fUnp, fPar, fNil, fCons, fBreak, fAnd, fOr, fNot, fAndV, fOrV, fNotV, fIf, fNoPart, fPart, fSl, fStp, fYes, startE, getC, sh, ow, okb_v, okb_b, Res.d_v, Res.d_b, flat, noB, dsOf, at1, at2, onOwn, isOwn, mAppend, ioC, defK, oGt, oLt, oGe, oLe, oSub, oAdd, oMulA, oMul, oDiv, oMod, oPow, oIx, oEq, oNe, oIsN, oNotN, oIsB, oNotB, oIn, oNotIn, oLst, oTup, oLen, oList, oTuple, oAbs, oToInt, oMax2, oMin2, oMax, oMin, oAll, oAny, oSorted, oIsi, oNeg, oSl, oStp, dInt0, dInt, dAdd, dMulA, dIx, dEq, dIsB, dNotB, dLen, dList, dTuple, dAbs, dToInt, dNeg, dSl, dStp, dB, atInt, dI, pick, pickI, pickC, ix, toEnv, gN, gT, gsNil, gsCons, setRes, fCall, fCallK, mkArgs, distinct, ioIx, putIos, permD, fLc, fSeqI, fRange1, fRange2, fEnum, fZip, overSeq, overEnum, overZip, away, wipeE, back, forGo, fFor, List.length_cons, List.length_nil, List.getElem?_cons_zero, List.getElem?_cons_succ, List.getElem?_nil, List.set_cons_zero, List.set_cons_succ, List.set_nil, List.map_cons, List.map_nil, List.cons_append, List.nil_append, List.replicate, List.getD_cons_zero, List.getD_cons_succ, List.getD_nil, List.any_cons, List.any_nil, true_and, and_true, Bool.false_eq_true, if_true, if_false, ite_true, ite_false, Nat.le_refl, Bool.or_false, Bool.false_or, Bool.or_true, Bool.true_or, Bool.not_true, Bool.not_false, Bool.and_true, Bool.true_and, Bool.and_self, ixN, Option.some.injEq, exists_eq_left, exists_eq_left', Int.reduceToNat, Int.reduceLE, Int.reduceLT, Int.reduceNeg, Int.reduceAdd, Int.reduceSub, Nat.reduceAdd, Nat.reduceLeDiff, reduceIte, reduceCtorEq, decide_true, decide_false, Nat.reduceSub, Int.reducePow, Int.reduceMul, Int.natCast_add, Int.cast_ofNat_Int, Int.natCast_zero, List.contains_nil, List.contains_cons, Nat.reduceBEq, Nat.reduceEqDiff, refr, ap1_eq, ap2_eq, apN_eq, ovr_eq, ovr2_eq, unpk_t, unpk_l, oSlA, oStpA, apP_eq, apF_eq, apL_eq, isScr_map]
      refine ⟨t.toNat, (a :: left)[t.toNat], six t0 t1, List.getElem?_eq_getElem ht, by omega, by omega, ?_⟩
      refine ih _ _ _ ?_ ?_ ?_
      · rw [List.length_eraseIdx_of_lt ht]; rw [List.length_cons] at hm ⊢; omega
      · refine List.Perm.trans ?_ hp
        have p1 : ((a :: left)[t.toNat] :: (a :: left).eraseIdx t.toNat).Perm (a :: left) := pop_perm _ _ _ (List.getElem?_eq_getElem ht)
        refine List.Perm.trans ?_ (p1.append_right acc)
        rw [← List.append_assoc]
        exact (List.perm_append_singleton _ _)
      · rw [List.length_append]; exact hx'
theorem vc__law_strewn (args R) (h : ph__law_strewn args R) : b__law_strewn (startE 4 args) (defK [true, false] R) := by
  obtain ⟨n, x, d, ds, rfl, hd, hx, hn, hl, hdep, hR⟩ := h
  have hz : (2 : Nat) ^ 20 < sizeLine := by decide
  obtain ⟨xd, rfl⟩ := hx.ex
  rcases hd with rfl | rfl
  all_goals
    simp only [b__law_strewn]
    simp only [fSeq, fIfS, fTst, fOp1, fOp2, fOpN, fVar, fFz, fMv, fC, fAsg, fAsgO, fSetIx, fRet, fRetN, fNext, fDrop, fMth, fAug, fUnp, fPar, fNil, fCons, fBreak, fAnd, fOr, fNot, fAndV, fOrV, fNotV, fIf, fNoPart, fPart, fSl, fStp, fYes, startE, getC, sh, ow, okb_v, okb_b, Res.d_v, Res.d_b, flat, noB, dsOf, at1, at2, onOwn, isOwn, mAppend, ioC, defK, oGt, oLt, oGe, oLe, oSub, oAdd, oMulA, oMul, oDiv, oMod, oPow, oIx, oEq, oNe, oIsN, oNotN, oIsB, oNotB, oIn, oNotIn, oLst, oTup, oLen, oList, oTuple, oAbs, oToInt, oMax2, oMin2, oMax, oMin, oAll, oAny, oSorted, oIsi, oNeg, oSl, oStp, dInt0, dInt, dAdd, dMulA, dIx, dEq, dIsB, dNotB, dLen, dList, dTuple, dAbs, dToInt, dNeg, dSl, dStp, dB, atInt, dI, pick, pickI, pickC, ix, toEnv, gN, gT, gsNil, gsCons, setRes, fCall, fCallK, mkArgs, distinct, ioIx, putIos, permD, fLc, fSeqI, fRange1, fRange2, fEnum, fZip, overSeq, overEnum, overZip, away, wipeE, back, forGo, fFor, List.length_cons, List.length_nil, List.getElem?_cons_zero, List.getElem?_cons_succ, List.getElem?_nil, List.set_cons_zero, List.set_cons_succ, List.set_nil, List.map_cons, List.map_nil, List.cons_append, List.nil_append, List.replicate, List.getD_cons_zero, List.getD_cons_succ, List.getD_nil, List.any_cons, List.any_nil, true_and, and_true, Bool.false_eq_true, if_true, if_false, ite_true, ite_false, Nat.le_refl, Bool.or_false, Bool.false_or, Bool.or_true, Bool.true_or, Bool.not_true, Bool.not_false, Bool.and_true, Bool.true_and, Bool.and_self, ixN, Option.some.injEq, exists_eq_left, exists_eq_left', Int.reduceToNat, Int.reduceLE, Int.reduceLT, Int.reduceNeg, Int.reduceAdd, Int.reduceSub, Nat.reduceAdd, Nat.reduceLeDiff, reduceIte, reduceCtorEq, decide_true, decide_false, Nat.reduceSub, Int.reducePow, Int.reduceMul, Int.natCast_add, Int.cast_ofNat_Int, Int.natCast_zero, List.contains_nil, List.contains_cons, Nat.reduceBEq, Nat.reduceEqDiff, refr, ap1_eq, ap2_eq, apN_eq, ovr_eq, ovr2_eq, unpk_t, unpk_l, oSlA, oStpA, apP_eq, apF_eq, apL_eq, isScr_map]
    refine ⟨Nat.zero_le _, ds.length + 1, ?_⟩
    refine strewn_go hn hl hdep (fun es x' hp hx' => ?_) ds.length ds [] _ rfl (by rw [List.append_nil]) hx
    obtain ⟨xd', rfl⟩ := hx'.ex
    simp only [fSeq, fIfS, fTst, fOp1, fOp2, fOpN, fVar, fFz, fMv, fC, fAsg, fAsgO, fSetIx, fRet, fRetN, fNext, fDrop, fMth, fAug, fUnp, fPar, fNil, fCons, fBreak, fAnd, fOr, fNot, fAndV, fOrV, fNotV, fIf, fNoPart, fPart, fSl, fStp, fYes, startE, getC, sh, ow, okb_v, okb_b, Res.d_v, Res.d_b, flat, noB, dsOf, at1, at2, onOwn, isOwn, mAppend, ioC, defK, oGt, oLt, oGe, oLe, oSub, oAdd, oMulA, oMul, oDiv, oMod, oPow, oIx, oEq, oNe, oIsN, oNotN, oIsB, oNotB, oIn, oNotIn, oLst, oTup, oLen, oList, oTuple, oAbs, oToInt, oMax2, oMin2, oMax, oMin, oAll, oAny, oSorted, oIsi, oNeg, oSl, oStp, dInt0, dInt, dAdd, dMulA, dIx, dEq, dIsB, dNotB, dLen, dList, dTuple, dAbs, dToInt, dNeg, dSl, dStp, dB, atInt, dI, pick, pickI, pickC, ix, toEnv, gN, gT, gsNil, gsCons, setRes, fCall, fCallK, mkArgs, distinct, ioIx, putIos, permD, fLc, fSeqI, fRange1, fRange2, fEnum, fZip, overSeq, overEnum, overZip, away, wipeE, back, forGo, fFor, List.length_cons, List.length_nil, List.getElem?_cons_zero, List.getElem?_cons_succ, List.getElem?_nil, List.set_cons_zero, List.set_cons_succ, List.set_nil, List.map_cons, List.map_nil, List.cons_append, List.nil_append, List.replicate, List.getD_cons_zero, List.getD_cons_succ, List.getD_nil, List.any_cons, List.any_nil, true_and, and_true, Bool.false_eq_true, if_true, if_false, ite_true, ite_false, Nat.le_refl, Bool.or_false, Bool.false_or, Bool.or_true, Bool.true_or, Bool.not_true, Bool.not_false, Bool.and_true, Bool.true_and, Bool.and_self, ixN, Option.some.injEq, exists_eq_left, exists_eq_left', Int.reduceToNat, Int.reduceLE, Int.reduceLT, Int.reduceNeg, Int.reduceAdd, Int.reduceSub, Nat.reduceAdd, Nat.reduceLeDiff, reduceIte, reduceCtorEq, decide_true, decide_false, Nat.reduceSub, Int.reducePow, Int.reduceMul, Int.natCast_add, Int.cast_ofNat_Int, Int.natCast_zero, List.contains_nil, List.contains_cons, Nat.reduceBEq, Nat.reduceEqDiff, refr, ap1_eq, ap2_eq, apN_eq, ovr_eq, ovr2_eq, unpk_t, unpk_l, oSlA, oStpA, apP_eq, apF_eq, apL_eq, isScr_map]
    exact hR _ _ hp hx'
-- CALLS
-- CALL call__law_strewn ddhh | es x' hes hx'
-- CALL call__law_strewnM ddhhh | es x' hes hx'
theorem call__law_strewn {xs : List Int} {m : Nat} {x : Cell} {d : D} {R : Cell → List Cell → Prop} (hd : Ints d xs) (hx : Bk m x) (h1 : Hold (xs.length ≤ m)) (h2 : Hold (xs.length ≤ 2 ^ 20)) (q : ∀ es x', List.Perm es xs → Bk (m - xs.length) (ow x') → R ⟨1, .list (es.map .int)⟩ [ow x']) : ph__law_strewn [x, ⟨0, d⟩] R := by
  obtain ⟨n, a, b⟩ := hx.get
  have h1' := h1.out
  have hl : (xs.map PyData.int).length = xs.length := List.length_map _
  exact ⟨n, x, d, _, rfl, hd, a, by omega, by rw [hl]; exact h2.out, fun e he => (by obtain ⟨i, _, rfl⟩ := List.mem_map.mp he; rfl), fun es x' p a3 => by
    obtain ⟨d, rfl⟩ := a3.ex
    obtain ⟨us, p', rfl⟩ := perm_map p
    exact q us d p' (.of a3 (by omega))⟩
theorem call__law_strewnM {α : Type} {inj : α → D} {xs : List α} {m : Nat} {x : Cell} {d : D} {R : Cell → List Cell → Prop} (hd : Sq d (xs.map inj)) (hx : Bk m x) (h1 : Hold (xs.length ≤ m)) (h2 : Hold (xs.length ≤ 2 ^ 20)) (h3 : Hold (∀ x ∈ xs, dep 60 (inj x) = true)) (q : ∀ es x', List.Perm es xs → Bk (m - xs.length) (ow x') → R ⟨1, .list (es.map inj)⟩ [ow x']) : ph__law_strewn [x, ⟨0, d⟩] R := by
  obtain ⟨n, a, b⟩ := hx.get
  have h1' := h1.out
  have hl : (xs.map inj).length = xs.length := List.length_map _
  exact ⟨n, x, d, _, rfl, hd, a, by omega, by rw [hl]; exact h2.out, fun e he => (by obtain ⟨i, hi, rfl⟩ := List.mem_map.mp he; exact h3.out i hi), fun es x' p a3 => by
    obtain ⟨d, rfl⟩ := a3.ex
    obtain ⟨us, p', rfl⟩ := perm_map p
    exact q us d p' (.of a3 (by omega))⟩

def b__law_wire : FS := (fSeq (fPar [2, 3] [false, false] (fCons (fOp2 oAdd (fC (.int 1)) (fCall [true, false] ph__law_take (fCons (fVar 0) (fCons (fVar 1) fNil)))) (fCons (fCall [true, false] ph__law_of (fCons (fVar 0) (fCons (fOpN oLst (fCons (fC (.int 1)) (fCons (fC (.int 1)) (fCons (fC (.int 2)) (fCons (fC (.int 1000)) fNil))))) fNil))) fNil))) (fSeq (fAsg 4 (fCall [true, false] ph__law_of (fCons (fVar 0) (fCons (fOpN oLst (fCons (fC (.int 1)) (fCons (fC (.int 1)) (fCons (fOp2 oAdd (fC (.int 1)) (fCall [true, false] ph__law_take (fCons (fVar 0) (fCons (fC (.int 50)) fNil)))) (fCons (fOp2 oSub (fOp2 oPow (fC (.int 10)) (fC (.int 12))) (fC (.int 25000))) fNil))))) fNil)))) (fSeq (fAsg 5 (fLc [7] (fRange1 (fCons (fVar 2) fNil)) (gN 7) fYes (fOp2 oAdd (fOp2 oAdd (fVar 4) (fOp2 oMulA (fVar 3) (fVar 7))) (fCall [true, false] ph__law_take (fCons (fVar 0) (fCons (fVar 3) fNil)))))) (fSeq (fAsg 6 (fCall [true, false] ph__law_take (fCons (fVar 0) (fCons (fC (.int 6)) fNil)))) (fRet (fOpN (at1 oTuple) (fCons (fIf (fTst (fOp2 oLt (fVar 6) (fC (.int 2)))) (fOp2 oIx (fOpN oLst (fCons (fVar 5) (fCons (fStp (fVar 5) (fPart (fOp1 oNeg (fC (.int 1))))) fNil))) (fVar 6)) (fCall [true, false] ph__law_strewn (fCons (fVar 0) (fCons (fVar 5) fNil)))) fNil)))))))

-- VP
def low13 (ws : List Int) : Prop := ∀ w ∈ ws, w < 10 ^ 13 - 1
def ph__law_wire : Phi := fun args R => ∃ (n : Nat) (x : Cell) (m : Int), args = [x, sh (.int m)] ∧ Bx n x ∧ n + 300 < 2 ^ 60 ∧ 1 ≤ m ∧ m ≤ 100 ∧ ∀ ws x', wireOk m ws → lowW ws → low13 ws → Bx (n + 300) x' → R (sh (.tuple (ws.map .int))) [x']
theorem vc__law_wire (args R) (h : ph__law_wire args R) : b__law_wire (startE 8 args) (defK [true, false] R) := by
  obtain ⟨n, x, m, rfl, hx, hn, hm, hm2, hR⟩ := h
  have hz : (2 : Nat) ^ 20 < sizeLine := by decide
  obtain ⟨xd, rfl⟩ := hx.ex
  (row_room_at pv_ev; row_room_at pv_cl)
  refine ⟨n, hx, by omega, by omega, by omega, fun t x1 t0 t1 hx1 => ?_⟩
  obtain ⟨xd1, rfl⟩ := hx1.ex
  (row_room_at pv_ev; row_room_at pv_cl)
  refine ⟨n + 1, _, _, _, rfl, .inl rfl, hx1, by omega, by decide, by decide, fun e x2 he hx2 => ?_⟩
  obtain ⟨xd2, rfl⟩ := hx2.ex
  obtain ⟨gap, hg, rfl⟩ := List.mem_map.mp (show e ∈ ([1, 1, 2, 1000] : List Int).map PyData.int from he)
  have hg0 : 1 ≤ gap ∧ gap ≤ 1000 := by simp at hg; omega
  (row_room_at pv_ev; row_room_at pv_cl)
  refine ⟨n + 1 + 1, hx2, by omega, by decide, by decide, fun u x3 u0 u1 hx3 => ?_⟩
  obtain ⟨xd3, rfl⟩ := hx3.ex
  (row_room_at pv_ev; row_room_at pv_cl)
  refine ⟨⟨by decide, by decide, by decide⟩, ?_⟩
  (row_room_at pv_ev; row_room_at pv_cl)
  refine ⟨n + 1 + 1 + 1, _, _, _, rfl, .inl rfl, hx3, by omega, by show 0 < 4; decide, by show 4 < 2 ^ 62; decide, fun e x4 he hx4 => ?_⟩
  obtain ⟨xd4, rfl⟩ := hx4.ex
  obtain ⟨base, hb, rfl⟩ := List.mem_map.mp (show e ∈ ([1, 1, 1 + u, (10 : Int) ^ (12 : Nat) - 25000] : List Int).map PyData.int from he)
  have hb0 : 1 ≤ base ∧ base ≤ 10 ^ 12 := by simp at hb; omega
  (row_room_at pv_ev; row_room_at pv_cl)
  refine ⟨⟨by omega, by omega⟩, ?_⟩
  (row_room_at pv_ev; row_room_at pv_cl)
  rw [rng_eq]
  refine lc_inv (fun i : Nat => PyData.int (0 + (i : Int))) (fun (xs : List Nat) acc e => ∃ (i k : Nat) (vs : List Int) (y : Cell), xs = List.range' i k ∧ i + k = (1 + t - 0).toNat ∧ acc = vs.map .int ∧ vs.length = i ∧ vs.Pairwise (· < ·) ∧ (∀ v ∈ vs, base ≤ v ∧ v < base + gap * i) ∧ Bx (n + 4 + i) y ∧
    e = [some y, some (sh (.int m)), some (sh (.int (1 + t))), some (sh (.int gap)), some (sh (.int base)), none, none, none]) ?_ (fun i xs acc e N hI hN => ?_) (fun acc e hI => ?_) _ _ _
    ⟨0, _, [], _, rfl, by omega, rfl, rfl, List.Pairwise.nil, by simp, hx4, rfl⟩
  · exact fun _ _ _ _ => trivial
  · obtain ⟨j, k, vs, y, ex, hjk, rfl, hvl, hp, hb, hy, rfl⟩ := hI
    match k, ex with
    | k + 1, ex =>
      rw [List.range'_succ] at ex
      obtain ⟨rfl, rfl⟩ := List.cons.inj ex
      obtain ⟨yd, rfl⟩ := hy.ex
      (row_room_at pv_ev; row_room_at pv_cl)
      refine ⟨cml (by omega) (by omega), ?_⟩
      (row_room_at pv_ev; row_room_at pv_cl)
      refine ⟨n + 4 + i, hy, by omega, by omega, by omega, fun q y' q0 q1 hy' => ?_⟩
      obtain ⟨yd', rfl⟩ := hy'.ex
      (row_room_at pv_ev; row_room_at pv_cl)
      have e1 : gap * (((i + 1 : Nat)) : Int) = gap * i + gap := by
        rw [Int.natCast_add, Int.mul_add]; simp
      refine ⟨by show (vs.map PyData.int).length < sizeLine; rw [List.length_map]; omega, hN _ _ ⟨i + 1, k, vs ++ [base + gap * (0 + (i : Int)) + q], _, rfl, by omega, by rw [List.map_append]; rfl, by rw [List.length_append, hvl]; rfl, ?_, ?_, hy', rfl⟩⟩
      · rw [List.pairwise_append]
        refine ⟨hp, List.pairwise_singleton _ _, fun a ha b hb' => ?_⟩
        have := hb a ha
        rw [List.mem_singleton.mp hb', Int.zero_add]
        omega
      · intro v hv
        rw [Int.zero_add] at hv
        have hgi : 0 ≤ gap * (i : Int) := Int.mul_nonneg (by omega) (by omega)
        rcases List.mem_append.mp hv with h | h
        · have := hb v h
          rw [e1]; omega
        · rw [List.mem_singleton.mp h, e1]; omega
  · obtain ⟨j, k, vs, y, ex, hjk, rfl, hvl, hp, hb, hy, rfl⟩ := hI
    match k, ex with
    | 0, _ =>
      obtain ⟨yd, rfl⟩ := hy.ex
      have hj : j ≤ 100 := by omega
      have ok : wireOk m vs := ⟨by omega, by omega, nodup_lt hp, fun w hw => by
        have h1 := hb w hw
        have h2 : gap * (j : Int) ≤ 1000 * 100 := by
          have a1 : gap * (j : Int) ≤ 1000 * j := Int.mul_le_mul_of_nonneg_right hg0.2 (by omega)
          omega
        omega⟩
      have low : lowW vs := fun w hw => by
        have h1 := hb w hw
        have h2 : gap * (j : Int) ≤ 1000 * 100 := by
          have a1 : gap * (j : Int) ≤ 1000 * j := Int.mul_le_mul_of_nonneg_right hg0.2 (by omega)
          omega
        omega
      have lo3 : low13 vs := fun w hw => by
        have h1 := hb w hw
        have h2 : gap * (j : Int) ≤ 1000 * 100 := by
          have a1 : gap * (j : Int) ≤ 1000 * j := Int.mul_le_mul_of_nonneg_right hg0.2 (by omega)
          omega
        omega
      (row_room_at pv_ev; row_room_at pv_cl)
      refine ⟨n + 4 + j, hy, by omega, by decide, by decide, fun q y' q0 q1 hy' => ?_⟩
      obtain ⟨yd', rfl⟩ := hy'.ex
      (row_room_at pv_ev; row_room_at pv_cl)
      split
      · rename_i hq
        have hq : q < 2 := of_decide_eq_true hq
        have hq' : q = 0 ∨ q = 1 := by omega
        rcases hq' with rfl | rfl
        · (row_room_at pv_ev; row_room_at pv_cl)
          first | refine ⟨⟨trivial, .inr rfl⟩, ?_⟩ | refine ⟨⟨trivial, .inr trivial⟩, ?_⟩
          (row_room_at pv_ev; row_room_at pv_cl)
          exact hR vs _ ok low lo3 (hy'.mono (by omega))
        · (row_room_at pv_ev; row_room_at pv_cl)
          first | refine ⟨⟨trivial, .inr rfl⟩, ?_⟩ | refine ⟨⟨trivial, .inr trivial⟩, ?_⟩
          (row_room_at pv_ev; row_room_at pv_cl)
          have := hR vs.reverse _ (ok.of (List.reverse_perm _)) (fun w hw => low w (List.mem_reverse.mp hw)) (fun w hw => lo3 w (List.mem_reverse.mp hw)) (hy'.mono (by omega))
          rw [List.map_reverse] at this
          exact this
      · (row_room_at pv_ev; row_room_at pv_cl)
        refine ⟨n + 4 + j + 1, _, _, _, rfl, .inl rfl, hy', by rw [List.length_map]; omega, by rw [List.length_map]; omega, fun e he => ?_, fun es z hp' hz' => ?_⟩
        · obtain ⟨w, _, rfl⟩ := List.mem_map.mp he
          rfl
        · obtain ⟨zd, rfl⟩ := hz'.ex
          obtain ⟨us, hu, rfl⟩ := perm_map hp'
          rw [List.length_map] at hz'
          (row_room_at pv_ev; row_room_at pv_cl)
          exact hR us _ (ok.of hu) (fun w hw => low w (hu.mem_iff.mp hw)) (fun w hw => lo3 w (hu.mem_iff.mp hw)) (hz'.mono (by omega))
-- CALLS
-- CALL call__law_wire dhhh | ws x' hw hw1 hw2 hw3 hw4 hx'
theorem call__law_wire {m : Nat} {x : Cell} {s : Int} {R : Cell → List Cell → Prop} (hx : Bk m x) (h1 : Hold (300 ≤ m)) (h2 : Hold (1 ≤ s)) (h3 : Hold (s ≤ 100)) (q : ∀ ws x', wireOk s ws → 0 < ws.length → (ws.length : Int) ≤ s → lowW ws → low13 ws → Bk (m - 300) (ow x') → R (sh (.tuple (ws.map .int))) [ow x']) : ph__law_wire [x, sh (.int s)] R := by
  obtain ⟨n, a, b⟩ := hx.get
  have h1' := h1.out
  exact ⟨n, x, s, rfl, a, by omega, h2.out, h3.out, fun ws x' a1 a2 a4 a3 => by
    obtain ⟨d, rfl⟩ := a3.ex
    exact q ws d a1 a1.1 a1.2.1 a2 a4 (.of a3 (by omega))⟩

def b__law_power : FS := (fSeq (fAsg 2 (fCall [true, false] ph__law_of (fCons (fVar 0) (fCons (fOpN (at1 oList) (fCons (fVar 1) fNil)) fNil)))) (fRet (fCall [true, false] ph__law_of (fCons (fVar 0) (fCons (fOpN oLst (fCons (fVar 2) (fCons (fVar 2) (fCons (fOpN (at2 oMin2) (fCons (fOp2 oAdd (fVar 2) (fC (.int 1))) (fCons (fOp2 oPow (fC (.int 10)) (fC (.int 12))) fNil))) (fCons (fOpN (at2 oMin2) (fCons (fOp2 oAdd (fOpN (at1 oMax) (fCons (fVar 1) fNil)) (fC (.int 1))) (fCons (fOp2 oPow (fC (.int 10)) (fC (.int 12))) fNil))) (fCons (fC (.int 1)) (fCons (fOpN (at2 oMax2) (fCons (fC (.int 1)) (fCons (fOp2 oSub (fVar 2) (fC (.int 1))) fNil))) fNil))))))) fNil)))))

def ph__law_power : Phi := fun args R => ∃ (n : Nat) (x : Cell) (d : D) (ws : List Int), args = [x, sh d] ∧ Bx n x ∧ n + 10 < 2 ^ 60 ∧ Ints d ws ∧ wireOkP 100 ws ∧ (∀ w ∈ ws, w < 10 ^ 13) ∧ ∀ s x', 1 ≤ s → s < 10 ^ 13 → Bx (n + 10) x' → R (sh (.int s)) [x']
theorem vc__law_power (args R) (h : ph__law_power args R) : b__law_power (startE 3 args) (defK [true, false] R) := by
  obtain ⟨n, x, d, ws, rfl, hx, hn, hd, hw, hlow, hR⟩ := h
  obtain ⟨xd, rfl⟩ := hx.ex
  obtain ⟨w1, w2, w3, w4⟩ := hw
  rcases hd with rfl | rfl
  all_goals
    (row_room_at pv_ev; row_room_at pv_cl)
    first | refine ⟨trivial, ?_⟩ | skip
    (row_room_at pv_ev; row_room_at pv_cl)
    refine ⟨n, _, _, ws.map .int, rfl, .inl rfl, hx, by omega, by rw [List.length_map]; exact w1, by rw [List.length_map]; omega, fun e x1 he hx1 => ?_⟩
    obtain ⟨xd1, rfl⟩ := hx1.ex
    obtain ⟨v, hv, rfl⟩ := List.mem_map.mp he
    have hv0 := w4 v hv
    have hv1 := hlow v hv
    (row_room_at pv_ev; row_room_at pv_cl)
    refine ⟨⟨by decide, by decide, by decide⟩, ?_⟩
    (row_room_at pv_ev; row_room_at pv_cl)
    first | refine ⟨trivial, ?_⟩ | skip
    refine ⟨ws, rfl, w1, fun m hm _ => ?_⟩
    have hm0 := w4 m hm
    have hm1 := hlow m hm
    (row_room_at pv_ev; row_room_at pv_cl)
    refine ⟨⟨by decide, by decide, by decide⟩, ?_⟩
    (row_room_at pv_ev; row_room_at pv_cl)
    refine ⟨n + 1, _, _, _, rfl, .inl rfl, hx1, by omega, by show 0 < 6; decide, by show 6 < 2 ^ 62; decide, fun e x2 he hx2 => ?_⟩
    obtain ⟨xd2, rfl⟩ := hx2.ex
    obtain ⟨s, hs, rfl⟩ := List.mem_map.mp (show e ∈ ([v, v, min (v + 1) ((10 : Int) ^ (12 : Nat)), min (m + 1) ((10 : Int) ^ (12 : Nat)), 1, max 1 (v - 1)] : List Int).map PyData.int from he)
    (row_room_at pv_ev; row_room_at pv_cl)
    refine hR _ _ ?_ ?_ (hx2.mono (by omega))
    · simp only [List.mem_cons, List.not_mem_nil, or_false] at hs
      omega
    · simp only [List.mem_cons, List.not_mem_nil, or_false] at hs
      omega
-- CALLS
-- CALL call__law_power ddhdhd | s x' hs hs2 hx'
theorem call__law_power {k : Int} {ws : List Int} {m : Nat} {x : Cell} {d : D} {R : Cell → List Cell → Prop} (hd : Ints d ws) (hx : Bk m x) (h1 : Hold (10 ≤ m)) (hw : wireOk k ws) (h3 : Hold (k ≤ 100)) (hlow : ∀ w ∈ ws, w < 10 ^ 13 - 1) (q : ∀ s x', 1 ≤ s → s < 10 ^ 13 → Bk (m - 10) (ow x') → R (sh (.int s)) [ow x']) : ph__law_power [x, sh d] R := by
  obtain ⟨n, a, b⟩ := hx.get
  have h1' := h1.out
  exact ⟨n, x, d, ws, rfl, a, by omega, hd, ⟨hw.p.1, Int.le_trans hw.p.2.1 h3.out, hw.p.2.2⟩, fun w hm => by have := hlow w hm; omega, fun s x' a1 a2 a3 => by
    obtain ⟨d, rfl⟩ := a3.ex
    exact q s d a1 a2 (.of a3 (by omega))⟩

def b__law_any : FS := (fSeq (fAsg 3 (fCall [true, false] ph__law_of (fCons (fVar 0) (fCons (fOpN oLst (fCons (fC (.int 1)) (fCons (fC (.int 2)) (fCons (fC (.int 2)) (fCons (fC (.int 3)) (fCons (fC (.int 4)) fNil)))))) fNil)))) (fSeq (fAsg 4 (fOpN (at1 oTuple) (fCons (fLc [7] (fRange1 (fCons (fOpN (at1 oLen) (fCons (fVar 1) fNil)) fNil)) (gN 7) (fTst (fOp2 oEq (fCall [true, false] ph__law_take (fCons (fVar 0) (fCons (fVar 3) fNil))) (fC (.int 0)))) (fVar 7)) fNil))) (fSeq (fAsg 5 (fLc [6] (fRange1 (fCons (fC (.int 2)) fNil)) (gN 6) fYes (fCall [true, false] ph__law_of (fCons (fVar 0) (fCons (fOpN oLst (fCons (fC (.int 0)) (fCons (fC (.int 0)) (fCons (fCall [true, false] ph__law_take (fCons (fVar 0) (fCons (fOp2 oAdd (fVar 2) (fC (.int 1))) fNil))) fNil)))) fNil))))) (fRet (fOpN oTup (fCons (fOp2 oIx (fVar 5) (fC (.int 0))) (fCons (fVar 4) (fCons (fOp2 oIx (fVar 5) (fC (.int 1))) fNil))))))))

def ph__law_any : Phi := fun args R => ∃ (n : Nat) (x : Cell) (d : D) (ws : List Int) (m : Int), args = [x, sh d, sh (.int m)] ∧ Bx n x ∧ n + 300 < 2 ^ 60 ∧ Ints d ws ∧ ws.length ≤ 100 ∧ 0 ≤ m ∧ m ≤ 10000 ∧
  ∀ l lot r x', 0 ≤ l → l ≤ m → 0 ≤ r → r ≤ m → lot.Pairwise (· < ·) → lot.length ≤ ws.length → (∀ p ∈ lot, 0 ≤ p ∧ p < (ws.length : Int)) → Bx (n + 300) x' → R (sh (std l lot r)) [x']
theorem any_lot {n : Nat} {d : D} {m odds : Int} {c : Int} {xd : D} (ho : 1 ≤ odds ∧ odds ≤ 4) (hc : 0 ≤ c ∧ c ≤ 100) (hn : n + 300 < 2 ^ 60) (hx : Bx (n + 1) ⟨1, xd⟩) {r : Res} {R : List D → Pv.Env → Prop} (hr : ∀ e, okb e r)
    (fin : ∀ (lot : List Int) y, lot.Pairwise (· < ·) → (∀ p ∈ lot, 0 ≤ p ∧ p < c) → lot.length ≤ c.toNat → Bx (n + 1 + c.toNat) y → R (lot.map .int) [some y, some (sh d), some (sh (.int m)), some (sh (.int odds)), none, none, none, none]) :
    lcGo [7] (gN 7) (fTst (fOp2 oEq (fCall [true, false] ph__law_take (fCons (fVar 0) (fCons (fVar 3) fNil))) (fC (.int 0)))) (fVar 7) r R (rngD 0 c) [] [some ⟨1, xd⟩, some (sh d), some (sh (.int m)), some (sh (.int odds)), none, none, none, none] := by
  have hz : (2 : Nat) ^ 20 < sizeLine := by decide
  rw [rng_eq]
  refine lc_inv (fun i : Nat => PyData.int (0 + (i : Int))) (fun (xs : List Nat) acc e => ∃ (i k : Nat) (vs : List Int) (y : Cell), xs = List.range' i k ∧ i + k = c.toNat ∧ acc = vs.map .int ∧ vs.length ≤ i ∧ vs.Pairwise (· < ·) ∧ (∀ v ∈ vs, 0 ≤ v ∧ v < i) ∧ Bx (n + 1 + i) y ∧
    e = [some y, some (sh d), some (sh (.int m)), some (sh (.int odds)), none, none, none, none]) ?_ (fun i xs acc e N hI hN => ?_) (fun acc e hI => ?_) _ _ _
    ⟨0, _, [], _, rfl, by omega, rfl, Nat.le_refl _, List.Pairwise.nil, by simp, hx, rfl⟩
  · exact fun _ _ e _ => hr e
  · obtain ⟨j, k, vs, y, ex, hjk, rfl, hvl, hp, hb, hy, rfl⟩ := hI
    match k, ex with
    | k + 1, ex =>
      rw [List.range'_succ] at ex
      obtain ⟨rfl, rfl⟩ := List.cons.inj ex
      obtain ⟨yd, rfl⟩ := hy.ex
      (row_room_at pv_ev; row_room_at pv_cl)
      refine ⟨n + 1 + i, hy, by omega, by omega, by omega, fun q y' q0 q1 hy' => ?_⟩
      obtain ⟨yd', rfl⟩ := hy'.ex
      (row_room_at pv_ev; row_room_at pv_cl)
      split
      · (row_room_at pv_ev; row_room_at pv_cl)
        refine ⟨by show (vs.map PyData.int).length < sizeLine; rw [List.length_map]; omega, hN _ _ ⟨i + 1, k, vs ++ [0 + (i : Int)], _, rfl, by omega, by rw [List.map_append]; rfl, by rw [List.length_append, List.length_singleton]; omega, ?_, ?_, hy', rfl⟩⟩
        · rw [List.pairwise_append]
          refine ⟨hp, List.pairwise_singleton _ _, fun a ha b hb' => ?_⟩
          have := hb a ha
          rw [List.mem_singleton.mp hb', Int.zero_add]
          omega
        · intro v hv
          rcases List.mem_append.mp hv with h | h
          · have := hb v h
            omega
          · rw [List.mem_singleton.mp h]; omega
      · refine hN _ _ ⟨i + 1, k, vs, _, rfl, by omega, rfl, by omega, hp, fun v hv => ?_, hy', rfl⟩
        have := hb v hv
        omega
  · obtain ⟨j, k, vs, y, ex, hjk, rfl, hvl, hp, hb, hy, rfl⟩ := hI
    match k, ex with
    | 0, _ =>
      refine fin vs y hp (fun p hp => ?_) (by omega) (by rw [show c.toNat = j by omega]; exact hy)
      have := hb p hp
      omega
theorem vc__law_any (args R) (h : ph__law_any args R) : b__law_any (startE 8 args) (defK [true, false, false] R) := by
  obtain ⟨n, x, d, ws, m, rfl, hx, hn, hd, hw, hm, hm2, hR⟩ := h
  obtain ⟨xd, rfl⟩ := hx.ex
  have hwl : (ws.map PyData.int).length = ws.length := List.length_map _
  rcases hd with rfl | rfl
  all_goals
    (row_room_at pv_ev; row_room_at pv_cl)
    refine ⟨n, _, _, _, rfl, .inl rfl, hx, by omega, by show 0 < 5; decide, by show 5 < 2 ^ 62; decide, fun e x1 he hx1 => ?_⟩
    obtain ⟨xd1, rfl⟩ := hx1.ex
    obtain ⟨odds, ho, rfl⟩ := List.mem_map.mp (show e ∈ ([1, 2, 2, 3, 4] : List Int).map PyData.int from he)
    have ho0 : 1 ≤ odds ∧ odds ≤ 4 := by simp at ho; omega
    (row_room_at pv_ev; row_room_at pv_cl)
    refine ⟨by rw [hwl]; omega, ?_⟩
    (row_room_at pv_ev; row_room_at pv_cl)
    refine any_lot (n := n) ho0 (by rw [hwl]; omega) hn hx1 (fun _ => trivial) (fun lot y hp hb hl hy => ?_)
    rw [hwl] at hb hl hy
    obtain ⟨yd, rfl⟩ := hy.ex
    (row_room_at pv_ev; row_room_at pv_cl)
    first | refine ⟨trivial, ?_⟩ | skip
    (row_room_at pv_ev; row_room_at pv_cl)
    refine ⟨by decide, ?_⟩
    (row_room_at pv_ev; row_room_at pv_cl)
    refine ⟨n + 1 + ws.length, hy, by omega, by omega, by omega, fun t x2 t0 t1 hx2 => ?_⟩
    obtain ⟨xd2, rfl⟩ := hx2.ex
    (row_room_at pv_ev; row_room_at pv_cl)
    refine ⟨n + 1 + ws.length + 1, _, _, _, rfl, .inl rfl, hx2, by omega, by show 0 < 3; decide, by show 3 < 2 ^ 62; decide, fun e x3 he hx3 => ?_⟩
    obtain ⟨xd3, rfl⟩ := hx3.ex
    obtain ⟨l, hl', rfl⟩ := List.mem_map.mp (show e ∈ ([0, 0, t] : List Int).map PyData.int from he)
    have hl0 : 0 ≤ l ∧ l ≤ m := by simp at hl'; omega
    (row_room_at pv_ev; row_room_at pv_cl)
    refine ⟨by show 0 < sizeLine; decide, ?_⟩
    (row_room_at pv_ev; row_room_at pv_cl)
    refine ⟨n + 1 + ws.length + 1 + 1, hx3, by omega, by omega, by omega, fun t x4 t0 t1 hx4 => ?_⟩
    obtain ⟨xd4, rfl⟩ := hx4.ex
    (row_room_at pv_ev; row_room_at pv_cl)
    refine ⟨n + 1 + ws.length + 1 + 1 + 1, _, _, _, rfl, .inl rfl, hx4, by omega, by show 0 < 3; decide, by show 3 < 2 ^ 62; decide, fun e x5 he hx5 => ?_⟩
    obtain ⟨xd5, rfl⟩ := hx5.ex
    obtain ⟨r, hr', rfl⟩ := List.mem_map.mp (show e ∈ ([0, 0, t] : List Int).map PyData.int from he)
    have hr0 : 0 ≤ r ∧ r ≤ m := by simp at hr'; omega
    (row_room_at pv_ev; row_room_at pv_cl)
    refine ⟨by show 1 < sizeLine; decide, ?_⟩
    (row_room_at pv_ev; row_room_at pv_cl)
    exact hR l lot r _ hl0.1 hl0.2 hr0.1 hr0.2 hp (by omega) hb (hx5.mono (by omega))
-- CALLS
-- CALL call__law_any ddhhhh | y x' hy hy1 hy2 hx'
theorem call__law_any {ws : List Int} {m : Nat} {x : Cell} {d : D} {k : Int} {R : Cell → List Cell → Prop} (hd : Ints d ws) (hx : Bk m x) (h1 : Hold (300 ≤ m)) (h2 : Hold (ws.length ≤ 100)) (h3 : Hold (0 ≤ k)) (h4 : Hold (k ≤ 10000)) (q : ∀ (y : Tr) x', okS ws.length y → y.1 ≤ k → y.2.2 ≤ k → Bk (m - 300) (ow x') → R (sh (dS y)) [ow x']) : ph__law_any [x, sh d, sh (.int k)] R := by
  obtain ⟨n, a, b⟩ := hx.get
  have h1' := h1.out
  exact ⟨n, x, d, ws, k, rfl, a, by omega, hd, h2.out, h3.out, h4.out, fun l lot r x' a1 a2 a3 a4 a5 a6 a7 a8 => by
    obtain ⟨d, rfl⟩ := a8.ex
    exact q (l, lot, r) d ⟨a1, a3, a5, a7⟩ a2 a4 (.of a8 (by omega))⟩

local macro_rules | `(tactic| row_room_at pv_call__law_take) => `(tactic| (refine apP_op (call__law_take (by row_room_at pv_sd) ?_ ?_ ?_ (fun t x' ht0 ht1 hx' => ?_)); (first | (focus row_room_at pv_hs) | rotate_left); (first | (focus row_room_at pv_hs) | rotate_left); (first | (focus row_room_at pv_hs) | rotate_left)))
local macro_rules | `(tactic| row_room_at pv_call__law_ofS) => `(tactic| (refine apP_op (call__law_ofS rfl (by row_room_at pv_sd) ?_ (fun b x' hx' => ?_)); (first | (focus row_room_at pv_hs) | rotate_left)))
local macro_rules | `(tactic| row_room_at pv_call__law_of) => `(tactic| (refine apP_op (call__law_of (by row_room_at pv_sd) (by row_room_at pv_sd) ?_ ?_ ?_ (fun i x' hi hx' => ?_)); (first | (focus row_room_at pv_hs) | rotate_left); (first | (focus row_room_at pv_hs) | rotate_left); (first | (focus row_room_at pv_hs) | rotate_left)))
local macro_rules | `(tactic| row_room_at pv_call__law_ofM) => `(tactic| (refine apP_op (call__law_ofM (by row_room_at pv_sd) (by row_room_at pv_sd) ?_ ?_ ?_ (fun y x' hy hx' => ?_)); (first | (focus row_room_at pv_hs) | rotate_left); (first | (focus row_room_at pv_hs) | rotate_left); (first | (focus row_room_at pv_hs) | rotate_left)))
local macro_rules | `(tactic| row_room_at pv_st__law_bent) => `(tactic| ((try ((with_reducible show toEnv _ _); (first | refine toEnv_go rfl ?_ | refine toEnv_gT rfl rfl ?_); row_room_at pv_cl)); (try (conv => whnf)); first | ((with_reducible show _ ∧ _); row_room_at pv_and) | ((with_reducible show ap2 _ _ _ _); row_room_at pv_op2) | ((with_reducible show apN _ _ _); row_room_at pv_opN) | ((with_reducible show ap1 _ _ _); row_room_at pv_op1) | ((with_reducible show ovr _ _); row_room_at pv_ov) | ((with_reducible show ovr2 _ _ _); row_room_at pv_ov2) | ((with_reducible show apP _ _ _); row_room_at pv_cl; first | row_room_at pv_call__law_take | row_room_at pv_call__law_ofS | row_room_at pv_call__law_of | row_room_at pv_call__law_ofM) | ((with_reducible show apP _ _ _); row_room_at pv_cl; (first | (rw [sd_l]; first | row_room_at pv_call__law_take | row_room_at pv_call__law_ofS | row_room_at pv_call__law_of | row_room_at pv_call__law_ofM) | (rw [sd_r]; first | row_room_at pv_call__law_take | row_room_at pv_call__law_ofS | row_room_at pv_call__law_of | row_room_at pv_call__law_ofM))) | row_room_at pv_late))
local macro_rules | `(tactic| row_room_at pv_go__law_bent) => `(tactic| (repeat' row_room_at pv_st__law_bent))
local macro_rules | `(tactic| row_room_at pv_gox__law_bent) => `(tactic| (repeat' ((try ((with_reducible show toEnv _ _); (first | refine toEnv_go rfl ?_ | refine toEnv_gT rfl rfl ?_); row_room_at pv_cl)); (try (conv => whnf)); first | ((with_reducible show _ ∧ _); row_room_at pv_and) | ((with_reducible show ap2 _ _ _ _); row_room_at pv_op2) | ((with_reducible show apN _ _ _); row_room_at pv_opN) | ((with_reducible show ap1 _ _ _); row_room_at pv_op1) | ((with_reducible show ovr _ _); row_room_at pv_ov) | ((with_reducible show ovr2 _ _ _); row_room_at pv_ov2) | ((with_reducible show apP _ _ _); row_room_at pv_cl; first | row_room_at pv_call__law_take | row_room_at pv_call__law_ofS | row_room_at pv_call__law_of | row_room_at pv_call__law_ofM) | ((with_reducible show apP _ _ _); row_room_at pv_cl; (first | (rw [sd_l]; first | row_room_at pv_call__law_take | row_room_at pv_call__law_ofS | row_room_at pv_call__law_of | row_room_at pv_call__law_ofM) | (rw [sd_r]; first | row_room_at pv_call__law_take | row_room_at pv_call__law_ofS | row_room_at pv_call__law_of | row_room_at pv_call__law_ofM))) | row_room_at pv_latex)))
local macro_rules | `(tactic| row_room_at pv_gou__law_bent) => `(tactic| (repeat' (first | (with_reducible refine apF_op ?_) | (with_reducible refine apL_op ?_) | row_room_at pv_st__law_bent)))

def b__law_bent (φ : Phi) : FS := (fSeq (fAsg 2 (fCall [true, false] ph__law_take (fCons (fVar 0) (fCons (fC (.int 6)) fNil)))) (fSeq (fIfS (fAnd (fTst (fOp1 (oIsi ["tuple", "list"]) (fVar 1))) (fAnd (fTst (fOp2 oGt (fOpN (at1 oLen) (fCons (fVar 1) fNil)) (fC (.int 0)))) (fTst (fOp2 oGt (fVar 2) (fC (.int 1)))))) (fSeq (fPar [3, 4] [false, true] (fCons (fCall [true, false] ph__law_take (fCons (fVar 0) (fCons (fOpN (at1 oLen) (fCons (fVar 1) fNil)) fNil))) (fCons (fOpN (at1 oList) (fCons (fVar 1) fNil)) fNil))) (fSeq (fIfS (fTst (fOp2 oEq (fVar 2) (fC (.int 2)))) (fDrop (fMth 4 mPopAt (fCons (fVar 3) fNil))) (fIfS (fTst (fOp2 oEq (fVar 2) (fC (.int 3)))) (fDrop (fMth 4 mInsert (fCons (fVar 3) (fCons (fOp2 oIx (fVar 4) (fVar 3)) fNil)))) (fSetIx 4 (fCall [true, false] φ (fCons (fVar 0) (fCons (fOp2 oIx (fVar 4) (fVar 3)) fNil))) (fVar 3)))) (fRet (fIf (fTst (fOp1 (oIsi ["tuple"]) (fVar 1))) (fOpN (at1 oTuple) (fCons (fVar 4) fNil)) (fMv 4))))) fNext) (fSeq (fIfS (fAnd (fTst (fOp2 oEq (fVar 2) (fC (.int 0)))) (fTst (fOp1 (oIsi ["tuple"]) (fVar 1)))) (fRet (fOpN (at1 oList) (fCons (fVar 1) fNil))) fNext) (fSeq (fAsg 5 (fOpN oLst (fCons (fC .none) (fCons (fC (.bool true)) (fCons (fC (.bool false)) (fCons (fOp1 oNeg (fC (.int 1))) (fCons (fC (.int 0)) (fCons (fC (.int 1)) (fCons (fC (.str "")) (fCons (fC (.str "left")) (fCons (fC (.str "up")) (fCons (fOpN oTup fNil) (fCons (fOpN oLst fNil) (fCons (fOpN oTup (fCons (fC (.int 0)) fNil)) (fCons (fOpN oLst (fCons (fC (.int 1)) fNil)) (fCons (fOp2 oPow (fC (.int 10)) (fC (.int 13))) fNil)))))))))))))))) (fSeq (fIfS (fAnd (fTst (fOp1 (oIsi ["int"]) (fVar 1))) (fNot (fTst (fOp1 (oIsi ["bool"]) (fVar 1))))) (fAsg 5 (fOp2 oAdd (fVar 5) (fOpN oLst (fCons (fOp2 oAdd (fVar 1) (fC (.int 1))) (fCons (fOp2 oSub (fVar 1) (fC (.int 1))) (fCons (fOp2 oAdd (fVar 1) (fC (.int 1))) (fCons (fOpN (at1 oStr) (fCons (fVar 1) fNil)) fNil))))))) fNext) (fRet (fCall [true, false] ph__law_of (fCons (fVar 0) (fCons (fVar 5) fNil)))))))))

def phR__law_bent (n : Nat) : Phi := fun args R => ∃ (L M m j : Nat) (xd d : D), args = [ow xd, sh d] ∧ j ≤ n ∧ anyP L M j d ∧ 1 ≤ L ∧ L ≤ 1000 ∧ 10 ^ 13 ≤ M ∧ M ≤ 10 ^ 18 ∧ Bk m (ow xd) ∧ 3 * (n + 1) ≤ m ∧ ∀ k d' x', anyP (L + 1) (M + 1) (j + 1) d' → Bk (m - 3 * (n + 1)) (ow x') → R ⟨k, d'⟩ [ow x']
def ph__law_bent : Phi := phR__law_bent 7
theorem odd_any {L M j : Nat} (hL : 1 ≤ L) (hM : 10 ^ 13 ≤ M) : ∀ e ∈ [PyData.none, .bool true, .bool false, .int (-1), .int 0, .int 1, .str (Str.ofString ""), .str (Str.ofString "left"), .str (Str.ofString "up"), .tuple [], .list [], .tuple [.int 0], .list [.int 1], .int (10 ^ Int.toNat 13)], anyP (L + 1) (M + 1) (j + 1) e := by
  intro e he
  simp only [List.mem_cons, List.not_mem_nil, or_false] at he
  rcases he with rfl | rfl | rfl | rfl | rfl | rfl | rfl | rfl | rfl | rfl | rfl | rfl | rfl | rfl
  · exact anyP_non
  · exact anyP_bl
  · exact anyP_bl
  · exact anyP_int.mpr (by show (1 : Nat) ≤ _; omega)
  · exact anyP_int.mpr (by show (0 : Nat) ≤ _; omega)
  · exact anyP_int.mpr (by show (1 : Nat) ≤ _; omega)
  · exact anyP_str.mpr ⟨by decide +kernel, by decide +kernel⟩
  · exact anyP_str.mpr ⟨by decide +kernel, by decide +kernel⟩
  · exact anyP_str.mpr ⟨by decide +kernel, by decide +kernel⟩
  · exact anyP_tup.mpr ⟨j, rfl, Nat.zero_le _, fun d hd => by cases hd⟩
  · exact anyP_list.mpr ⟨j, rfl, Nat.zero_le _, fun d hd => by cases hd⟩
  · exact anyP_tup.mpr ⟨j, rfl, by show (1 : Nat) ≤ L + 1; omega, fun d hd => by rw [List.mem_singleton.mp hd]; exact anyP_int.mpr (by show (0 : Nat) ≤ _; omega)⟩
  · exact anyP_list.mpr ⟨j, rfl, by show (1 : Nat) ≤ L + 1; omega, fun d hd => by rw [List.mem_singleton.mp hd]; exact anyP_int.mpr (by show (1 : Nat) ≤ _; omega)⟩
  · exact anyP_int.mpr (by rw [show ((10 : Int) ^ Int.toNat 13).natAbs = 10 ^ 13 by decide]; omega)
theorem bent_any {φ : Phi} {L M m j u : Nat} {xd d : D} {R : Cell → List Cell → Prop} (hd : anyP L M j d) (hL : 1 ≤ L) (hL2 : L ≤ 1000) (hM : 10 ^ 13 ≤ M) (hM2 : M ≤ 10 ^ 18) (hx : Bk m (ow xd)) (hm : 3 + u ≤ m)
    (hR : ∀ k d' x', anyP (L + 1) (M + 1) (j + 1) d' → Bk (m - (3 + u)) (ow x') → R ⟨k, d'⟩ [ow x'])
    (hφ : ∀ (k : Nat) (ds : List D), (d = .list ds ∨ d = .tuple ds) → j = k + 1 → ∀ e ∈ ds, ∀ z, Bk (m - 2) (ow z) → ∀ S : Cell → List Cell → Prop, (∀ q d' x', anyP (L + 1) (M + 1) (k + 1) d' → Bk (m - 2 - u) (ow x') → S ⟨q, d'⟩ [ow x']) → φ [ow z, sh e] S) :
    b__law_bent φ (startE 6 [ow xd, sh d]) (defK [true, false] R) := by
  have hodd := odd_any (L := L) (M := M) (j := j) hL hM
  cases d with
  | dict kvs => exact (anyP_dict hd).elim
  | none =>
    (row_room_at pv_go__law_bent; row_room_at pv_end)
    all_goals (refine apP_op (call__law_ofE (.inl rfl) ‹Bk _ (ow x')› (.mk (by omega)) (.mk (Nat.zero_lt_succ _)) (.mk (by decide)) fun e z he hz => ?_); (row_room_at pv_go__law_bent; row_room_at pv_end); exact hR _ _ _ (hodd e he) (Bk.le hz (by omega)))
  | bool b =>
    (row_room_at pv_go__law_bent; row_room_at pv_end)
    all_goals (refine apP_op (call__law_ofE (.inl rfl) ‹Bk _ (ow x')› (.mk (by omega)) (.mk (Nat.zero_lt_succ _)) (.mk (by decide)) fun e z he hz => ?_); (row_room_at pv_go__law_bent; row_room_at pv_end); exact hR _ _ _ (hodd e he) (Bk.le hz (by omega)))
  | str x =>
    (row_room_at pv_go__law_bent; row_room_at pv_end)
    all_goals (refine apP_op (call__law_ofE (.inl rfl) ‹Bk _ (ow x')› (.mk (by omega)) (.mk (Nat.zero_lt_succ _)) (.mk (by decide)) fun e z he hz => ?_); (row_room_at pv_go__law_bent; row_room_at pv_end); exact hR _ _ _ (hodd e he) (Bk.le hz (by omega)))
  | int i =>
    have hi := anyP_int.mp hd
    have hlog := log_lt hi hM2
    have hoddI : ∀ e ∈ [PyData.none, .bool true, .bool false, .int (-1), .int 0, .int 1, .str (Str.ofString ""), .str (Str.ofString "left"), .str (Str.ofString "up"), .tuple [], .list [], .tuple [.int 0], .list [.int 1], .int (10 ^ Int.toNat 13)] ++ [PyData.int (i + 1), .int (i - 1), .int (i + 1), .str (Str.ofString (toString i))], anyP (L + 1) (M + 1) (j + 1) e := by
      intro e he
      rcases List.mem_append.mp he with he | he
      · exact hodd e he
      · simp only [List.mem_cons, List.not_mem_nil, or_false] at he
        rcases he with rfl | rfl | rfl | rfl
        · exact anyP_int.mpr (by omega)
        · exact anyP_int.mpr (by omega)
        · exact anyP_int.mpr (by omega)
        · exact anyP_str.mpr (strG_int (Nat.lt_of_le_of_lt (Nat.le_trans hi hM2) (by decide)))
    (row_room_at pv_go__law_bent; row_room_at pv_end)
    all_goals
      (refine apP_op (call__law_ofE (.inl rfl) ‹Bk _ (ow x')› (.mk (by omega)) (.mk (Nat.zero_lt_succ _)) (.mk (show (18 : Nat) < 2 ^ 62 by decide)) fun e z he hz => ?_); (row_room_at pv_go__law_bent; row_room_at pv_end); exact hR _ _ _ (hoddI e he) (Bk.le hz (by omega)))
  | list ds =>
    obtain ⟨k, rfl, hl, hi⟩ := anyP_list.mp hd
    (row_room_at pv_go__law_bent; row_room_at pv_end)
    all_goals first
      | (obtain ⟨e, h1, h2, h3⟩ := ix_in (ds := ds) (t := t) (by assumption) (by assumption); refine ⟨_, e, six (by assumption) (by assumption), h3, ⟨by omega, by omega⟩, ?_⟩; (row_room_at pv_go__law_bent; row_room_at pv_end); exact hR _ _ _ (any_er hl hi _).1 (Bk.le ‹Bk _ (ow x')› (by omega)))
      | (obtain ⟨e, h1, h2, h3⟩ := ix_in (ds := ds) (t := t) (by assumption) (by assumption); rw [h1] at hc; cases hc; refine ⟨⟨Nat.lt_of_le_of_lt (show ds.length ≤ 1000 by omega) (by decide), by omega, by omega⟩, ?_⟩; (row_room_at pv_go__law_bent; row_room_at pv_end); exact hR _ _ _ (any_ins hl hi _ h2).1 (Bk.le ‹Bk _ (ow x')› (by omega)))
      | ((with_reducible show False); obtain ⟨e, h1, _, _⟩ := ix_in (ds := ds) (t := t) (by assumption) (by assumption); rw [h1] at hc; cases hc)
      | (obtain ⟨e, h1, h2, h3⟩ := ix_in (ds := ds) (t := t) (by assumption) (by assumption); rw [h1] at hc; cases hc; refine apP_op (hφ k ds (.inl rfl) rfl _ h2 _ (Bk.le ‹Bk _ (ow x')› (by omega)) _ fun q d' x2 g1 g2 => ?_); (row_room_at pv_go__law_bent; row_room_at pv_end); refine ⟨_, ixN_pos (by assumption) (by assumption), ?_⟩; (row_room_at pv_go__law_bent; row_room_at pv_end); exact hR _ _ _ (any_set hl hi _ g1).1 (Bk.le g2 (by omega)))
      | (refine apP_op (call__law_ofE (.inl rfl) ‹Bk _ (ow x')› (.mk (by omega)) (.mk (Nat.zero_lt_succ _)) (.mk (by decide)) fun e z he hz => ?_); (row_room_at pv_go__law_bent; row_room_at pv_end); exact hR _ _ _ (hodd e he) (Bk.le hz (by omega)))
      | exact hR _ _ _ (anyP_mono (by omega) (by omega) _ _ _ (Nat.le_succ _) (show anyP L M (k + 1) (.list ds) from ⟨hl, hi⟩)) (Bk.le ‹Bk _ (ow x')› (by omega))
      | skip
    done
  | tuple ds =>
    obtain ⟨k, rfl, hl, hi⟩ := anyP_tup.mp hd
    (row_room_at pv_go__law_bent; row_room_at pv_end)
    all_goals first
      | (obtain ⟨e, h1, h2, h3⟩ := ix_in (ds := ds) (t := t) (by assumption) (by assumption); refine ⟨_, e, six (by assumption) (by assumption), h3, ⟨by omega, by omega⟩, ?_⟩; (row_room_at pv_go__law_bent; row_room_at pv_end); exact hR _ _ _ (any_er hl hi _).2 (Bk.le ‹Bk _ (ow x')› (by omega)))
      | (obtain ⟨e, h1, h2, h3⟩ := ix_in (ds := ds) (t := t) (by assumption) (by assumption); rw [h1] at hc; cases hc; refine ⟨⟨Nat.lt_of_le_of_lt (show ds.length ≤ 1000 by omega) (by decide), by omega, by omega⟩, ?_⟩; (row_room_at pv_go__law_bent; row_room_at pv_end); exact hR _ _ _ (any_ins hl hi _ h2).2 (Bk.le ‹Bk _ (ow x')› (by omega)))
      | ((with_reducible show False); obtain ⟨e, h1, _, _⟩ := ix_in (ds := ds) (t := t) (by assumption) (by assumption); rw [h1] at hc; cases hc)
      | (obtain ⟨e, h1, h2, h3⟩ := ix_in (ds := ds) (t := t) (by assumption) (by assumption); rw [h1] at hc; cases hc; refine apP_op (hφ k ds (.inr rfl) rfl _ h2 _ (Bk.le ‹Bk _ (ow x')› (by omega)) _ fun q d' x2 g1 g2 => ?_); (row_room_at pv_go__law_bent; row_room_at pv_end); refine ⟨_, ixN_pos (by assumption) (by assumption), ?_⟩; (row_room_at pv_go__law_bent; row_room_at pv_end); exact hR _ _ _ (any_set hl hi _ g1).2 (Bk.le g2 (by omega)))
      | (refine apP_op (call__law_ofE (.inl rfl) ‹Bk _ (ow x')› (.mk (by omega)) (.mk (Nat.zero_lt_succ _)) (.mk (by decide)) fun e z he hz => ?_); (row_room_at pv_go__law_bent; row_room_at pv_end); exact hR _ _ _ (hodd e he) (Bk.le hz (by omega)))
      | exact hR _ _ _ (anyP_mono (by omega) (by omega) _ _ _ (Nat.le_succ _) (show anyP L M (k + 1) (.list ds) from ⟨hl, hi⟩)) (Bk.le ‹Bk _ (ow x')› (by omega))
      | skip
    done
theorem vc__law_bent (n : Nat) (args R) (h : phR__law_bent (n + 1) args R) : b__law_bent (phR__law_bent n) (startE 6 args) (defK [true, false] R) := by
  obtain ⟨L, M, m, j, xd, d, rfl, hj, hd, hL, hL2, hM, hM2, hx, hm, hR⟩ := h
  refine bent_any (u := 3 * (n + 1)) hd hL hL2 hM hM2 hx (by omega) (fun k d' x' h1 h2 => hR k d' x' h1 (Bk.le h2 (by omega))) fun k ds hds hjk e he z hz S hS => ?_
  have hi : anyP L M k e := by
    rcases hds with rfl | rfl
    · obtain ⟨k', h1, _, h2⟩ := anyP_list.mp hd
      have : k' = k := by omega
      subst this; exact h2 e he
    · obtain ⟨k', h1, _, h2⟩ := anyP_tup.mp hd
      have : k' = k := by omega
      subst this; exact h2 e he
  exact ⟨L, M, m - 2, k, z, e, rfl, by omega, hi, hL, hL2, hM, hM2, hz, by omega, fun q d' x' h1 h2 => hS q d' x' h1 (Bk.le h2 (by omega))⟩
theorem vc__law_bent0 (args R) (h : phR__law_bent 0 args R) : b__law_bent noPhi (startE 6 args) (defK [true, false] R) := by
  obtain ⟨L, M, m, j, xd, d, rfl, hj, hd, hL, hL2, hM, hM2, hx, hm, hR⟩ := h
  refine bent_any (u := 0) hd hL hL2 hM hM2 hx (by omega) (fun k d' x' h1 h2 => hR k d' x' h1 (Bk.le h2 (by omega))) fun k ds hds hjk e he z hz S hS => ?_
  omega
-- CALLS
-- CALL call__law_bent ddhhhhhh | q d' x' hd' hx'
theorem call__law_bent {L M m j : Nat} {xd d : D} {R : Cell → List Cell → Prop} (hd : anyP L M j d) (hx : Bk m (ow xd)) (hj : Hold (j ≤ 7)) (hL : Hold (1 ≤ L)) (hL2 : Hold (L ≤ 1000)) (hM : Hold (10 ^ 13 ≤ M)) (hM2 : Hold (M ≤ 10 ^ 18)) (hm : Hold (24 ≤ m)) (q : ∀ k d' x', anyP (L + 1) (M + 1) (j + 1) d' → Bk (m - 24) (ow x') → R ⟨k, d'⟩ [ow x']) : ph__law_bent [ow xd, sh d] R :=
  ⟨L, M, m, j, xd, d, rfl, hj.out, hd, hL.out, hL2.out, hM.out, hM2.out, hx, hm.out, q⟩

local macro_rules | `(tactic| row_room_at pv_st__law_is_number) => `(tactic| ((try ((with_reducible show toEnv _ _); (first | refine toEnv_go rfl ?_ | refine toEnv_gT rfl rfl ?_); row_room_at pv_cl)); (try (conv => whnf)); first | ((with_reducible show _ ∧ _); row_room_at pv_and) | ((with_reducible show ap2 _ _ _ _); row_room_at pv_op2) | ((with_reducible show apN _ _ _); row_room_at pv_opN) | ((with_reducible show ap1 _ _ _); row_room_at pv_op1) | ((with_reducible show ovr _ _); row_room_at pv_ov) | ((with_reducible show ovr2 _ _ _); row_room_at pv_ov2) | row_room_at pv_late))
local macro_rules | `(tactic| row_room_at pv_go__law_is_number) => `(tactic| (repeat' row_room_at pv_st__law_is_number))
local macro_rules | `(tactic| row_room_at pv_gox__law_is_number) => `(tactic| (repeat' ((try ((with_reducible show toEnv _ _); (first | refine toEnv_go rfl ?_ | refine toEnv_gT rfl rfl ?_); row_room_at pv_cl)); (try (conv => whnf)); first | ((with_reducible show _ ∧ _); row_room_at pv_and) | ((with_reducible show ap2 _ _ _ _); row_room_at pv_op2) | ((with_reducible show apN _ _ _); row_room_at pv_opN) | ((with_reducible show ap1 _ _ _); row_room_at pv_op1) | ((with_reducible show ovr _ _); row_room_at pv_ov) | ((with_reducible show ovr2 _ _ _); row_room_at pv_ov2) | row_room_at pv_latex)))
local macro_rules | `(tactic| row_room_at pv_gou__law_is_number) => `(tactic| (repeat' (first | (with_reducible refine apF_op ?_) | (with_reducible refine apL_op ?_) | row_room_at pv_st__law_is_number)))

def b__law_is_number : FS := (fRet (fAndV (fOp1 (oIsi ["int"]) (fVar 0)) (fAndV (fNotV (fOp1 (oIsi ["bool"]) (fVar 0))) (fOp2 oGe (fVar 0) (fVar 1)))))

-- USES is_number
def nmB (m : Int) : D → Bool
  | .int i => decide (m ≤ i)
  | _ => false
theorem nmB_ex {m : Int} {d : D} (h : nmB m d = true) : ∃ i, d = .int i ∧ m ≤ i := by
  cases d with
  | int i => exact ⟨i, rfl, of_decide_eq_true h⟩
  | _ => cases h
@[irreducible] def ph__law_is_number : Phi := fun args R => ∃ (d : D) (m : Int) (L M j : Nat), args = [sh d, sh (.int m)] ∧ (anyP L M j d) ∧ R (sh (.bool (nmB m d))) []
theorem call__law_is_number {d : D}{m : Int}{L M j : Nat} {R : Cell → List Cell → Prop} (hd : anyP L M j d) (q : R (sh (.bool (nmB m d))) []) : ph__law_is_number [sh d, sh (.int m)] R := by
  unfold ph__law_is_number
  exact ⟨d, m, L, M, j, rfl, hd, q⟩
theorem vc__law_is_number (args R) (h : ph__law_is_number args R) : b__law_is_number (startE 2 args) (defK [false, false] R) := by
  unfold ph__law_is_number at h
  obtain ⟨d, m, L, M, j, rfl, hd, hR⟩ := h
  cases d with
  | dict kvs => exact (anyP_dict hd).elim
  | _ => (row_room_at pv_go__law_is_number; row_room_at pv_end)

local macro_rules | `(tactic| row_room_at pv_call__law_is_number) => `(tactic| (refine apP_op (call__law_is_number (by row_room_at pv_sd) ?_)))
local macro_rules | `(tactic| row_room_at pv_st__law_are_depths) => `(tactic| ((try ((with_reducible show toEnv _ _); (first | refine toEnv_go rfl ?_ | refine toEnv_gT rfl rfl ?_); row_room_at pv_cl)); (try (conv => whnf)); first | ((with_reducible show _ ∧ _); row_room_at pv_and) | ((with_reducible show ap2 _ _ _ _); row_room_at pv_op2) | ((with_reducible show apN _ _ _); row_room_at pv_opN) | ((with_reducible show ap1 _ _ _); row_room_at pv_op1) | ((with_reducible show ovr _ _); row_room_at pv_ov) | ((with_reducible show ovr2 _ _ _); row_room_at pv_ov2) | ((with_reducible show apP _ _ _); row_room_at pv_cl; first | row_room_at pv_call__law_is_number) | ((with_reducible show apP _ _ _); row_room_at pv_cl; (first | (rw [sd_l]; first | row_room_at pv_call__law_is_number) | (rw [sd_r]; first | row_room_at pv_call__law_is_number))) | row_room_at pv_late))
local macro_rules | `(tactic| row_room_at pv_go__law_are_depths) => `(tactic| (repeat' row_room_at pv_st__law_are_depths))
local macro_rules | `(tactic| row_room_at pv_gox__law_are_depths) => `(tactic| (repeat' ((try ((with_reducible show toEnv _ _); (first | refine toEnv_go rfl ?_ | refine toEnv_gT rfl rfl ?_); row_room_at pv_cl)); (try (conv => whnf)); first | ((with_reducible show _ ∧ _); row_room_at pv_and) | ((with_reducible show ap2 _ _ _ _); row_room_at pv_op2) | ((with_reducible show apN _ _ _); row_room_at pv_opN) | ((with_reducible show ap1 _ _ _); row_room_at pv_op1) | ((with_reducible show ovr _ _); row_room_at pv_ov) | ((with_reducible show ovr2 _ _ _); row_room_at pv_ov2) | ((with_reducible show apP _ _ _); row_room_at pv_cl; first | row_room_at pv_call__law_is_number) | ((with_reducible show apP _ _ _); row_room_at pv_cl; (first | (rw [sd_l]; first | row_room_at pv_call__law_is_number) | (rw [sd_r]; first | row_room_at pv_call__law_is_number))) | row_room_at pv_latex)))
local macro_rules | `(tactic| row_room_at pv_gou__law_are_depths) => `(tactic| (repeat' (first | (with_reducible refine apF_op ?_) | (with_reducible refine apL_op ?_) | row_room_at pv_st__law_are_depths)))

def b__law_are_depths : FS := (fSeq (fIfS (fOr (fNot (fTst (fOp1 (oIsi ["tuple"]) (fVar 0)))) (fOr (fTst (fOp2 oEq (fVar 0) (fOpN oTup fNil))) (fNot (fTst (fOpN (at1 oAll) (fCons (fLc [1] (fSeqI (fVar 0)) (gN 1) fYes (fCall [false, false] ph__law_is_number (fCons (fVar 1) (fCons (fC (.int 1)) fNil)))) fNil)))))) (fRet (fC (.bool false))) fNext) (fRet (fOpN (at1 oAll) (fCons (fLc [1] (fSeqI (fVar 0)) (gN 1) fYes (fOp2 oEq (fCntT (fVar 0) (fVar 1)) (fC (.int 1)))) fNil))))

-- VC
-- USES is_channel
-- USES _law_is_number
theorem nm_num {d : D} (h : nmB 1 d = true) : numB d = true := by cases d <;> first | rfl | cases h
theorem chan_nm {ds : List D} (h0 : ds ≠ []) : chanD (.tuple ds) = (ds.all (nmB 1) && decide ((ds.map iOf).Nodup)) := by
  show (ds.all numB && (!(ds.map iOf).isEmpty && (decide (0 < mn (ds.map iOf)) && decide (ds.map iOf).Nodup))) = _
  cases hb : ds.all numB with
  | false =>
    rw [Bool.false_and]
    cases hn : ds.all (nmB 1) with
    | false => rfl
    | true =>
      rw [List.all_eq_true.mpr fun d hd => nm_num (List.all_eq_true.mp hn d hd)] at hb
      cases hb
  | true =>
    obtain ⟨ws, rfl⟩ := nums_ex hb
    have e : (ws.map PyData.int).map iOf = ws := by rw [List.map_map]; exact List.map_id ws
    rw [e, Bool.true_and]
    have hne : ws ≠ [] := fun z => h0 (by rw [z]; rfl)
    have hl : 0 < ws.length := List.length_pos_iff.mpr hne
    rw [List.isEmpty_eq_false_iff.mpr hne, Bool.not_false, Bool.true_and]
    congr 1
    rw [Bool.eq_iff_iff, decide_eq_true_eq, List.all_eq_true]
    constructor
    · intro h d hd
      obtain ⟨w, hw, rfl⟩ := List.mem_map.mp hd
      have := mn_le hw
      show decide (1 ≤ w) = true
      exact decide_eq_true (by omega)
    · intro h
      have := h _ (List.mem_map.mpr ⟨_, mn_mem hl, rfl⟩)
      have : 1 ≤ mn ws := of_decide_eq_true this
      omega
theorem cnt_one : ∀ {ws : List Int}, ws.Nodup ↔ ∀ w ∈ ws, ws.count w = 1
  | [] => ⟨fun _ _ h => (by cases h), fun _ => List.nodup_nil⟩
  | a :: ws => by
    have ih := cnt_one (ws := ws)
    rw [List.nodup_cons]
    constructor
    · rintro ⟨h1, h2⟩ w hw
      rw [List.count_cons]
      by_cases e : a = w
      · subst e; rw [List.count_eq_zero.mpr h1]; simp
      · rcases List.mem_cons.mp hw with z | z
        · exact absurd z.symm e
        · rw [ih.mp h2 w z, if_neg (by simpa using e)]
    · intro h
      have h1 : a ∉ ws := by
        have := h a List.mem_cons_self
        rw [List.count_cons, if_pos (by simp)] at this
        exact List.count_eq_zero.mp (by omega)
      refine ⟨h1, ih.mpr fun w hw => ?_⟩
      have := h w (List.mem_cons_of_mem _ hw)
      have hne : ¬ a = w := fun e => h1 (e ▸ hw)
      rw [List.count_cons, if_neg (by simpa using hne)] at this
      exact this
theorem cnt_all (ws : List Int) : (ws.all fun w => decide ((ws.count w : Int) = 1)) = decide ws.Nodup := by
  rw [Bool.eq_iff_iff, decide_eq_true_eq, List.all_eq_true, cnt_one]
  exact ⟨fun h w hw => by have := of_decide_eq_true (h w hw); omega, fun h w hw => decide_eq_true (by rw [h w hw]; rfl)⟩
theorem fl_ints (ws : List Int) : (ws.map PyData.int).all flatD = true := by rw [List.all_map, List.all_eq_true]; intro _ _; rfl
theorem cnt_ints (ws : List Int) (i : Int) : List.countP (fun x => x.eqv (PyData.int i)) (ws.map PyData.int) = ws.count i := by
  rw [List.countP_map, show ((fun x => PyData.eqv x (PyData.int i)) ∘ PyData.int) = (· == i) from funext fun x => rfl]; rfl
@[irreducible] def ph__law_are_depths : Phi := fun args R => ∃ (t : D) (L M j : Nat), args = [sh t] ∧ (anyP L M j t) ∧ (L ≤ 1000) ∧ (j ≤ 40) ∧ R (sh (.bool (chanD t))) []
theorem call__law_are_depths {t : D}{L M j : Nat} {R : Cell → List Cell → Prop} (ht : anyP L M j t) (hl : Hold (L ≤ 1000)) (hj : Hold (j ≤ 40)) (q : R (sh (.bool (chanD t))) []) : ph__law_are_depths [sh t] R := by
  unfold ph__law_are_depths
  exact ⟨t, L, M, j, rfl, ht, hl.out, hj.out, q⟩
theorem vc__law_are_depths (args R) (h : ph__law_are_depths args R) : b__law_are_depths (startE 2 args) (defK [false] R) := by
  unfold ph__law_are_depths at h
  obtain ⟨t, L, M, j, rfl, ht, hl, hj, hR⟩ := h
  cases t with
  | dict kvs => exact (anyP_dict ht).elim
  | tuple ds =>
    obtain ⟨k, rfl, hk, hi⟩ := anyP_tup.mp ht
    match ds, hi, hk with
    | [], _, _ => (row_room_at pv_go__law_are_depths; row_room_at pv_end)
    | a :: r, hi, hk =>
      have hc0 := chan_nm (ds := a :: r) (List.cons_ne_nil _ _)
      rw [hc0] at hR
      have hpos : 0 < ((a :: r).length : Int) := by rw [List.length_cons]; omega
      have hne : a :: r ≠ [] := List.cons_ne_nil _ _
      generalize a :: r = ds at *
      (row_room_at pv_go__law_are_depths; row_room_at pv_end)
      refine ⟨dep_shp (anyP_dep _ _ ht) (by omega), dep_shp (n := 1) rfl (by decide), ?_⟩
      rw [show PyData.eqv (.tuple ds) (.tuple []) = false by cases ds <;> first | exact absurd rfl hne | rfl]
      (row_room_at pv_go__law_are_depths; row_room_at pv_end)
      refine lc_anyD (fun x => .bool (nmB 1 x)) (fun x acc N hq hl2 hN => ?_) trivial (.mk (Nat.le_trans (show ds.length ≤ 1000 by omega) (by decide))) ?_
      · have hx := hi x hq
        (row_room_at pv_go__law_are_depths; row_room_at pv_end)
      rw [show ds.map (fun x => PyData.bool (nmB 1 x)) = (ds.map (nmB 1)).map PyData.bool by rw [List.map_map]; rfl]
      have hall : ((ds.map (nmB 1)).all fun x => x) = ds.all (nmB 1) := by rw [List.all_map]; rfl
      cases hb : ds.all (nmB 1) with
      | false =>
        rw [hb, Bool.false_and] at hR
        (row_room_at pv_go__law_are_depths; row_room_at pv_end)
        all_goals exact absurd ((hall.trans hb).symm.trans (by assumption)) (by decide)
      | true =>
        rw [hb, Bool.true_and] at hR
        obtain ⟨ws, rfl⟩ := nums_ex (List.all_eq_true.mpr fun d hd => nm_num (List.all_eq_true.mp hb d hd))
        rw [show (ws.map PyData.int).map iOf = ws by rw [List.map_map]; exact List.map_id ws, ← cnt_all] at hR
        clear hi ht hc0 hpos hne
        rw [List.length_map] at hk
        (row_room_at pv_go__law_are_depths; row_room_at pv_end)
        · exact absurd ((hall.trans hb).symm.trans (by assumption)) (by decide)
        refine lc_mp PyData.int (fun w => .bool (decide ((ws.count w : Int) = 1))) (fun w acc N hq hl2 hN => ?_) trivial (.mk (Nat.le_trans (show ws.length ≤ 1000 by omega) (by decide))) ?_
        · (row_room_at pv_go__law_are_depths; row_room_at pv_end)
          refine ⟨⟨rfl, fl_ints ws⟩, ?_⟩
          rw [cnt_ints]
          (row_room_at pv_go__law_are_depths; row_room_at pv_end)
        · (row_room_at pv_go__law_are_depths; row_room_at pv_end)
  | _ => (row_room_at pv_go__law_are_depths; row_room_at pv_end)

local macro_rules | `(tactic| row_room_at pv_st__law_is_held) => `(tactic| ((try ((with_reducible show toEnv _ _); (first | refine toEnv_go rfl ?_ | refine toEnv_gT rfl rfl ?_); row_room_at pv_cl)); (try (conv => whnf)); first | ((with_reducible show _ ∧ _); row_room_at pv_and) | ((with_reducible show ap2 _ _ _ _); row_room_at pv_op2) | ((with_reducible show apN _ _ _); row_room_at pv_opN) | ((with_reducible show ap1 _ _ _); row_room_at pv_op1) | ((with_reducible show ovr _ _); row_room_at pv_ov) | ((with_reducible show ovr2 _ _ _); row_room_at pv_ov2) | ((with_reducible show apP _ _ _); row_room_at pv_cl; first | row_room_at pv_call__law_is_number) | ((with_reducible show apP _ _ _); row_room_at pv_cl; (first | (rw [sd_l]; first | row_room_at pv_call__law_is_number) | (rw [sd_r]; first | row_room_at pv_call__law_is_number))) | row_room_at pv_late))
local macro_rules | `(tactic| row_room_at pv_go__law_is_held) => `(tactic| (repeat' row_room_at pv_st__law_is_held))
local macro_rules | `(tactic| row_room_at pv_gox__law_is_held) => `(tactic| (repeat' ((try ((with_reducible show toEnv _ _); (first | refine toEnv_go rfl ?_ | refine toEnv_gT rfl rfl ?_); row_room_at pv_cl)); (try (conv => whnf)); first | ((with_reducible show _ ∧ _); row_room_at pv_and) | ((with_reducible show ap2 _ _ _ _); row_room_at pv_op2) | ((with_reducible show apN _ _ _); row_room_at pv_opN) | ((with_reducible show ap1 _ _ _); row_room_at pv_op1) | ((with_reducible show ovr _ _); row_room_at pv_ov) | ((with_reducible show ovr2 _ _ _); row_room_at pv_ov2) | ((with_reducible show apP _ _ _); row_room_at pv_cl; first | row_room_at pv_call__law_is_number) | ((with_reducible show apP _ _ _); row_room_at pv_cl; (first | (rw [sd_l]; first | row_room_at pv_call__law_is_number) | (rw [sd_r]; first | row_room_at pv_call__law_is_number))) | row_room_at pv_latex)))
local macro_rules | `(tactic| row_room_at pv_gou__law_is_held) => `(tactic| (repeat' (first | (with_reducible refine apF_op ?_) | (with_reducible refine apL_op ?_) | row_room_at pv_st__law_is_held)))

def b__law_is_held : FS := (fSeq (fIfS (fNot (fTst (fOp1 (oIsi ["tuple"]) (fVar 1)))) (fRet (fC (.bool false))) fNext) (fSeq (fIfS (fNot (fTst (fOpN (at1 oAll) (fCons (fLc [4] (fSeqI (fVar 1)) (gN 4) fYes (fAndV (fCall [false, false] ph__law_is_number (fCons (fVar 4) (fCons (fC (.int 0)) fNil))) (fOp2 oLt (fVar 4) (fOpN (at1 oLen) (fCons (fVar 0) fNil))))) fNil)))) (fRet (fC (.bool false))) fNext) (fRet (fOpN (at1 oAll) (fCons (fLc [2, 3] (fZip (fCons (fVar 1) (fCons (fSl (fVar 1) (fPart (fC (.int 1))) fNoPart) fNil))) (gT 2 (gsCons (gN 2) (gsCons (gN 3) gsNil))) fYes (fOp2 oLt (fVar 2) (fVar 3))) fNil)))))

-- USES is_lot
-- USES _law_is_number
theorem zipD_ij : ∀ (l l' : List Int), zipD (l.map .int) (l'.map .int) = (l.zip l').map ijD
  | [], _ => by simp [zipD]
  | _ :: _, [] => by simp [zipD]
  | a :: l, b :: l' => by
    show (.tuple [.int a, .int b] : D) :: zipD (l.map .int) (l'.map .int) = _
    rw [zipD_ij l l']; rfl
theorem zip_rise : ∀ (l : List Int), ((l.zip (l.drop 1)).all fun p => decide (p.1 < p.2)) = true ↔ l.Pairwise (· < ·)
  | [] => ⟨fun _ => .nil, fun _ => rfl⟩
  | [a] => ⟨fun _ => List.pairwise_singleton _ _, fun _ => rfl⟩
  | a :: b :: r => by
    have ih := zip_rise (b :: r)
    show (decide (a < b) && (((b :: r).zip ((b :: r).drop 1)).all fun p => decide (p.1 < p.2))) = true ↔ _
    rw [Bool.and_eq_true, decide_eq_true_eq, ih, List.pairwise_cons (a := a) (l := b :: r)]
    constructor
    · rintro ⟨h1, h2⟩
      refine ⟨fun c hc => ?_, h2⟩
      rcases List.mem_cons.mp hc with rfl | hc
      · exact h1
      · exact Int.lt_trans h1 ((List.pairwise_cons.mp h2).1 c hc)
    · rintro ⟨h1, h2⟩
      exact ⟨h1 b List.mem_cons_self, h2⟩
theorem zip_ris (l : List Int) : ((l.zip (l.drop 1)).all fun p => decide (p.1 < p.2)) = risB l := by
  rw [Bool.eq_iff_iff, zip_rise, risB_iff]
@[irreducible] def ph__law_is_held : Phi := fun args R => ∃ (d t : D) (ws : List Int) (L M j : Nat), args = [sh d, sh t] ∧ (Ints d ws) ∧ (anyP L M j t) ∧ (ws.length ≤ 1000) ∧ (L ≤ 1000) ∧ R (sh (.bool (lotD ws.length t))) []
theorem call__law_is_held {d t : D}{ws : List Int}{L M j : Nat} {R : Cell → List Cell → Prop} (hd : Ints d ws) (ht : anyP L M j t) (hn : Hold (ws.length ≤ 1000)) (hl : Hold (L ≤ 1000)) (q : R (sh (.bool (lotD ws.length t))) []) : ph__law_is_held [sh d, sh t] R := by
  unfold ph__law_is_held
  exact ⟨d, t, ws, L, M, j, rfl, hd, ht, hn.out, hl.out, q⟩
theorem vc__law_is_held (args R) (h : ph__law_is_held args R) : b__law_is_held (startE 5 args) (defK [false, false] R) := by
  unfold ph__law_is_held at h
  obtain ⟨d, t, ws, L, M, j, rfl, hd, ht, hn, hl, hR⟩ := h
  cases t with
  | dict kvs => exact (anyP_dict ht).elim
  | tuple ds =>
    obtain ⟨k, rfl, hk, hi⟩ := anyP_tup.mp ht
    (row_room_at pv_go__law_is_held; row_room_at pv_end)
    refine lc_anyD (fun x => .bool (pitB ws.length x)) (fun x acc N hq hl2 hN => ?_) trivial (.mk (Nat.le_trans (show ds.length ≤ 1000 by omega) (by decide))) ?_
    · have hx := hi x hq
      cases x with
      | int i =>
        have e : PyData.bool (pitB ws.length (.int i)) = .bool (decide (0 ≤ i) && decide (i < (ws.length : Int))) := rfl
        rw [e] at hN
        clear e
        cases h0 : decide (0 ≤ i) with
        | true =>
          rw [h0] at hN
          have := of_decide_eq_true h0
          (row_room_at pv_go__law_is_held; row_room_at pv_end)
          all_goals exact absurd ((show nmB 0 (.int i) = true from h0).symm.trans (by assumption)) (by decide)
        | false =>
          rw [h0] at hN
          have := of_decide_eq_false h0
          (row_room_at pv_go__law_is_held; row_room_at pv_end)
          all_goals exact absurd ((show nmB 0 (.int i) = false from h0).symm.trans (by assumption)) (by decide)
      | dict kvs => exact (anyP_dict hx).elim
      | _ =>
        (row_room_at pv_go__law_is_held; row_room_at pv_end)
    rw [show ds.map (fun x => PyData.bool (pitB ws.length x)) = (ds.map (pitB ws.length)).map PyData.bool by rw [List.map_map]; rfl]
    have hall : (ds.map (pitB ws.length)).all id = ds.all (pitB ws.length) := by rw [List.all_map]; rfl
    have hall : ((ds.map (pitB ws.length)).all fun x => x) = ds.all (pitB ws.length) := hall
    cases hb : ds.all (pitB ws.length) with
    | true =>
      obtain ⟨lot, rfl⟩ := pits_ex hb
      rw [lotD_i hb] at hR
      rw [List.length_map] at hk
      (row_room_at pv_go__law_is_held; row_room_at pv_end)
      · exact absurd ((hall.trans hb).symm.trans (by assumption)) (by decide)
      rw [zipD_ij]
      refine lc_mp ijD (fun p => .bool (decide (p.1 < p.2))) (fun p acc N hq hl2 hN => ?_) trivial (.mk (by
        rw [List.length_zip]
        exact Nat.le_trans (Nat.min_le_left _ _) (Nat.le_trans (show lot.length ≤ 1000 by omega) (by decide)))) ?_
      · (row_room_at pv_go__law_is_held; row_room_at pv_end)
      (row_room_at pv_go__law_is_held; row_room_at pv_end)
      exact .mk (congrArg (fun z => sh (PyData.bool z)) (zip_ris lot))
    | false =>
      rw [lotD_n hb] at hR
      (row_room_at pv_go__law_is_held; row_room_at pv_end)
      all_goals exact absurd ((hall.trans hb).symm.trans (by assumption)) (by decide)
  | _ => (row_room_at pv_go__law_is_held; row_room_at pv_end)

local macro_rules | `(tactic| row_room_at pv_call__law_is_held) => `(tactic| (refine apP_op (call__law_is_held (by row_room_at pv_sd) (by row_room_at pv_sd) ?_ ?_ ?_); (first | (focus row_room_at pv_hs) | rotate_left); (first | (focus row_room_at pv_hs) | rotate_left)))
local macro_rules | `(tactic| row_room_at pv_st__law_is_state) => `(tactic| ((try ((with_reducible show toEnv _ _); (first | refine toEnv_go rfl ?_ | refine toEnv_gT rfl rfl ?_); row_room_at pv_cl)); (try (conv => whnf)); first | ((with_reducible show _ ∧ _); row_room_at pv_and) | ((with_reducible show ap2 _ _ _ _); row_room_at pv_op2) | ((with_reducible show apN _ _ _); row_room_at pv_opN) | ((with_reducible show ap1 _ _ _); row_room_at pv_op1) | ((with_reducible show ovr _ _); row_room_at pv_ov) | ((with_reducible show ovr2 _ _ _); row_room_at pv_ov2) | ((with_reducible show apP _ _ _); row_room_at pv_cl; first | row_room_at pv_call__law_is_number | row_room_at pv_call__law_is_held) | ((with_reducible show apP _ _ _); row_room_at pv_cl; (first | (rw [sd_l]; first | row_room_at pv_call__law_is_number | row_room_at pv_call__law_is_held) | (rw [sd_r]; first | row_room_at pv_call__law_is_number | row_room_at pv_call__law_is_held))) | row_room_at pv_late))
local macro_rules | `(tactic| row_room_at pv_go__law_is_state) => `(tactic| (repeat' row_room_at pv_st__law_is_state))
local macro_rules | `(tactic| row_room_at pv_gox__law_is_state) => `(tactic| (repeat' ((try ((with_reducible show toEnv _ _); (first | refine toEnv_go rfl ?_ | refine toEnv_gT rfl rfl ?_); row_room_at pv_cl)); (try (conv => whnf)); first | ((with_reducible show _ ∧ _); row_room_at pv_and) | ((with_reducible show ap2 _ _ _ _); row_room_at pv_op2) | ((with_reducible show apN _ _ _); row_room_at pv_opN) | ((with_reducible show ap1 _ _ _); row_room_at pv_op1) | ((with_reducible show ovr _ _); row_room_at pv_ov) | ((with_reducible show ovr2 _ _ _); row_room_at pv_ov2) | ((with_reducible show apP _ _ _); row_room_at pv_cl; first | row_room_at pv_call__law_is_number | row_room_at pv_call__law_is_held) | ((with_reducible show apP _ _ _); row_room_at pv_cl; (first | (rw [sd_l]; first | row_room_at pv_call__law_is_number | row_room_at pv_call__law_is_held) | (rw [sd_r]; first | row_room_at pv_call__law_is_number | row_room_at pv_call__law_is_held))) | row_room_at pv_latex)))
local macro_rules | `(tactic| row_room_at pv_gou__law_is_state) => `(tactic| (repeat' (first | (with_reducible refine apF_op ?_) | (with_reducible refine apL_op ?_) | row_room_at pv_st__law_is_state)))

def b__law_is_state : FS := (fSeq (fIfS (fOr (fNot (fTst (fOp1 (oIsi ["tuple"]) (fVar 1)))) (fTst (fOp2 oNe (fOpN (at1 oLen) (fCons (fVar 1) fNil)) (fC (.int 3))))) (fRet (fC (.bool false))) fNext) (fRet (fAndV (fCall [false, false] ph__law_is_number (fCons (fOp2 oIx (fVar 1) (fC (.int 0))) (fCons (fC (.int 0)) fNil))) (fAndV (fCall [false, false] ph__law_is_number (fCons (fOp2 oIx (fVar 1) (fC (.int 2))) (fCons (fC (.int 0)) fNil))) (fCall [false, false] ph__law_is_held (fCons (fVar 0) (fCons (fOp2 oIx (fVar 1) (fC (.int 1))) fNil)))))))

-- USES is_standing
-- USES _law_is_held
theorem nm0 {d : D} : nmB 0 d = cntB d := by cases d <;> rfl
@[irreducible] def ph__law_is_state : Phi := fun args R => ∃ (d t : D) (ws : List Int) (L M j : Nat), args = [sh d, sh t] ∧ (Ints d ws) ∧ (anyP L M j t) ∧ (ws.length ≤ 1000) ∧ (L ≤ 1000) ∧ R (sh (.bool (stnD ws.length t))) []
theorem call__law_is_state {d t : D}{ws : List Int}{L M j : Nat} {R : Cell → List Cell → Prop} (hd : Ints d ws) (ht : anyP L M j t) (hn : Hold (ws.length ≤ 1000)) (hl : Hold (L ≤ 1000)) (q : R (sh (.bool (stnD ws.length t))) []) : ph__law_is_state [sh d, sh t] R := by
  unfold ph__law_is_state
  exact ⟨d, t, ws, L, M, j, rfl, hd, ht, hn.out, hl.out, q⟩
theorem vc__law_is_state (args R) (h : ph__law_is_state args R) : b__law_is_state (startE 2 args) (defK [false, false] R) := by
  unfold ph__law_is_state at h
  obtain ⟨d, t, ws, L, M, j, rfl, hd, ht, hn, hl, hR⟩ := h
  cases t with
  | dict kvs => exact (anyP_dict ht).elim
  | tuple ds =>
    obtain ⟨k, rfl, hk, hi⟩ := anyP_tup.mp ht
    match ds, hi with
    | [], _ =>
      rw [stnD_len (by simp)] at hR
      (row_room_at pv_go__law_is_state; row_room_at pv_end)
    | [a], _ =>
      rw [stnD_len (by simp)] at hR
      (row_room_at pv_go__law_is_state; row_room_at pv_end)
    | [a, b], _ =>
      rw [stnD_len (by simp)] at hR
      (row_room_at pv_go__law_is_state; row_room_at pv_end)
    | a :: b :: c :: e :: r, _ =>
      rw [stnD_len (by simp)] at hR
      (row_room_at pv_go__law_is_state; row_room_at pv_end)
    | [a, b, c], hi =>
      have h1 := hi a List.mem_cons_self
      have h2 := hi b (List.mem_cons_of_mem _ List.mem_cons_self)
      have h3 := hi c (List.mem_cons_of_mem _ (List.mem_cons_of_mem _ List.mem_cons_self))
      clear hi
      rw [stnD_3, ← nm0, ← nm0] at hR
      (row_room_at pv_go__law_is_state; row_room_at pv_end)
      · exact .mk (by rw [show nmB 0 a = true by assumption, show nmB 0 c = true by assumption, Bool.true_and, Bool.and_true])
      · exact .mk (by rw [show nmB 0 a = true by assumption, show nmB 0 c = false by assumption, Bool.and_false, Bool.and_false])
      · exact .mk (by rw [show nmB 0 a = false by assumption]; rfl)
  | _ => (row_room_at pv_go__law_is_state; row_room_at pv_end)

local macro_rules | `(tactic| row_room_at pv_st__law_are_tilts) => `(tactic| ((try ((with_reducible show toEnv _ _); (first | refine toEnv_go rfl ?_ | refine toEnv_gT rfl rfl ?_); row_room_at pv_cl)); (try (conv => whnf)); first | ((with_reducible show _ ∧ _); row_room_at pv_and) | ((with_reducible show ap2 _ _ _ _); row_room_at pv_op2) | ((with_reducible show apN _ _ _); row_room_at pv_opN) | ((with_reducible show ap1 _ _ _); row_room_at pv_op1) | ((with_reducible show ovr _ _); row_room_at pv_ov) | ((with_reducible show ovr2 _ _ _); row_room_at pv_ov2) | ((with_reducible show apP _ _ _); row_room_at pv_cl; first | row_room_at pv_call__law_is_number) | ((with_reducible show apP _ _ _); row_room_at pv_cl; (first | (rw [sd_l]; first | row_room_at pv_call__law_is_number) | (rw [sd_r]; first | row_room_at pv_call__law_is_number))) | row_room_at pv_late))
local macro_rules | `(tactic| row_room_at pv_go__law_are_tilts) => `(tactic| (repeat' row_room_at pv_st__law_are_tilts))
local macro_rules | `(tactic| row_room_at pv_gox__law_are_tilts) => `(tactic| (repeat' ((try ((with_reducible show toEnv _ _); (first | refine toEnv_go rfl ?_ | refine toEnv_gT rfl rfl ?_); row_room_at pv_cl)); (try (conv => whnf)); first | ((with_reducible show _ ∧ _); row_room_at pv_and) | ((with_reducible show ap2 _ _ _ _); row_room_at pv_op2) | ((with_reducible show apN _ _ _); row_room_at pv_opN) | ((with_reducible show ap1 _ _ _); row_room_at pv_op1) | ((with_reducible show ovr _ _); row_room_at pv_ov) | ((with_reducible show ovr2 _ _ _); row_room_at pv_ov2) | ((with_reducible show apP _ _ _); row_room_at pv_cl; first | row_room_at pv_call__law_is_number) | ((with_reducible show apP _ _ _); row_room_at pv_cl; (first | (rw [sd_l]; first | row_room_at pv_call__law_is_number) | (rw [sd_r]; first | row_room_at pv_call__law_is_number))) | row_room_at pv_latex)))
local macro_rules | `(tactic| row_room_at pv_gou__law_are_tilts) => `(tactic| (repeat' (first | (with_reducible refine apF_op ?_) | (with_reducible refine apL_op ?_) | row_room_at pv_st__law_are_tilts)))

def b__law_are_tilts : FS := (fSeq (fIfS (fNot (fTst (fOp1 (oIsi ["list"]) (fVar 0)))) (fRet (fC (.bool false))) fNext) (fSeq (fFor (fSeqI (fVar 0)) (gN 1) (fSeq (fIfS (fOr (fNot (fTst (fOp1 (oIsi ["tuple"]) (fVar 1)))) (fOr (fTst (fOp2 oNe (fOpN (at1 oLen) (fCons (fVar 1) fNil)) (fC (.int 2)))) (fNot (fTst (fOp1 (oIsi ["str"]) (fOp2 oIx (fVar 1) (fC (.int 0)))))))) (fRet (fC (.bool false))) fNext) (fIfS (fOr (fTst (fOp2 oNotIn (fOp2 oIx (fVar 1) (fC (.int 0))) (fOpN oTup (fCons (fC (.str "left")) (fCons (fC (.str "right")) fNil))))) (fNot (fTst (fCall [false, false] ph__law_is_number (fCons (fOp2 oIx (fVar 1) (fC (.int 1))) (fCons (fC (.int 1)) fNil)))))) (fRet (fC (.bool false))) fNext))) (fRet (fC (.bool true)))))

-- USES is_row
-- USES _law_is_number
theorem for_aT {g : FG} {body : FS} {k : Kt} {xs0 : List D} {E0 : Pv.Env} (Inv : List D → Pv.Env → Pv.Env → Prop) (st : Inv xs0 E0 E0)
    (step : ∀ x xs e (N : Pv.Env → Prop), Inv (x :: xs) E0 e → (∀ e', Inv xs E0 e' → N e') → toEnv (fun e1 => body e1 { k with nx := N, ct := N, bk := k.nx }) (g x e)) (fin : ∀ e, Inv [] E0 e → k.nx e) : apF (forGo g body k) xs0 E0 := by
  have := for_st id (g := g) (body := body) (k := k) Inv st step fin
  rwa [List.map_id] at this
theorem tiltB_a2 {a b : D} (h : sideB a = false) : tiltB (.tuple [a, b]) = false := by
  cases b with
  | int n => show (sideB a && decide (0 < n)) = false; rw [h, Bool.false_and]
  | _ => rfl
theorem tiltB_n2 {a b : D} (h : nmB 1 b = false) : tiltB (.tuple [a, b]) = false := by
  cases b with
  | int n =>
    have : ¬ 1 ≤ n := of_decide_eq_false h
    show (sideB a && decide (0 < n)) = false
    rw [decide_eq_false (by omega), Bool.and_false]
  | _ => rfl
@[irreducible] def ph__law_are_tilts : Phi := fun args R => ∃ (t : D) (L M j : Nat), args = [sh t] ∧ (anyP L M j t) ∧ (L ≤ 1000) ∧ R (sh (.bool (rowB t))) []
theorem call__law_are_tilts {t : D}{L M j : Nat} {R : Cell → List Cell → Prop} (ht : anyP L M j t) (hl : Hold (L ≤ 1000)) (q : R (sh (.bool (rowB t))) []) : ph__law_are_tilts [sh t] R := by
  unfold ph__law_are_tilts
  exact ⟨t, L, M, j, rfl, ht, hl.out, q⟩
theorem vc__law_are_tilts (args R) (h : ph__law_are_tilts args R) : b__law_are_tilts (startE 2 args) (defK [false] R) := by
  unfold ph__law_are_tilts at h
  obtain ⟨t, L, M, j, rfl, ht, hl, hR⟩ := h
  cases t with
  | dict kvs => exact (anyP_dict ht).elim
  | list cs =>
    obtain ⟨k3, rfl, hk3, hi3⟩ := anyP_list.mp ht
    (row_room_at pv_go__law_are_tilts; row_room_at pv_end)
    have hno : ∀ x ∈ cs, tiltB x = false → PyData.bool false = PyData.bool (rowB (.list cs)) := fun x hx h => congrArg PyData.bool (by
      show _ = cs.all tiltB
      refine Eq.symm ?_
      rw [List.all_eq_false]
      exact ⟨x, hx, by rw [h]; decide⟩)
    refine for_aT (fun xs E e => ∃ (o1 : Option Cell), (∀ x ∈ xs, x ∈ cs) ∧ rowB (.list cs) = xs.all tiltB ∧ e = E.set 1 o1) ⟨_, fun x h => h, rfl, rfl⟩ (fun x xs e N hI hN => ?_) (fun e hI => ?_)
    · obtain ⟨o1, g1, g2, rfl⟩ := hI
      have hmem := g1 x List.mem_cons_self
      have hF := hno x hmem
      have hx := hi3 x hmem
      clear hno hi3 ht
      rw [List.all_cons] at g2
      row_room_at pv_cl
      cases x with
      | dict kvs => exact (anyP_dict hx).elim
      | tuple es =>
        obtain ⟨k5, rfl, hk5, hi5⟩ := anyP_tup.mp hx
        match es, hi5 with
        | [], _ => (row_room_at pv_go__law_are_tilts; row_room_at pv_end); all_goals exact .mk (congrArg sh (hF (tiltB_len (by simp))))
        | [u], _ => (row_room_at pv_go__law_are_tilts; row_room_at pv_end); all_goals exact .mk (congrArg sh (hF (tiltB_len (by simp))))
        | u :: v :: c :: r, _ => (row_room_at pv_go__law_are_tilts; row_room_at pv_end); all_goals exact .mk (congrArg sh (hF (tiltB_len (by simp))))
        | [u, v], hi5 =>
          have hu := hi5 u List.mem_cons_self
          have hv := hi5 v (List.mem_cons_of_mem _ List.mem_cons_self)
          clear hi5 hx
          cases u with
          | dict kvs => exact (anyP_dict hu).elim
          | str s2 =>
            have hs2 := (anyP_str.mp hu).1
            (row_room_at pv_go__law_are_tilts; row_room_at pv_end)
            refine ⟨dep_shp (n := 1) (strG_flat hs2) (by decide), dep_shp (n := 2) (by decide +kernel) (by decide), ?_⟩
            (row_room_at pv_go__law_are_tilts; row_room_at pv_end)
            all_goals first
              | exact .mk (congrArg sh (hF (tiltB_a2 (by assumption))))
              | exact .mk (congrArg sh (hF (tiltB_n2 (by assumption))))
              | skip
            refine hN _ ⟨_, fun x h => g1 x (List.mem_cons_of_mem _ h), ?_, rfl⟩
            obtain ⟨n, rfl, hn⟩ := nmB_ex (show nmB 1 v = true by assumption)
            rw [g2, show tiltB (.tuple [.str s2, .int n]) = (sideB (.str s2) && decide (0 < n)) from rfl, show sideB (.str s2) = true by assumption, decide_eq_true (by omega)]
            rfl
          | _ => (row_room_at pv_go__law_are_tilts; row_room_at pv_end); all_goals exact .mk (congrArg sh (hF (tiltB_a2 rfl)))
      | _ => (row_room_at pv_go__law_are_tilts; row_room_at pv_end); all_goals exact .mk (congrArg sh (hF rfl))
    · obtain ⟨o1, g1, g2, rfl⟩ := hI
      have g2 : rowB (.list cs) = true := g2
      rw [g2] at hR
      row_room_at pv_cl
      (row_room_at pv_go__law_are_tilts; row_room_at pv_end)
  | _ => (row_room_at pv_go__law_are_tilts; row_room_at pv_end)

local macro_rules | `(tactic| row_room_at pv_call_is_channel) => `(tactic| (refine apP_op (call_is_channel (by row_room_at pv_sd) ?_ ?_); (first | (focus row_room_at pv_hs) | rotate_left)))
local macro_rules | `(tactic| row_room_at pv_call_is_standing) => `(tactic| (refine apP_op (call_is_standing (by row_room_at pv_sd) (by row_room_at pv_sd) ?_ ?_ ?_); (first | (focus row_room_at pv_hs) | rotate_left); (first | (focus row_room_at pv_hs) | rotate_left)))
local macro_rules | `(tactic| row_room_at pv_call_is_row) => `(tactic| (refine apP_op (call_is_row (by row_room_at pv_sd) ?_ ?_); (first | (focus row_room_at pv_hs) | rotate_left)))
local macro_rules | `(tactic| row_room_at pv_call__law_same) => `(tactic| (refine apP_op (call__law_same ?_ ?_ ?_); (first | (focus row_room_at pv_hs) | rotate_left); (first | (focus row_room_at pv_hs) | rotate_left)))
local macro_rules | `(tactic| row_room_at pv_call__law_are_depths) => `(tactic| (refine apP_op (call__law_are_depths (by row_room_at pv_sd) ?_ ?_ ?_); (first | (focus row_room_at pv_hs) | rotate_left); (first | (focus row_room_at pv_hs) | rotate_left)))
local macro_rules | `(tactic| row_room_at pv_call__law_is_state) => `(tactic| (refine apP_op (call__law_is_state (by row_room_at pv_sd) (by row_room_at pv_sd) ?_ ?_ ?_); (first | (focus row_room_at pv_hs) | rotate_left); (first | (focus row_room_at pv_hs) | rotate_left)))
local macro_rules | `(tactic| row_room_at pv_call__law_are_tilts) => `(tactic| (refine apP_op (call__law_are_tilts (by row_room_at pv_sd) ?_ ?_); (first | (focus row_room_at pv_hs) | rotate_left)))
local macro_rules | `(tactic| row_room_at pv_st__law_things_right) => `(tactic| ((try ((with_reducible show toEnv _ _); (first | refine toEnv_go rfl ?_ | refine toEnv_gT rfl rfl ?_); row_room_at pv_cl)); (try (conv => whnf)); first | ((with_reducible show _ ∧ _); row_room_at pv_and) | ((with_reducible show ap2 _ _ _ _); row_room_at pv_op2) | ((with_reducible show apN _ _ _); row_room_at pv_opN) | ((with_reducible show ap1 _ _ _); row_room_at pv_op1) | ((with_reducible show ovr _ _); row_room_at pv_ov) | ((with_reducible show ovr2 _ _ _); row_room_at pv_ov2) | ((with_reducible show apP _ _ _); row_room_at pv_cl; first | row_room_at pv_call_is_channel | row_room_at pv_call_is_lot | row_room_at pv_call_is_standing | row_room_at pv_call_is_row | row_room_at pv_call__law_same | row_room_at pv_call__law_are_depths | row_room_at pv_call__law_is_held | row_room_at pv_call__law_is_state | row_room_at pv_call__law_are_tilts) | ((with_reducible show apP _ _ _); row_room_at pv_cl; (first | (rw [sd_l]; first | row_room_at pv_call_is_channel | row_room_at pv_call_is_lot | row_room_at pv_call_is_standing | row_room_at pv_call_is_row | row_room_at pv_call__law_same | row_room_at pv_call__law_are_depths | row_room_at pv_call__law_is_held | row_room_at pv_call__law_is_state | row_room_at pv_call__law_are_tilts) | (rw [sd_r]; first | row_room_at pv_call_is_channel | row_room_at pv_call_is_lot | row_room_at pv_call_is_standing | row_room_at pv_call_is_row | row_room_at pv_call__law_same | row_room_at pv_call__law_are_depths | row_room_at pv_call__law_is_held | row_room_at pv_call__law_is_state | row_room_at pv_call__law_are_tilts))) | row_room_at pv_late))
local macro_rules | `(tactic| row_room_at pv_go__law_things_right) => `(tactic| (repeat' row_room_at pv_st__law_things_right))
local macro_rules | `(tactic| row_room_at pv_gox__law_things_right) => `(tactic| (repeat' ((try ((with_reducible show toEnv _ _); (first | refine toEnv_go rfl ?_ | refine toEnv_gT rfl rfl ?_); row_room_at pv_cl)); (try (conv => whnf)); first | ((with_reducible show _ ∧ _); row_room_at pv_and) | ((with_reducible show ap2 _ _ _ _); row_room_at pv_op2) | ((with_reducible show apN _ _ _); row_room_at pv_opN) | ((with_reducible show ap1 _ _ _); row_room_at pv_op1) | ((with_reducible show ovr _ _); row_room_at pv_ov) | ((with_reducible show ovr2 _ _ _); row_room_at pv_ov2) | ((with_reducible show apP _ _ _); row_room_at pv_cl; first | row_room_at pv_call_is_channel | row_room_at pv_call_is_lot | row_room_at pv_call_is_standing | row_room_at pv_call_is_row | row_room_at pv_call__law_same | row_room_at pv_call__law_are_depths | row_room_at pv_call__law_is_held | row_room_at pv_call__law_is_state | row_room_at pv_call__law_are_tilts) | ((with_reducible show apP _ _ _); row_room_at pv_cl; (first | (rw [sd_l]; first | row_room_at pv_call_is_channel | row_room_at pv_call_is_lot | row_room_at pv_call_is_standing | row_room_at pv_call_is_row | row_room_at pv_call__law_same | row_room_at pv_call__law_are_depths | row_room_at pv_call__law_is_held | row_room_at pv_call__law_is_state | row_room_at pv_call__law_are_tilts) | (rw [sd_r]; first | row_room_at pv_call_is_channel | row_room_at pv_call_is_lot | row_room_at pv_call_is_standing | row_room_at pv_call_is_row | row_room_at pv_call__law_same | row_room_at pv_call__law_are_depths | row_room_at pv_call__law_is_held | row_room_at pv_call__law_is_state | row_room_at pv_call__law_are_tilts))) | row_room_at pv_latex)))
local macro_rules | `(tactic| row_room_at pv_gou__law_things_right) => `(tactic| (repeat' (first | (with_reducible refine apF_op ?_) | (with_reducible refine apL_op ?_) | row_room_at pv_st__law_things_right)))

def b__law_things_right : FS := (fSeq (fFor (fSeqI (fVar 1)) (gN 2) (fSeq (fAsg 3 (fOpN (at1 oRepr) (fCons (fVar 2) fNil))) (fSeq (fAsg 4 (fOpN oLst (fCons (fCall [false] ph_is_channel (fCons (fVar 2) fNil)) (fCons (fCall [false, false] ph_is_lot (fCons (fVar 0) (fCons (fVar 2) fNil))) (fCons (fCall [false, false] ph_is_standing (fCons (fOpN (at1 oList) (fCons (fVar 0) fNil)) (fCons (fVar 2) fNil))) (fCons (fCall [false] ph_is_row (fCons (fVar 2) fNil)) fNil)))))) (fSeq (fAsg 5 (fOpN oLst (fCons (fCall [false] ph__law_are_depths (fCons (fVar 2) fNil)) (fCons (fCall [false, false] ph__law_is_held (fCons (fVar 0) (fCons (fVar 2) fNil))) (fCons (fCall [false, false] ph__law_is_state (fCons (fVar 0) (fCons (fVar 2) fNil))) fNil))))) (fIfS (fOr (fNot (fTst (fCall [false, false] ph__law_same (fCons (fVar 4) (fCons (fOp2 oAdd (fVar 5) (fOpN oLst (fCons (fCall [false] ph__law_are_tilts (fCons (fVar 2) fNil)) fNil))) fNil))))) (fTst (fOp2 oNe (fOpN (at1 oRepr) (fCons (fVar 2) fNil)) (fVar 3)))) (fRet (fC (.bool false))) fNext))))) (fRet (fC (.bool true))))

-- USES _law_are_depths
-- USES _law_is_held
-- USES _law_is_state
-- USES _law_are_tilts
-- USES is_channel
-- USES is_lot
-- USES is_standing
-- USES is_row
theorem for_kD {g : FG} {body : FS} {k : Kt} {xs0 : List D} {E0 : Pv.Env} (Inv : List D → Pv.Env → Pv.Env → Prop) (st : Inv xs0 E0 E0)
    (step : ∀ x xs e (kk : Kt), kk.rt = k.rt → kk.bk = k.nx → Inv (x :: xs) E0 e → (∀ e', Inv xs E0 e' → kk.nx e') → toEnv (fun e1 => body e1 kk) (g x e)) (fin : ∀ e, Inv [] E0 e → k.nx e) : apF (forGo g body k) xs0 E0 := by
  have := for_sk id (g := g) (body := body) (k := k) Inv st step fin
  rwa [List.map_id] at this
@[irreducible] def ph__law_things_right : Phi := fun args R => ∃ (d : D) (ws : List Int) (ms : List D), args = [sh d, sh (.list ms)] ∧ (Ints d ws) ∧ (∀ m ∈ ms, anyP 10 (10 ^ 13 + 2) 4 m) ∧ (ws.length ≤ 100) ∧ (ms.length ≤ 1000) ∧ R (sh (.bool true)) []
theorem call__law_things_right {d : D}{ws : List Int}{ms : List D} {R : Cell → List Cell → Prop} (hd : Ints d ws) (hm : ∀ m ∈ ms, anyP 10 (10 ^ 13 + 2) 4 m) (hn : Hold (ws.length ≤ 100)) (hl : Hold (ms.length ≤ 1000)) (q : R (sh (.bool true)) []) : ph__law_things_right [sh d, sh (.list ms)] R := by
  unfold ph__law_things_right
  exact ⟨d, ws, ms, rfl, hd, hm, hn.out, hl.out, q⟩
theorem vc__law_things_right (args R) (h : ph__law_things_right args R) : b__law_things_right (startE 6 args) (defK [false, false] R) := by
  unfold ph__law_things_right at h
  obtain ⟨d, ws, ms, rfl, hd, hm, hn, hl, hR⟩ := h
  (row_room_at pv_go__law_things_right; row_room_at pv_end)
  refine for_kD (fun xs E e' => ∃ (o2 o3 o4 o5 : Option Cell), (∀ d ∈ xs, d ∈ ms) ∧ e' = [some (sh d), some (sh (.list ms)), o2, o3, o4, o5]) ⟨_, _, _, _, fun d h => h, rfl⟩ (fun x xs e' kk hrt hbk hI hN => ?_) (fun e' hI => ?_)
  · obtain ⟨o2, o3, o4, o5, f1, rfl⟩ := hI
    have hx1 := hm x (f1 x List.mem_cons_self)
    have hrp := (anyP_rep (by decide) _ _ hx1).a (by decide +kernel)
    row_room_at pv_cl
    (row_room_at pv_go__law_things_right; row_room_at pv_end)
    · exact hN _ ⟨_, _, _, _, fun d h => f1 d (List.mem_cons_of_mem _ h), rfl⟩
    exact .mk (by row_room_at pv_ok)
  · obtain ⟨o2, o3, o4, o5, f1, rfl⟩ := hI
    (row_room_at pv_go__law_things_right; row_room_at pv_end)

local macro_rules | `(tactic| row_room_at pv_call__law_wire) => `(tactic| (refine apP_op (call__law_wire (by row_room_at pv_sd) ?_ ?_ ?_ (fun ws x' hw hw1 hw2 hw3 hw4 hx' => ?_)); (first | (focus row_room_at pv_hs) | rotate_left); (first | (focus row_room_at pv_hs) | rotate_left); (first | (focus row_room_at pv_hs) | rotate_left)))
local macro_rules | `(tactic| row_room_at pv_call__law_power) => `(tactic| (refine apP_op (call__law_power (by row_room_at pv_sd) (by row_room_at pv_sd) ?_ (by row_room_at pv_sd) ?_ (by row_room_at pv_sd) (fun s x' hs hs2 hx' => ?_)); (first | (focus row_room_at pv_hs) | rotate_left); (first | (focus row_room_at pv_hs) | rotate_left)))
local macro_rules | `(tactic| row_room_at pv_call__law_any) => `(tactic| (refine apP_op (call__law_any (by row_room_at pv_sd) (by row_room_at pv_sd) ?_ ?_ ?_ ?_ (fun y x' hy hy1 hy2 hx' => ?_)); (first | (focus row_room_at pv_hs) | rotate_left); (first | (focus row_room_at pv_hs) | rotate_left); (first | (focus row_room_at pv_hs) | rotate_left); (first | (focus row_room_at pv_hs) | rotate_left)))
local macro_rules | `(tactic| row_room_at pv_call__law_bent) => `(tactic| (refine apP_op (call__law_bent (by row_room_at pv_sd) (by row_room_at pv_sd) ?_ ?_ ?_ ?_ ?_ ?_ (fun q d' x' hd' hx' => ?_)); (first | (focus row_room_at pv_hs) | rotate_left); (first | (focus row_room_at pv_hs) | rotate_left); (first | (focus row_room_at pv_hs) | rotate_left); (first | (focus row_room_at pv_hs) | rotate_left); (first | (focus row_room_at pv_hs) | rotate_left); (first | (focus row_room_at pv_hs) | rotate_left)))
local macro_rules | `(tactic| row_room_at pv_call__law_things_right) => `(tactic| (refine apP_op (call__law_things_right (by row_room_at pv_sd) (by row_room_at pv_sd) ?_ ?_ ?_); (first | (focus row_room_at pv_hs) | rotate_left); (first | (focus row_room_at pv_hs) | rotate_left)))
local macro_rules | `(tactic| row_room_at pv_st__law_right) => `(tactic| ((try ((with_reducible show toEnv _ _); (first | refine toEnv_go rfl ?_ | refine toEnv_gT rfl rfl ?_); row_room_at pv_cl)); (try (conv => whnf)); first | ((with_reducible show _ ∧ _); row_room_at pv_and) | ((with_reducible show ap2 _ _ _ _); row_room_at pv_op2) | ((with_reducible show apN _ _ _); row_room_at pv_opN) | ((with_reducible show ap1 _ _ _); row_room_at pv_op1) | ((with_reducible show ovr _ _); row_room_at pv_ov) | ((with_reducible show ovr2 _ _ _); row_room_at pv_ov2) | ((with_reducible show apP _ _ _); row_room_at pv_cl; first | row_room_at pv_call_is_channel | row_room_at pv_call_is_lot | row_room_at pv_call_is_standing | row_room_at pv_call_is_row | row_room_at pv_call__law_take | row_room_at pv_call__law_ofS | row_room_at pv_call__law_of | row_room_at pv_call__law_ofM | row_room_at pv_call__law_same | row_room_at pv_call__law_wire | row_room_at pv_call__law_power | row_room_at pv_call__law_any | row_room_at pv_call__law_bent | row_room_at pv_call__law_things_right) | ((with_reducible show apP _ _ _); row_room_at pv_cl; (first | (rw [sd_l]; first | row_room_at pv_call_is_channel | row_room_at pv_call_is_lot | row_room_at pv_call_is_standing | row_room_at pv_call_is_row | row_room_at pv_call__law_take | row_room_at pv_call__law_ofS | row_room_at pv_call__law_of | row_room_at pv_call__law_ofM | row_room_at pv_call__law_same | row_room_at pv_call__law_wire | row_room_at pv_call__law_power | row_room_at pv_call__law_any | row_room_at pv_call__law_bent | row_room_at pv_call__law_things_right) | (rw [sd_r]; first | row_room_at pv_call_is_channel | row_room_at pv_call_is_lot | row_room_at pv_call_is_standing | row_room_at pv_call_is_row | row_room_at pv_call__law_take | row_room_at pv_call__law_ofS | row_room_at pv_call__law_of | row_room_at pv_call__law_ofM | row_room_at pv_call__law_same | row_room_at pv_call__law_wire | row_room_at pv_call__law_power | row_room_at pv_call__law_any | row_room_at pv_call__law_bent | row_room_at pv_call__law_things_right))) | row_room_at pv_late))
local macro_rules | `(tactic| row_room_at pv_go__law_right) => `(tactic| (repeat' row_room_at pv_st__law_right))
local macro_rules | `(tactic| row_room_at pv_gox__law_right) => `(tactic| (repeat' ((try ((with_reducible show toEnv _ _); (first | refine toEnv_go rfl ?_ | refine toEnv_gT rfl rfl ?_); row_room_at pv_cl)); (try (conv => whnf)); first | ((with_reducible show _ ∧ _); row_room_at pv_and) | ((with_reducible show ap2 _ _ _ _); row_room_at pv_op2) | ((with_reducible show apN _ _ _); row_room_at pv_opN) | ((with_reducible show ap1 _ _ _); row_room_at pv_op1) | ((with_reducible show ovr _ _); row_room_at pv_ov) | ((with_reducible show ovr2 _ _ _); row_room_at pv_ov2) | ((with_reducible show apP _ _ _); row_room_at pv_cl; first | row_room_at pv_call_is_channel | row_room_at pv_call_is_lot | row_room_at pv_call_is_standing | row_room_at pv_call_is_row | row_room_at pv_call__law_take | row_room_at pv_call__law_ofS | row_room_at pv_call__law_of | row_room_at pv_call__law_ofM | row_room_at pv_call__law_same | row_room_at pv_call__law_wire | row_room_at pv_call__law_power | row_room_at pv_call__law_any | row_room_at pv_call__law_bent | row_room_at pv_call__law_things_right) | ((with_reducible show apP _ _ _); row_room_at pv_cl; (first | (rw [sd_l]; first | row_room_at pv_call_is_channel | row_room_at pv_call_is_lot | row_room_at pv_call_is_standing | row_room_at pv_call_is_row | row_room_at pv_call__law_take | row_room_at pv_call__law_ofS | row_room_at pv_call__law_of | row_room_at pv_call__law_ofM | row_room_at pv_call__law_same | row_room_at pv_call__law_wire | row_room_at pv_call__law_power | row_room_at pv_call__law_any | row_room_at pv_call__law_bent | row_room_at pv_call__law_things_right) | (rw [sd_r]; first | row_room_at pv_call_is_channel | row_room_at pv_call_is_lot | row_room_at pv_call_is_standing | row_room_at pv_call_is_row | row_room_at pv_call__law_take | row_room_at pv_call__law_ofS | row_room_at pv_call__law_of | row_room_at pv_call__law_ofM | row_room_at pv_call__law_same | row_room_at pv_call__law_wire | row_room_at pv_call__law_power | row_room_at pv_call__law_any | row_room_at pv_call__law_bent | row_room_at pv_call__law_things_right))) | row_room_at pv_latex)))
local macro_rules | `(tactic| row_room_at pv_gou__law_right) => `(tactic| (repeat' (first | (with_reducible refine apF_op ?_) | (with_reducible refine apL_op ?_) | row_room_at pv_st__law_right)))

def b__law_right : FS := (fSeq (fAsg 1 (fCall [true, false] ph__law_wire (fCons (fVar 0) (fCons (fC (.int 8)) fNil)))) (fSeq (fAsg 2 (fCall [true, false, false] ph__law_any (fCons (fVar 0) (fCons (fVar 1) (fCons (fC (.int 5)) fNil))))) (fSeq (fAsg 3 (fLc [5] (fRange1 (fCons (fCall [true, false] ph__law_take (fCons (fVar 0) (fCons (fC (.int 4)) fNil))) fNil)) (gN 5) fYes (fOpN oTup (fCons (fCall [true, false] ph__law_of (fCons (fVar 0) (fCons (fOpN oLst (fCons (fC (.str "left")) (fCons (fC (.str "right")) fNil))) fNil))) (fCons (fCall [true, false] ph__law_power (fCons (fVar 0) (fCons (fVar 1) fNil))) fNil))))) (fSeq (fAsgO 4 (fOpN oLst (fCons (fVar 1) (fCons (fVar 2) (fCons (fOp2 oIx (fVar 2) (fC (.int 1))) (fCons (fVar 3) (fCons (fOpN oTup fNil) (fCons (fOpN oLst fNil) (fCons (fC .none) (fCons (fC (.bool true)) (fCons (fC (.int 0)) (fCons (fC (.str "right")) (fCons (fOpN oTup (fCons (fOpN oTup fNil) fNil)) (fCons (fOpN oLst (fCons (fOpN oTup fNil) fNil)) (fCons (fOpN oTup (fCons (fC (.int 0)) (fCons (fOpN oTup fNil) (fCons (fC (.int 0)) fNil)))) (fCons (fOpN oTup (fCons (fC (.int 1)) fNil)) (fCons (fOpN oTup (fCons (fC (.int 1)) (fCons (fC (.int 1)) fNil))) (fCons (fOpN oTup (fCons (fC (.int 0)) fNil)) fNil)))))))))))))))))) (fSeq (fAsgO 4 (fOp2 oAdd (fVar 4) (fOpN oLst (fCons (fOpN oTup (fCons (fC (.str "right")) (fCons (fC (.int 1)) fNil))) (fCons (fOpN oLst (fCons (fOpN oTup (fCons (fC (.str "right")) (fCons (fC (.int 0)) fNil))) fNil)) (fCons (fOpN oLst (fCons (fOpN oTup (fCons (fC (.str "right")) (fCons (fC (.int 1)) fNil))) fNil)) (fCons (fOpN oLst (fCons (fOpN oLst (fCons (fC (.str "left")) (fCons (fC (.int 2)) fNil))) fNil)) (fCons (fOpN oTup (fCons (fOpN (at1 oLen) (fCons (fVar 1) fNil)) fNil)) (fCons (fOpN oTup (fCons (fOp2 oSub (fOpN (at1 oLen) (fCons (fVar 1) fNil)) (fC (.int 1))) fNil)) fNil))))))))) (fSeq (fFor (fRange1 (fCons (fC (.int 6)) fNil)) (gN 5) (fFor (fSeqI (fOpN oTup (fCons (fVar 1) (fCons (fVar 2) (fCons (fOp2 oIx (fVar 2) (fC (.int 1))) (fCons (fVar 3) fNil)))))) (gN 6) (fSeq (fAsg 7 (fCall [true, false] ph__law_bent (fCons (fVar 0) (fCons (fVar 6) fNil)))) (fDrop (fMth 4 mAppend (fCons (fIf (fTst (fOp2 oEq (fCall [true, false] ph__law_take (fCons (fVar 0) (fCons (fC (.int 3)) fNil))) (fC (.int 0)))) (fCall [true, false] ph__law_bent (fCons (fVar 0) (fCons (fVar 7) fNil))) (fVar 7)) fNil)))))) (fSeq (fAsg 8 (fOpN oLst (fCons (fCallK 0 1 [0] ph_is_channel fNil (fCons (fVar 1) fNil)) (fCons (fCallK 0 2 [1, 0] ph_is_lot fNil (fCons (fOp2 oIx (fVar 2) (fC (.int 1))) (fCons (fVar 1) fNil))) (fCons (fCallK 0 2 [1, 0] ph_is_standing fNil (fCons (fVar 2) (fCons (fVar 1) fNil))) fNil))))) (fRet (fAndV (fCall [false, false] ph__law_same (fCons (fVar 8) (fCons (fOp2 oMulA (fOpN oLst (fCons (fC (.bool true)) fNil)) (fC (.int 3))) fNil))) (fAndV (fOp2 oIsB (fCallK 0 1 [0] ph_is_row fNil (fCons (fVar 3) fNil)) (fC (.bool true))) (fCall [false, false] ph__law_things_right (fCons (fVar 1) (fCons (fFz 4) fNil)))))))))))))

-- USES _law_things_right
-- USES _law_bent
theorem chan_ok {ws : List Int} (h0 : 0 < ws.length) (h1 : ws.Nodup) (h2 : ∀ w ∈ ws, 1 ≤ w) : chanD (.tuple (ws.map .int)) = true := by
  rw [chan_nm (fun z => by rw [List.map_eq_nil_iff.mp z] at h0; cases h0), show (ws.map PyData.int).map iOf = ws by rw [List.map_map]; exact List.map_id ws, decide_eq_true h1, Bool.and_true, List.all_map, List.all_eq_true]
  exact fun w hw => decide_eq_true (h2 w hw)
theorem lot_ok {n : Nat} {lot : List Int} (h1 : lot.Pairwise (· < ·)) (h2 : ∀ p ∈ lot, 0 ≤ p ∧ p < (n : Int)) : lotD n (.tuple (lot.map .int)) = true := by
  rw [lotD_i (by rw [List.all_map, List.all_eq_true]; exact fun p hp => Bool.and_eq_true_iff.mpr ⟨decide_eq_true (h2 p hp).1, decide_eq_true (h2 p hp).2⟩)]
  exact risB_iff.mpr h1
theorem stn_ok {n : Nat} {y : Tr} (h : okS n y) : stnD n (dS y) = true := by
  obtain ⟨a1, a2, a3, a4⟩ := h
  show stnD n (.tuple [.int y.1, .tuple (y.2.1.map .int), .int y.2.2]) = true
  rw [stnD_3, lot_ok a3 a4, show cntB (.int y.1) = true from decide_eq_true a1, show cntB (.int y.2.2) = true from decide_eq_true a2]; rfl
theorem row_ok {row : List (Bool × Int)} (h : ∀ p ∈ row, 1 ≤ p.2) : rowB (.list (row.map prT)) = true := by
  show (row.map prT).all tiltB = true
  rw [List.all_map, List.all_eq_true]
  intro p hp
  have := h p hp
  show (sideB (.str (sideS p.1)) && decide (0 < p.2)) = true
  rw [decide_eq_true (show 0 < p.2 by omega), Bool.and_true]
  cases p.1 <;> decide +kernel
theorem tupI_any {L M j : Nat} {ws : List Int} (h : ws.length ≤ L) (h2 : ∀ w ∈ ws, w.natAbs ≤ M) : anyP L M (j + 1) (.tuple (ws.map .int)) := ⟨by rw [List.length_map]; exact h, fun d hd => by obtain ⟨w, hw, rfl⟩ := List.mem_map.mp hd; exact anyP_int.mpr (h2 w hw)⟩
theorem row_any {L M j : Nat} {row : List (Bool × Int)} (h : row.length ≤ L) (hL : 2 ≤ L) (h2 : ∀ p ∈ row, p.2.natAbs ≤ M) : anyP L M (j + 2) (.list (row.map prT)) := ⟨by rw [List.length_map]; exact h, fun d hd => by
  obtain ⟨p, hp, rfl⟩ := List.mem_map.mp hd
  refine ⟨hL, fun d hd => ?_⟩
  rcases List.mem_cons.mp hd with rfl | hd
  · exact anyP_str.mpr ⟨by cases p.1 <;> decide +kernel, by cases p.1 <;> decide +kernel⟩
  · rw [List.mem_singleton.mp hd]; exact anyP_int.mpr (h2 p hp)⟩
theorem st_any {L M j n : Nat} {y : Tr} (h : okS n y) (hL : 3 ≤ L) (hn : n ≤ L) (hM : n ≤ M) (h1 : y.1.natAbs ≤ M) (h2 : y.2.2.natAbs ≤ M) : anyP L M (j + 2) (dS y) := ⟨hL, fun d hd => by
  have hl := okS.len h
  have hb := h.2.2.2
  rcases List.mem_cons.mp hd with rfl | hd
  · exact anyP_int.mpr h1
  · rcases List.mem_cons.mp hd with rfl | hd
    · exact tupI_any (by omega) fun p hp => by have := hb p hp; omega
    · rw [List.mem_singleton.mp hd]; exact anyP_int.mpr h2⟩
theorem an_nil {P : D → Prop} : ∀ d ∈ ([] : List D), P d := fun _ h => nomatch h
theorem an_cons {P : D → Prop} {e : D} {ds : List D} (h : P e) (t : ∀ d ∈ ds, P d) : ∀ d ∈ e :: ds, P d := fun d hd => (List.mem_cons.mp hd).elim (fun z => z ▸ h) (t d)
theorem an_tup {L M j : Nat} {ds : List D} (h : ds.length ≤ L) (t : ∀ d ∈ ds, anyP L M j d) : anyP L M (j + 1) (.tuple ds) := ⟨h, t⟩
theorem an_list {L M j : Nat} {ds : List D} (h : ds.length ≤ L) (t : ∀ d ∈ ds, anyP L M j d) : anyP L M (j + 1) (.list ds) := ⟨h, t⟩
theorem vc__law_right (args R) (h : ph__law_right args R) : b__law_right (startE 9 args) (defK [true] R) := by
  obtain ⟨x, rfl, hx, hR⟩ := h
  obtain ⟨xd, rfl⟩ := hx.ex
  have hx : Bk (2 ^ 58) (ow xd) := .of hx (by decide)
  (row_room_at pv_go__law_right; row_room_at pv_end)
  refine lc_st .int (fun xs acc E e => ∃ (row : List (Bool × Int)) (z : D), acc = row.map prT ∧ (row.length : Int) + xs.length = t ∧ (∀ p ∈ row, 1 ≤ p.2 ∧ p.2 < 10 ^ 13) ∧ Bk (12 * xs.length + 1000000) (ow z) ∧ e = E.set 0 (some (ow z))) ⟨[], _, rfl, by rw [irange_len]; simp; omega, fun p hp => (by cases hp), Bk.le hx' (by rw [irange_len]; omega), rfl⟩ (fun xs acc e h => ?_) (fun x xs acc e N hI hN => ?_) (fun acc e hI => ?_)
  · obtain ⟨row, z, rfl, e1, e2, e3, rfl⟩ := h
    trivial
  · obtain ⟨row, z, rfl, e1, e2, e3, rfl⟩ := hI
    rw [List.length_cons] at e1 e3
    row_room_at pv_cl
    (row_room_at pv_go__law_right; row_room_at pv_end)
    refine hN _ _ ⟨row ++ [(b, s)], x', by rw [List.map_append]; rfl, by rw [List.length_append, List.length_singleton]; omega, fun p hp => ?_, Bk.le hx' (by omega), rfl⟩
    rcases List.mem_append.mp hp with h | h
    · exact e2 p h
    · rw [List.mem_singleton.mp h]; exact ⟨hs, hs2⟩
  · obtain ⟨row, z, rfl, e1, e2, e3, rfl⟩ := hI
    rw [List.length_nil] at e1 e3
    have hw13 : ∀ w ∈ ws, 1 ≤ w ∧ w < 10 ^ 13 := fun w h => ⟨(hw.2.2.2 w h).1, by have := hw4 w h; omega⟩
    have hc1 := chan_ok hw1 hw.2.2.1 fun w h => (hw13 w h).1
    have hc2 := lot_ok hy.2.2.1 hy.2.2.2
    have hc3 := stn_ok hy
    have hc4 := row_ok fun p hp => (e2 p hp).1
    have hl := okS.len hy
    have hy0 := hy.1
    have hy9 := hy.2.1
    have hyb := hy.2.2.2
    have A1 : ∀ {L M j : Nat}, 8 ≤ L → 10 ^ 13 ≤ M → anyP L M (j + 1) (.tuple (ws.map .int)) := fun h1 h2 => tupI_any (by omega) fun w h => by have := hw13 w h; omega
    have A2 : ∀ {L M j : Nat}, 8 ≤ L → 10 ^ 13 ≤ M → anyP L M (j + 2) (dS y) := fun h1 h2 => st_any hy (by omega) (by omega) (by omega) (by omega) (by omega)
    have A3 : ∀ {L M j : Nat}, 8 ≤ L → 10 ^ 13 ≤ M → anyP L M (j + 1) (.tuple (y.2.1.map .int)) := fun h1 h2 => tupI_any (by omega) fun w h => by have := hyb w h; omega
    have A4 : ∀ {L M j : Nat}, 8 ≤ L → 10 ^ 13 ≤ M → anyP L M (j + 2) (.list (row.map prT)) := fun h1 h2 => row_any (by omega) (by omega) fun p h => by have := e2 p h; omega
    have A5 : ∀ {L M j : Nat} {i : Int}, 8 ≤ L → 10 ^ 13 ≤ M → i.natAbs ≤ 8 → anyP L M (j + 1) (.tuple [.int i]) := fun h1 h2 h3 => tupI_any (ws := [_]) (by show 1 ≤ _; omega) fun w h => by rw [List.mem_singleton.mp h]; omega
    clear hx
    row_room_at pv_cl
    (row_room_at pv_go__law_right; row_room_at pv_end)
    refine for_st .int (fun xs E e' => ∃ (ms : List D) (z : D) (o5 o6 o7 o8 : Option Cell), ms.length + 4 * xs.length ≤ 46 ∧ (∀ m ∈ ms, anyP 10 (10 ^ 13 + 2) 4 m) ∧ Bk (xs.length * 400 + 1000) (ow z) ∧ e' = [some (ow z), some (sh (.tuple (ws.map .int))), some (sh (dS y)), some (sh (.list (row.map prT))), some ⟨1, .list ms⟩, o5, o6, o7, o8]) ⟨_, _, _, _, _, _, ?_, ?_, Bk.le e3 (by rw [irange_len]; omega), rfl⟩ (fun x xs e' N hI hN => ?_) (fun e' hI => ?_)
    · rw [irange_len]; exact Nat.le_refl 46
    · intro m hm
      simp only [List.cons_append, List.nil_append, List.mem_cons, List.not_mem_nil, or_false] at hm
      rcases hm with rfl | rfl | rfl | rfl | rfl | rfl | rfl | rfl | rfl | rfl | rfl | rfl | rfl | rfl | rfl | rfl | rfl | rfl | rfl | rfl | rfl | rfl
      all_goals (repeat' first
        | exact A1 (by decide) (Nat.le_add_right _ _) | exact A2 (by decide) (Nat.le_add_right _ _) | exact A3 (by decide) (Nat.le_add_right _ _) | exact A4 (by decide) (Nat.le_add_right _ _) | exact A5 (by decide) (Nat.le_add_right _ _) (by omega)
        | exact anyP_non | exact anyP_bl | exact anyP_int.mpr (by decide +kernel) | exact anyP_str.mpr ⟨by decide +kernel, by decide +kernel⟩
        | exact an_nil | refine an_cons ?_ ?_ | refine an_tup (by decide) ?_ | refine an_list (by decide) ?_)
      all_goals trace_state
    · obtain ⟨ms, z, o5, o6, o7, o8, g1, g2, g3, rfl⟩ := hI
      rw [List.length_cons] at g1 g3
      row_room_at pv_cl
      (row_room_at pv_go__law_right; row_room_at pv_end)
      refine for_kD (fun us E e' => ∃ (ns : List D) (z : D) (q6 q7 q8 : Option Cell), ns.length + us.length + 4 * xs.length ≤ 46 ∧ (∀ m ∈ ns, anyP 10 (10 ^ 13 + 2) 4 m) ∧ (∀ u ∈ us, anyP 8 (10 ^ 13) 2 u) ∧ Bk (us.length * 100 + xs.length * 400 + 1000) (ow z) ∧ e' = [some (ow z), some (sh (.tuple (ws.map .int))), some (sh (dS y)), some (sh (.list (row.map prT))), some ⟨1, .list ns⟩, some (sh (.int x)), q6, q7, q8]) ⟨_, _, _, _, _, ?_, g2, ?_, Bk.le g3 (by simp only [List.length_cons, List.length_nil]; omega), rfl⟩ (fun u us e' kk hrt hbk hI hM => ?_) (fun e' hI => ?_)
      · simp only [List.length_cons, List.length_nil]; omega
      · exact an_cons (A1 (by decide) (Nat.le_refl _)) (an_cons (A2 (by decide) (Nat.le_refl _)) (an_cons (A3 (by decide) (Nat.le_refl _)) (an_cons (A4 (by decide) (Nat.le_refl _)) an_nil)))
      · obtain ⟨ns, z, q6, q7, q8, f1, f2, f3, f4, rfl⟩ := hI
        rw [List.length_cons] at f1 f4
        have hu := f3 u List.mem_cons_self
        have f3 := fun v h => f3 v (List.mem_cons_of_mem _ h)
        have hM : ∀ (d : D) (z : D) (q6 q7 q8 : Option Cell), anyP 10 (10 ^ 13 + 2) 4 d → Bk (us.length * 100 + xs.length * 400 + 1000) (ow z) → kk.nx [some (ow z), some (sh (.tuple (ws.map .int))), some (sh (dS y)), some (sh (.list (row.map prT))), some ⟨1, .list (ns ++ [d])⟩, some (sh (.int x)), q6, q7, q8] := fun d z q6 q7 q8 hd hz => hM _ ⟨_, z, _, _, _, by rw [List.length_append, List.length_singleton]; omega, fun m hm => (List.mem_append.mp hm).elim (f2 m) fun h => by rw [List.mem_singleton.mp h]; exact hd, f3, hz, rfl⟩
        clear hN A1 A2 A3 A4 A5 hc1 hc2 hc3 hc4 hyb hw13
        row_room_at pv_cl
        (row_room_at pv_go__law_right; row_room_at pv_end)
        · exact hM d' x' _ _ _ hd' (Bk.le hx' (by omega))
        · exact hM d' x' _ _ _ (anyP_mono (L := 9) (M := 10 ^ 13 + 1) (L' := 10) (M' := 10 ^ 13 + 2) (by decide) (Nat.le_succ _) _ _ _ (by decide) hd') (Bk.le hx' (by omega))
      · obtain ⟨ns, z, q6, q7, q8, f1, f2, f3, f4, rfl⟩ := hI
        refine hN _ ⟨_, _, _, _, _, _, by rw [List.length_nil] at f1; omega, f2, Bk.le f4 (by rw [List.length_nil]; omega), rfl⟩
    · obtain ⟨ms, z, o5, o6, o7, o8, g1, g2, g3, rfl⟩ := hI
      rw [List.length_nil] at g1 g3
      have a1 : anyP 8 (10 ^ 13) 2 (.tuple (ws.map .int)) := A1 (by decide) (Nat.le_refl _)
      have a2 : anyP 8 (10 ^ 13) 2 (dS y) := A2 (by decide) (Nat.le_refl _)
      have a3 : anyP 8 (10 ^ 13) 2 (.tuple (y.2.1.map .int)) := A3 (by decide) (Nat.le_refl _)
      have a4 : anyP 8 (10 ^ 13) 2 (.list (row.map prT)) := A4 (by decide) (Nat.le_refl _)
      clear A1 A2 A3 A4 A5 hyb hw13
      row_room_at pv_cl
      (row_room_at pv_go__law_right; row_room_at pv_end)
      · rw [hc4] at hc; cases hc
      · exact .mk (by rw [hc1, hc2, hc3]; rfl)
      · refine .mk ?_
        show okD 7 (.list [.bool true, .bool true, .bool true])
        row_room_at pv_ok

def b_law : FS := (fRet (fOpN (at1 oAll) (fCons (fLc [1] (fRange1 (fCons (fOp2 oAdd (fC (.int 1)) (fOpN (at2 oMin2) (fCons (fC (.int 3)) (fCons (fOpN (at1 oLen) (fCons (fVar 0) fNil)) fNil)))) fNil)) (gN 1) fYes (fCall [true] ph__law_right (fCons (fCall [false, false] ph__law_box (fCons (fVar 0) (fCons (fVar 1) fNil))) fNil))) fNil)))

def ph_law : Phi := fun args R => ∃ ns : List Int, args = [sh (scrD ns)] ∧ ns.length ≤ 63 ∧ R (sh (.bool true)) []
theorem vc_law (args R) (h : ph_law args R) : b_law (startE 2 args) (defK [false] R) := by
  obtain ⟨ns, rfl, hl, hR⟩ := h
  have hz : (2 : Nat) ^ 20 < sizeLine := by decide
  have hsl : ((ns.map fun n => (PyData.none, PyData.int n)).length : Nat) = ns.length := List.length_map _
  (row_room_at pv_ev; row_room_at pv_cl)
  refine ⟨by rw [hsl]; omega, ?_⟩
  (row_room_at pv_ev; row_room_at pv_cl)
  rw [rng_eq]
  refine lc_inv (fun i : Nat => PyData.int (0 + (i : Int))) (fun (xs : List Nat) acc e => ∃ (i k : Nat), xs = List.range' i k ∧ i + k ≤ 100 ∧ acc = (List.replicate i true).map .bool ∧ e = [some (sh (scrD ns)), none]) ?_ (fun i xs acc e N hI hN => ?_) (fun acc e hI => ?_) _ _ _
    ⟨0, _, rfl, ?_, rfl, rfl⟩
  · exact fun _ _ _ _ => trivial
  · obtain ⟨j, k, ex, hjk, rfl, rfl⟩ := hI
    match k, ex with
    | k + 1, ex =>
      rw [List.range'_succ] at ex
      obtain ⟨rfl, rfl⟩ := List.cons.inj ex
      (row_room_at pv_ev; row_room_at pv_cl)
      refine ⟨ns, _, rfl, by omega, by omega, fun x hx => ?_⟩
      obtain ⟨xd, rfl⟩ := hx.ex
      (row_room_at pv_ev; row_room_at pv_cl)
      refine ⟨_, rfl, hx, fun x' => ?_⟩
      (row_room_at pv_ev; row_room_at pv_cl)
      refine ⟨by show ((List.replicate i true).map PyData.bool).length < sizeLine; rw [List.length_map, List.length_replicate]; omega, hN _ _ ⟨i + 1, k, rfl, by omega, ?_, rfl⟩⟩
      rw [List.replicate_succ', List.map_append]
      rfl
  · obtain ⟨j, k, ex, hjk, rfl, rfl⟩ := hI
    (row_room_at pv_ev; row_room_at pv_cl)
    first | refine ⟨trivial, List.replicate j true, rfl, ?_⟩ | refine ⟨List.replicate j true, rfl, ?_⟩
    rw [all_true]
    (row_room_at pv_ev; row_room_at pv_cl)
    exact hR
  · rw [hsl]; omega
theorem law_sp {K : Fg} {H : Hp} {a : Addr} {ns : List Int} {Q : VK} {E : XK} (hS : SqL K H a (ns.map V.int)) (hl : ns.length ≤ 63) (hq : ∀ H', Q (.bl true) H') (hT : Tab0 K H := by first | exact Lw.tab0_no (by kernel_rfl) | assumption) : spOf K [false] ph_law [.ref a] H Q E := sp_of_script hS ⟨ns, rfl, hl, rfl⟩ hq hT

structure Txt (K : PySem.W.Frag) (mg : Str → Option Value) : Prop where
  b_abs : mg "abs" = none
  b_all : mg "all" = none
  b_bool : mg "bool" = none
  b_int : mg "int" = none
  b_isinstance : mg "isinstance" = none
  b_len : mg "len" = none
  b_list : mg "list" = none
  b_max : mg "max" = none
  b_min : mg "min" = none
  b_range : mg "range" = none
  b_repr : mg "repr" = none
  b_set : mg "set" = none
  b_str : mg "str" = none
  b_tuple : mg "tuple" = none
  b_zip : mg "zip" = none
  g_SIDES : ∃ u, mg "SIDES" = some u ∧ KD K u (.tuple [.str "left", .str "right"])

section
variable {P : Program} {w : World} {K : PySem.W.Frag} {mg : Str → Option Value} {base : Heap}
abbrev s_is_number : Stmt := topS 4
theorem sc_is_number : FnScope ["thing"] ["thing"] (defScope s_is_number) := ⟨rfl, rfl, rfl, by decide +kernel, rfl, by decide +kernel, by decide +kernel⟩
theorem ok_is_number {f : Addr} {fd : FuncData} (F : Fun K "is_number" "is_number" s_is_number f fd) (T : Txt K mg) : FnG P w K mg base CX0 (1) f fd ["thing"] (spOf K [false] ph_is_number) := by
  refine fnok_mk (k := 0) F sc_is_number (b_is_number) (fun cdv A outer s H E hr hG => ?_) (fun args R h => vc_is_number args R h)
  have HN : (["thing"] : List Str).Nodup := sc_is_number.nd
  exact (ss_one (ss_ret (se_and (se_isi "int" T.b_isinstance T.b_int (se_var 0)) (se_one (se_not (se_isi "bool" T.b_isinstance T.b_bool (se_var 0)))))))

abbrev s_is_count : Stmt := topS 5
theorem sc_is_count : FnScope ["thing"] ["thing"] (defScope s_is_count) := ⟨rfl, rfl, rfl, by decide +kernel, rfl, by decide +kernel, by decide +kernel⟩
theorem ok_is_count {f : Addr} {fd : FuncData} (F : Fun K "is_count" "is_count" s_is_count f fd) (T : Txt K mg) (c_is_number : Fnc P w K mg base 1 "is_number" [false] ph_is_number) : FnG P w K mg base CX0 (2) f fd ["thing"] (spOf K [false] ph_is_count) := by
  refine fnok_mk (k := 1) F sc_is_count (b_is_count) (fun cdv A outer s H E hr hG => ?_) (fun args R h => vc_is_count args R h)
  have HN : (["thing"] : List Str).Nodup := sc_is_count.nd
  exact (ss_one (ss_ret (se_and (se_call c_is_number hr hG (sa_cons (se_var 0) sa_nil)) (se_one (se_ge (se_var 0) se_int)))))

abbrev s_is_side : Stmt := topS 6
theorem sc_is_side : FnScope ["thing"] ["thing"] (defScope s_is_side) := ⟨rfl, rfl, rfl, by decide +kernel, rfl, by decide +kernel, by decide +kernel⟩
theorem ok_is_side {f : Addr} {fd : FuncData} (F : Fun K "is_side" "is_side" s_is_side f fd) (T : Txt K mg) : FnG P w K mg base CX0 (1) f fd ["thing"] (spOf K [false] ph_is_side) := by
  refine fnok_mk (k := 0) F sc_is_side (b_is_side) (fun cdv A outer s H E hr hG => ?_) (fun args R h => vc_is_side args R h)
  have HN : (["thing"] : List Str).Nodup := sc_is_side.nd
  exact (ss_one (ss_ret (se_and (se_isi "str" T.b_isinstance T.b_str (se_var 0)) (se_one (se_in hr (se_var 0) (se_gk T.g_SIDES))))))

abbrev s_is_rising : Stmt := topS 7
theorem sc_is_rising : FnScope ["things", "at"] ["things"] (defScope s_is_rising) := ⟨rfl, rfl, rfl, by decide +kernel, rfl, by decide +kernel, by decide +kernel⟩
theorem ok_is_rising {f : Addr} {fd : FuncData} (F : Fun K "is_rising" "is_rising" s_is_rising f fd) (T : Txt K mg) : FnG P w K mg base CX0 (1) f fd ["things"] (spOf K [false] ph_is_rising) := by
  refine fnok_mk (k := 0) F sc_is_rising (b_is_rising) (fun cdv A outer s H E hr hG => ?_) (fun args R h => vc_is_rising args R h)
  have HN : (["things", "at"] : List Str).Nodup := sc_is_rising.nd
  exact (ss_one (ss_ret (se_all rfl T.b_all (sa_cons (se_lc (own := [("at", 1)]) rfl HN (si_range1 T.b_range (sa_cons (se_sub (se_len T.b_len (sa_cons (se_var 0) sa_nil)) se_int) sa_nil)) (by exact blkOk_by (N := ["things", "at"]) (sc := defScope s_is_rising) (own := [("at", 1)]) (by decide +kernel)) (fun _ _ _ _ _ => (sg_name 1 HN)) (fun _ _ _ _ _ => sf_nil) (fun _ _ _ _ _ => (se_lt (se_ix (se_var 0) (se_var 1)) (se_ix (se_var 0) (se_add (se_var 1) se_int))))) sa_nil))))

abbrev s_is_channel : Stmt := topS 9
theorem sc_is_channel : FnScope ["thing", "depth"] ["thing"] (defScope s_is_channel) := ⟨rfl, rfl, rfl, by decide +kernel, rfl, by decide +kernel, by decide +kernel⟩
theorem ok_is_channel {f : Addr} {fd : FuncData} (F : Fun K "is_channel" "is_channel" s_is_channel f fd) (T : Txt K mg) (c_is_number : Fnc P w K mg base 1 "is_number" [false] ph_is_number) : FnG P w K mg base CX0 (2) f fd ["thing"] (spOf K [false] ph_is_channel) := by
  refine fnok_mk (k := 1) F sc_is_channel (b_is_channel) (fun cdv A outer s H E hr hG => ?_) (fun args R h => vc_is_channel args R h)
  have HN : (["thing", "depth"] : List Str).Nodup := sc_is_channel.nd
  exact (ss_cons (ss_if (st_of (st_or (st_not (st_val (se_isi "tuple" T.b_isinstance T.b_tuple (se_var 0)))) (st_or (st_eq hr (se_len T.b_len (sa_cons (se_var 0) sa_nil)) se_int) (st_or1 (st_not (st_val (se_all rfl T.b_all (sa_cons (se_lc (own := [("depth", 1)]) rfl HN (si_seq (se_var 0)) (by exact blkOk_by (N := ["thing", "depth"]) (sc := defScope s_is_channel) (own := [("depth", 1)]) (by decide +kernel)) (fun _ _ _ _ _ => (sg_name 1 HN)) (fun _ _ _ _ _ => sf_nil) (fun _ _ _ _ _ => (se_call c_is_number hr hG (sa_cons (se_var 1) sa_nil)))) sa_nil)))))))) (ss_one (ss_ret se_bl)) ss_nil) (ss_one (ss_ret (se_and (se_gt (se_min rfl hr T.b_min (sa_cons (se_var 0) sa_nil)) se_int) (se_one (se_eq hr (se_lenSet rfl T.b_len T.b_set (sa_cons (se_var 0) sa_nil)) (se_len T.b_len (sa_cons (se_var 0) sa_nil))))))))

abbrev s_is_lot : Stmt := topS 10
theorem sc_is_lot : FnScope ["channel", "thing", "pit"] ["channel", "thing"] (defScope s_is_lot) := ⟨rfl, rfl, rfl, by decide +kernel, rfl, by decide +kernel, by decide +kernel⟩
theorem ok_is_lot {f : Addr} {fd : FuncData} (F : Fun K "is_lot" "is_lot" s_is_lot f fd) (T : Txt K mg) (c_is_count : Fnc P w K mg base 2 "is_count" [false] ph_is_count) (c_is_rising : Fnc P w K mg base 1 "is_rising" [false] ph_is_rising) : FnG P w K mg base CX0 (3) f fd ["channel", "thing"] (spOf K [false, false] ph_is_lot) := by
  refine fnok_mk (k := 2) F sc_is_lot (b_is_lot) (fun cdv A outer s H E hr hG => ?_) (fun args R h => vc_is_lot args R h)
  have HN : (["channel", "thing", "pit"] : List Str).Nodup := sc_is_lot.nd
  exact (ss_cons (ss_if (st_of (st_or (st_not (st_val (se_isi "tuple" T.b_isinstance T.b_tuple (se_var 1)))) (st_or1 (st_not (st_val (se_all rfl T.b_all (sa_cons (se_lc (own := [("pit", 2)]) rfl HN (si_seq (se_var 1)) (by exact blkOk_by (N := ["channel", "thing", "pit"]) (sc := defScope s_is_lot) (own := [("pit", 2)]) (by decide +kernel)) (fun _ _ _ _ _ => (sg_name 2 HN)) (fun _ _ _ _ _ => sf_nil) (fun _ _ _ _ _ => (se_and (se_call c_is_count hr hG (sa_cons (se_var 2) sa_nil)) (se_one (se_lt (se_var 2) (se_len T.b_len (sa_cons (se_var 0) sa_nil))))))) sa_nil))))))) (ss_one (ss_ret se_bl)) ss_nil) (ss_one (ss_ret (se_call c_is_rising hr hG (sa_cons (se_var 1) sa_nil)))))

abbrev s_is_standing : Stmt := topS 11
theorem sc_is_standing : FnScope ["channel", "thing"] ["channel", "thing"] (defScope s_is_standing) := ⟨rfl, rfl, rfl, by decide +kernel, rfl, by decide +kernel, by decide +kernel⟩
theorem ok_is_standing {f : Addr} {fd : FuncData} (F : Fun K "is_standing" "is_standing" s_is_standing f fd) (T : Txt K mg) (c_is_count : Fnc P w K mg base 2 "is_count" [false] ph_is_count) (c_is_lot : Fnc P w K mg base 3 "is_lot" [false, false] ph_is_lot) : FnG P w K mg base CX0 (4) f fd ["channel", "thing"] (spOf K [false, false] ph_is_standing) := by
  refine fnok_mk (k := 3) F sc_is_standing (b_is_standing) (fun cdv A outer s H E hr hG => ?_) (fun args R h => vc_is_standing args R h)
  have HN : (["channel", "thing"] : List Str).Nodup := sc_is_standing.nd
  exact (ss_cons (ss_if (st_of (st_or (st_not (st_val (se_isi "tuple" T.b_isinstance T.b_tuple (se_var 1)))) (st_or1 (st_ne hr (se_len T.b_len (sa_cons (se_var 1) sa_nil)) se_int)))) (ss_one (ss_ret se_bl)) ss_nil) (ss_one (ss_ret (se_and (se_call c_is_count hr hG (sa_cons (se_ix (se_var 1) se_int) sa_nil)) (se_and (se_call c_is_lot hr hG (sa_cons (se_var 0) (sa_cons (se_ix (se_var 1) se_int) sa_nil))) (se_one (se_call c_is_count hr hG (sa_cons (se_ix (se_var 1) se_int) sa_nil))))))))

abbrev s_is_tilt : Stmt := topS 13
theorem sc_is_tilt : FnScope ["thing"] ["thing"] (defScope s_is_tilt) := ⟨rfl, rfl, rfl, by decide +kernel, rfl, by decide +kernel, by decide +kernel⟩
theorem ok_is_tilt {f : Addr} {fd : FuncData} (F : Fun K "is_tilt" "is_tilt" s_is_tilt f fd) (T : Txt K mg) (c_is_number : Fnc P w K mg base 1 "is_number" [false] ph_is_number) (c_is_side : Fnc P w K mg base 1 "is_side" [false] ph_is_side) : FnG P w K mg base CX0 (2) f fd ["thing"] (spOf K [false] ph_is_tilt) := by
  refine fnok_mk (k := 1) F sc_is_tilt (b_is_tilt) (fun cdv A outer s H E hr hG => ?_) (fun args R h => vc_is_tilt args R h)
  have HN : (["thing"] : List Str).Nodup := sc_is_tilt.nd
  exact (ss_cons (ss_if (st_of (st_or (st_not (st_val (se_isi "tuple" T.b_isinstance T.b_tuple (se_var 0)))) (st_or1 (st_ne hr (se_len T.b_len (sa_cons (se_var 0) sa_nil)) se_int)))) (ss_one (ss_ret se_bl)) ss_nil) (ss_one (ss_ret (se_and (se_call c_is_side hr hG (sa_cons (se_ix (se_var 0) se_int) sa_nil)) (se_and (se_call c_is_number hr hG (sa_cons (se_ix (se_var 0) se_int) sa_nil)) (se_one (se_gt (se_ix (se_var 0) se_int) se_int)))))))

abbrev s_is_row : Stmt := topS 14
theorem sc_is_row : FnScope ["thing", "tilt"] ["thing"] (defScope s_is_row) := ⟨rfl, rfl, rfl, by decide +kernel, rfl, by decide +kernel, by decide +kernel⟩
theorem ok_is_row {f : Addr} {fd : FuncData} (F : Fun K "is_row" "is_row" s_is_row f fd) (T : Txt K mg) (c_is_tilt : Fnc P w K mg base 2 "is_tilt" [false] ph_is_tilt) : FnG P w K mg base CX0 (3) f fd ["thing"] (spOf K [false] ph_is_row) := by
  refine fnok_mk (k := 2) F sc_is_row (b_is_row) (fun cdv A outer s H E hr hG => ?_) (fun args R h => vc_is_row args R h)
  have HN : (["thing", "tilt"] : List Str).Nodup := sc_is_row.nd
  exact (ss_one (ss_ret (se_and (se_isi "list" T.b_isinstance T.b_list (se_var 0)) (se_one (se_all rfl T.b_all (sa_cons (se_lc (own := [("tilt", 1)]) rfl HN (si_seq (se_var 0)) (by exact blkOk_by (N := ["thing", "tilt"]) (sc := defScope s_is_row) (own := [("tilt", 1)]) (by decide +kernel)) (fun _ _ _ _ _ => (sg_name 1 HN)) (fun _ _ _ _ _ => sf_nil) (fun _ _ _ _ _ => (se_call c_is_tilt hr hG (sa_cons (se_var 1) sa_nil)))) sa_nil))))))

abbrev s__law_cell_at : Stmt := topS 16
theorem sc__law_cell_at : FnScope ["_law_script", "_law_k"] ["_law_script", "_law_k"] (defScope s__law_cell_at) := ⟨rfl, rfl, rfl, by decide +kernel, rfl, by decide +kernel, by decide +kernel⟩
theorem ok__law_cell_at {f : Addr} {fd : FuncData} (F : Fun K "_law_cell_at" "_law_cell_at" s__law_cell_at f fd) (T : Txt K mg) : FnG P w K mg base CX0 (1) f fd ["_law_script", "_law_k"] (spOf K [false, false] ph__law_cell_at) := by
  refine fnok_mk (k := 0) F sc__law_cell_at (b__law_cell_at) (fun cdv A outer s H E hr hG => ?_) (fun args R h => vc__law_cell_at args R h)
  have HN : (["_law_script", "_law_k"] : List Str).Nodup := sc__law_cell_at.nd
  exact (ss_cons (ss_if (st_lt (se_var 1) (se_len T.b_len (sa_cons (se_var 0) sa_nil))) (ss_one (ss_ret (se_ix (se_var 0) (se_var 1)))) ss_nil) (ss_one (ss_ret se_int)))

abbrev s__law_box : Stmt := topS 17
theorem sc__law_box : FnScope ["_law_script", "_law_k", "_law_core"] ["_law_script", "_law_k"] (defScope s__law_box) := ⟨rfl, rfl, rfl, by decide +kernel, rfl, by decide +kernel, by decide +kernel⟩
theorem ok__law_box {f : Addr} {fd : FuncData} (F : Fun K "_law_box" "_law_box" s__law_box f fd) (T : Txt K mg) (c__law_cell_at : Fnc P w K mg base 1 "_law_cell_at" [false, false] ph__law_cell_at) : FnG P w K mg base CX0 (2) f fd ["_law_script", "_law_k"] (spOf K [false, false] ph__law_box) := by
  refine fnok_mk (k := 1) F sc__law_box (b__law_box) (fun cdv A outer s H E hr hG => ?_) (fun args R h => vc__law_box args R h)
  have HN : (["_law_script", "_law_k", "_law_core"] : List Str).Nodup := sc__law_box.nd
  exact (ss_cons (ss_set 2 HN (se_call c__law_cell_at hr hG (sa_cons (se_var 0) (sa_cons (se_var 1) sa_nil)))) (ss_one (ss_ret (se_lst (sa_cons (se_mulA (se_abs T.b_abs (sa_cons (se_var 2) sa_nil)) (se_toInt T.b_int (sa_cons (se_ge (se_abs T.b_abs (sa_cons (se_var 2) sa_nil)) (se_pow se_int se_int)) sa_nil))) (sa_cons (se_add (se_add (se_mod (se_var 2) se_int) (se_mulA se_int (se_var 1))) se_int) (sa_cons se_int sa_nil)))))))

abbrev s__law_take : Stmt := topS 18
theorem sc__law_take : FnScope ["_law_box_here", "_law_span", "_law_found", "_law_once", "_law_twice"] ["_law_box_here", "_law_span"] (defScope s__law_take) := ⟨rfl, rfl, rfl, by decide +kernel, rfl, by decide +kernel, by decide +kernel⟩
theorem ok__law_take {f : Addr} {fd : FuncData} (F : Fun K "_law_take" "_law_take" s__law_take f fd) (T : Txt K mg) : FnG P w K mg base CX0 (1) f fd ["_law_box_here", "_law_span"] (spOf K [true, false] ph__law_take) := by
  refine fnok_mk (k := 0) F sc__law_take (b__law_take) (fun cdv A outer s H E hr hG => ?_) (fun args R h => vc__law_take args R h)
  have HN : (["_law_box_here", "_law_span", "_law_found", "_law_once", "_law_twice"] : List Str).Nodup := sc__law_take.nd
  exact (ss_cons (ss_if (st_gt (se_ix (se_var 0) se_int) se_int) (ss_cons (ss_set 2 HN (se_mod (se_ix (se_var 0) se_int) (se_var 1))) (ss_cons (ss_setIx 0 (se_div (se_ix (se_var 0) se_int) (se_var 1)) se_int) (ss_one (ss_ret (se_var 2))))) ss_nil) (ss_cons (ss_setIx 0 (se_add (se_ix (se_var 0) se_int) se_int) se_int) (ss_cons (ss_set 3 HN (se_mod (se_mulA (se_add (se_ix (se_var 0) se_int) (se_mulA se_int (se_ix (se_var 0) se_int))) (se_add se_int (se_ix (se_var 0) se_int))) se_int)) (ss_cons (ss_set 4 HN (se_mod (se_mulA (se_add (se_add (se_var 3) (se_ix (se_var 0) se_int)) (se_div (se_ix (se_var 0) se_int) se_int)) (se_add (se_mod (se_var 3) se_int) se_int)) se_int)) (ss_one (ss_ret (se_mod (se_div (se_mod (se_add (se_mulA (se_var 4) se_int) (se_var 3)) se_int) se_int) (se_var 1))))))))

abbrev s__law_of : Stmt := topS 19
theorem sc__law_of : FnScope ["_law_box_here", "_law_some"] ["_law_box_here", "_law_some"] (defScope s__law_of) := ⟨rfl, rfl, rfl, by decide +kernel, rfl, by decide +kernel, by decide +kernel⟩
theorem ok__law_of {f : Addr} {fd : FuncData} (F : Fun K "_law_of" "_law_of" s__law_of f fd) (T : Txt K mg) (c__law_take : Fnc P w K mg base 1 "_law_take" [true, false] ph__law_take) : FnG P w K mg base CX0 (2) f fd ["_law_box_here", "_law_some"] (spOf K [true, false] ph__law_of) := by
  refine fnok_mk (k := 1) F sc__law_of (b__law_of) (fun cdv A outer s H E hr hG => ?_) (fun args R h => vc__law_of args R h)
  have HN : (["_law_box_here", "_law_some"] : List Str).Nodup := sc__law_of.nd
  exact (ss_one (ss_ret (se_ix (se_var 1) (se_call c__law_take hr hG (sa_cons (se_var 0) (sa_cons (se_len T.b_len (sa_cons (se_var 1) sa_nil)) sa_nil))))))

abbrev s__law_same : Stmt := topS 20
theorem sc__law_same : FnScope ["_law_found", "_law_due", "_law_a", "_law_b"] ["_law_found", "_law_due"] (defScope s__law_same) := ⟨rfl, rfl, rfl, by decide +kernel, rfl, by decide +kernel, by decide +kernel⟩
theorem ok__law_same {f : Addr} {fd : FuncData} (F : Fun K "_law_same" "_law_same" s__law_same f fd) (T : Txt K mg) {j : Nat} {φ ψ : Phi} (vc : ∀ args R, ψ args R → b__law_same φ (startE 4 args) (defK [false, false] R)) (c__law_same : Fnc P w K mg base (j + 1) "_law_same" [false, false] φ) : FnG P w K mg base CX0 (j + 1 + 1) f fd ["_law_found", "_law_due"] (spOf K [false, false] ψ) := by
  refine fnok_mk (k := j + 1) F sc__law_same (b__law_same φ) (fun cdv A outer s H E hr hG => ?_) (fun args R h => vc args R h)
  have HN : (["_law_found", "_law_due", "_law_a", "_law_b"] : List Str).Nodup := sc__law_same.nd
  exact (ss_cons (ss_if (st_val (se_isiT ["list", "tuple"] T.b_isinstance (se_var 1) (pa_tyC (pa_tyC pa_ty0 T.b_tuple) T.b_list) (fun _ _ _ h => h))) (ss_cons (ss_if (st_of (st_or (st_ne hr (se_isi "list" T.b_isinstance T.b_list (se_var 0)) (se_isi "list" T.b_isinstance T.b_list (se_var 1))) (st_or1 (st_ne hr (se_isi "tuple" T.b_isinstance T.b_tuple (se_var 0)) (se_isi "tuple" T.b_isinstance T.b_tuple (se_var 1)))))) (ss_one (ss_ret se_bl)) ss_nil) (ss_one (ss_ret (se_and (se_eq hr (se_len T.b_len (sa_cons (se_var 0) sa_nil)) (se_len T.b_len (sa_cons (se_var 1) sa_nil))) (se_one (se_all rfl T.b_all (sa_cons (se_lc (own := [("_law_a", 2), ("_law_b", 3)]) rfl HN (si_zip T.b_zip (sa_cons (se_var 0) (sa_cons (se_var 1) sa_nil))) (by exact blkOk_by (N := ["_law_found", "_law_due", "_law_a", "_law_b"]) (sc := defScope s__law_same) (own := [("_law_a", 2), ("_law_b", 3)]) (by decide +kernel)) (fun _ _ _ _ _ => (sg_tup rfl (sgs_cons (sg_name 2 HN) (sgs_cons (sg_name 3 HN) sgs_nil)))) (fun _ _ _ _ _ => sf_nil) (fun _ _ _ _ _ => (se_call (hk := Nat.le_refl _) c__law_same hr hG (sa_cons (se_var 2) (sa_cons (se_var 3) sa_nil))))) sa_nil))))))) ss_nil) (ss_cons (ss_if (st_of (st_or (st_isN (se_var 1) se_non) (st_or1 (st_val (se_isiT ["bool", "str"] T.b_isinstance (se_var 1) (pa_tyC (pa_tyC pa_ty0 T.b_str) T.b_bool) (fun _ _ _ h => h)))))) (ss_one (ss_ret (se_and (se_eq hr (se_var 0) (se_var 1)) (se_and (se_eq hr (se_isi "bool" T.b_isinstance T.b_bool (se_var 0)) (se_isi "bool" T.b_isinstance T.b_bool (se_var 1))) (se_one (se_eq hr (se_isN (se_var 0) se_non) (se_isN (se_var 1) se_non))))))) ss_nil) (ss_one (ss_ret (se_and (se_isi "int" T.b_isinstance T.b_int (se_var 0)) (se_and (se_not (se_isi "bool" T.b_isinstance T.b_bool (se_var 0))) (se_one (se_eq hr (se_var 0) (se_var 1)))))))))

abbrev s__law_strewn : Stmt := topS 21
theorem sc__law_strewn : FnScope ["_law_box_here", "_law_some", "_law_left", "_law_found"] ["_law_box_here", "_law_some"] (defScope s__law_strewn) := ⟨rfl, rfl, rfl, by decide +kernel, rfl, by decide +kernel, by decide +kernel⟩
theorem ok__law_strewn {f : Addr} {fd : FuncData} (F : Fun K "_law_strewn" "_law_strewn" s__law_strewn f fd) (T : Txt K mg) (c__law_take : Fnc P w K mg base 1 "_law_take" [true, false] ph__law_take) : FnG P w K mg base CX0 (2) f fd ["_law_box_here", "_law_some"] (spOf K [true, false] ph__law_strewn) := by
  refine fnok_mk (k := 1) F sc__law_strewn (b__law_strewn) (fun cdv A outer s H E hr hG => ?_) (fun args R h => vc__law_strewn args R h)
  have HN : (["_law_box_here", "_law_some", "_law_left", "_law_found"] : List Str).Nodup := sc__law_strewn.nd
  exact (ss_cons (ss_par2 2 3 [true, true] rfl HN (sa_cons (se_list T.b_list (sa_cons (se_var 1) sa_nil)) (sa_cons (se_lst sa_nil) sa_nil)) (by rfl)) (ss_cons (ss_while PassesOwn.never (st_ne hr (se_var 2) (se_lst sa_nil)) (ss_one (ss_expr (se_append 3 (sa_cons (se_popAt 2 (sa_cons (se_call c__law_take hr hG (sa_cons (se_var 0) (sa_cons (se_len T.b_len (sa_cons (se_var 2) sa_nil)) sa_nil))) sa_nil)) sa_nil))))) (ss_one (ss_ret (se_mv 3)))))

abbrev s__law_wire : Stmt := topS 22
theorem sc__law_wire : FnScope ["_law_box_here", "_law_most", "_law_count", "_law_gap", "_law_base", "_law_depths", "_law_way", "_law_k"] ["_law_box_here", "_law_most"] (defScope s__law_wire) := ⟨rfl, rfl, rfl, by decide +kernel, rfl, by decide +kernel, by decide +kernel⟩
theorem ok__law_wire {f : Addr} {fd : FuncData} (F : Fun K "_law_wire" "_law_wire" s__law_wire f fd) (T : Txt K mg) (c__law_take : Fnc P w K mg base 1 "_law_take" [true, false] ph__law_take) (c__law_of : Fnc P w K mg base 2 "_law_of" [true, false] ph__law_of) (c__law_strewn : Fnc P w K mg base 2 "_law_strewn" [true, false] ph__law_strewn) : FnG P w K mg base CX0 (3) f fd ["_law_box_here", "_law_most"] (spOf K [true, false] ph__law_wire) := by
  refine fnok_mk (k := 2) F sc__law_wire (b__law_wire) (fun cdv A outer s H E hr hG => ?_) (fun args R h => vc__law_wire args R h)
  have HN : (["_law_box_here", "_law_most", "_law_count", "_law_gap", "_law_base", "_law_depths", "_law_way", "_law_k"] : List Str).Nodup := sc__law_wire.nd
  exact (ss_cons (ss_parT [false, false] rfl (pgs_nm 2 HN (pgs_nm 3 HN pgs_nm0)) (sa_cons (se_add se_int (se_call c__law_take hr hG (sa_cons (se_var 0) (sa_cons (se_var 1) sa_nil)))) (sa_cons (se_call c__law_of hr hG (sa_cons (se_var 0) (sa_cons (se_lst (sa_cons se_int (sa_cons se_int (sa_cons se_int (sa_cons se_int sa_nil))))) sa_nil))) sa_nil))) (ss_cons (ss_set 4 HN (se_call c__law_of hr hG (sa_cons (se_var 0) (sa_cons (se_lst (sa_cons se_int (sa_cons se_int (sa_cons (se_add se_int (se_call c__law_take hr hG (sa_cons (se_var 0) (sa_cons se_int sa_nil)))) (sa_cons (se_sub (se_pow se_int se_int) se_int) sa_nil))))) sa_nil)))) (ss_cons (ss_setLc (own := [("_law_k", 7)]) 5 rfl HN (sw_true rfl rfl rfl (by decide +kernel)) (si_range1 T.b_range (sa_cons (se_var 2) sa_nil)) (by exact blkOk_by (N := ["_law_box_here", "_law_most", "_law_count", "_law_gap", "_law_base", "_law_depths", "_law_way", "_law_k"]) (sc := defScope s__law_wire) (own := [("_law_k", 7)]) (by decide +kernel)) (fun _ _ _ _ _ => (sg_name 7 HN)) (fun _ _ _ _ _ => sf_nil) (fun _ _ _ _ _ => (se_add (se_add (se_var 4) (se_mulA (se_var 3) (se_var 7))) (se_call c__law_take hr hG (sa_cons (se_var 0) (sa_cons (se_var 3) sa_nil)))))) (ss_cons (ss_set 6 HN (se_call c__law_take hr hG (sa_cons (se_var 0) (sa_cons se_int sa_nil)))) (ss_one (ss_ret (se_tuple T.b_tuple (sa_cons (se_if (st_lt (se_var 6) se_int) (se_ix (se_lst (sa_cons (se_var 5) (sa_cons (se_stp (se_var 5) (sp_some (se_neg se_int))) sa_nil))) (se_var 6)) (se_call c__law_strewn hr hG (sa_cons (se_var 0) (sa_cons (se_var 5) sa_nil)))) sa_nil))))))))

abbrev s__law_power : Stmt := topS 23
theorem sc__law_power : FnScope ["_law_box_here", "_law_wire_here", "_law_deep"] ["_law_box_here", "_law_wire_here"] (defScope s__law_power) := ⟨rfl, rfl, rfl, by decide +kernel, rfl, by decide +kernel, by decide +kernel⟩
theorem ok__law_power {f : Addr} {fd : FuncData} (F : Fun K "_law_power" "_law_power" s__law_power f fd) (T : Txt K mg) (c__law_of : Fnc P w K mg base 2 "_law_of" [true, false] ph__law_of) : FnG P w K mg base CX0 (3) f fd ["_law_box_here", "_law_wire_here"] (spOf K [true, false] ph__law_power) := by
  refine fnok_mk (k := 2) F sc__law_power (b__law_power) (fun cdv A outer s H E hr hG => ?_) (fun args R h => vc__law_power args R h)
  have HN : (["_law_box_here", "_law_wire_here", "_law_deep"] : List Str).Nodup := sc__law_power.nd
  exact (ss_cons (ss_set 2 HN (se_call c__law_of hr hG (sa_cons (se_var 0) (sa_cons (se_list T.b_list (sa_cons (se_var 1) sa_nil)) sa_nil)))) (ss_one (ss_ret (se_call c__law_of hr hG (sa_cons (se_var 0) (sa_cons (se_lst (sa_cons (se_var 2) (sa_cons (se_var 2) (sa_cons (se_min2 rfl T.b_min (sa_cons (se_add (se_var 2) se_int) (sa_cons (se_pow se_int se_int) sa_nil))) (sa_cons (se_min2 rfl T.b_min (sa_cons (se_add (se_max rfl hr T.b_max (sa_cons (se_var 1) sa_nil)) se_int) (sa_cons (se_pow se_int se_int) sa_nil))) (sa_cons se_int (sa_cons (se_max2 rfl T.b_max (sa_cons se_int (sa_cons (se_sub (se_var 2) se_int) sa_nil))) sa_nil))))))) sa_nil))))))

abbrev s__law_any : Stmt := topS 24
theorem sc__law_any : FnScope ["_law_box_here", "_law_wire_here", "_law_most", "_law_odds", "_law_held", "_law_trays", "_law_side_of", "_law_spot"] ["_law_box_here", "_law_wire_here", "_law_most"] (defScope s__law_any) := ⟨rfl, rfl, rfl, by decide +kernel, rfl, by decide +kernel, by decide +kernel⟩
theorem ok__law_any {f : Addr} {fd : FuncData} (F : Fun K "_law_any" "_law_any" s__law_any f fd) (T : Txt K mg) (c__law_take : Fnc P w K mg base 1 "_law_take" [true, false] ph__law_take) (c__law_of : Fnc P w K mg base 2 "_law_of" [true, false] ph__law_of) : FnG P w K mg base CX0 (3) f fd ["_law_box_here", "_law_wire_here", "_law_most"] (spOf K [true, false, false] ph__law_any) := by
  refine fnok_mk (k := 2) F sc__law_any (b__law_any) (fun cdv A outer s H E hr hG => ?_) (fun args R h => vc__law_any args R h)
  have HN : (["_law_box_here", "_law_wire_here", "_law_most", "_law_odds", "_law_held", "_law_trays", "_law_side_of", "_law_spot"] : List Str).Nodup := sc__law_any.nd
  exact (ss_cons (ss_set 3 HN (se_call c__law_of hr hG (sa_cons (se_var 0) (sa_cons (se_lst (sa_cons se_int (sa_cons se_int (sa_cons se_int (sa_cons se_int (sa_cons se_int sa_nil)))))) sa_nil)))) (ss_cons (ss_set 4 HN (se_tuple T.b_tuple (sa_cons (se_lc (own := [("_law_spot", 7)]) rfl HN (si_range1 T.b_range (sa_cons (se_len T.b_len (sa_cons (se_var 1) sa_nil)) sa_nil)) (by exact blkOk_by (N := ["_law_box_here", "_law_wire_here", "_law_most", "_law_odds", "_law_held", "_law_trays", "_law_side_of", "_law_spot"]) (sc := defScope s__law_any) (own := [("_law_spot", 7)]) (by decide +kernel)) (fun _ _ _ _ _ => (sg_name 7 HN)) (fun _ _ _ _ _ => (sf_one (st_eq hr (se_call c__law_take hr hG (sa_cons (se_var 0) (sa_cons (se_var 3) sa_nil))) se_int))) (fun _ _ _ _ _ => (se_var 7))) sa_nil))) (ss_cons (ss_setLc (own := [("_law_side_of", 6)]) 5 rfl HN (sw_true rfl rfl rfl (by decide +kernel)) (si_range1 T.b_range (sa_cons se_int sa_nil)) (by exact blkOk_by (N := ["_law_box_here", "_law_wire_here", "_law_most", "_law_odds", "_law_held", "_law_trays", "_law_side_of", "_law_spot"]) (sc := defScope s__law_any) (own := [("_law_side_of", 6)]) (by decide +kernel)) (fun _ _ _ _ _ => (sg_name 6 HN)) (fun _ _ _ _ _ => sf_nil) (fun _ _ _ _ _ => (se_call c__law_of hr hG (sa_cons (se_var 0) (sa_cons (se_lst (sa_cons se_int (sa_cons se_int (sa_cons (se_call c__law_take hr hG (sa_cons (se_var 0) (sa_cons (se_add (se_var 2) se_int) sa_nil))) sa_nil)))) sa_nil))))) (ss_one (ss_ret (se_tup (sa_cons (se_ix (se_var 5) se_int) (sa_cons (se_var 4) (sa_cons (se_ix (se_var 5) se_int) sa_nil)))))))))

abbrev s__law_bent : Stmt := topS 25
theorem sc__law_bent : FnScope ["_law_box_here", "_law_part", "_law_way", "_law_at", "_law_some", "_law_odd"] ["_law_box_here", "_law_part"] (defScope s__law_bent) := ⟨rfl, rfl, rfl, by decide +kernel, rfl, by decide +kernel, by decide +kernel⟩
theorem ok__law_bent {f : Addr} {fd : FuncData} (F : Fun K "_law_bent" "_law_bent" s__law_bent f fd) (T : Txt K mg) {j : Nat} {φ ψ : Phi} (vc : ∀ args R, ψ args R → b__law_bent φ (startE 6 args) (defK [true, false] R)) (c__law_bent : Fnc P w K mg base (j + 2) "_law_bent" [true, false] φ) (c__law_take : Fnc P w K mg base 1 "_law_take" [true, false] ph__law_take) (c__law_of : Fnc P w K mg base 2 "_law_of" [true, false] ph__law_of) : FnG P w K mg base CX0 (j + 2 + 1) f fd ["_law_box_here", "_law_part"] (spOf K [true, false] ψ) := by
  refine fnok_mk (k := j + 2) F sc__law_bent (b__law_bent φ) (fun cdv A outer s H E hr hG => ?_) (fun args R h => vc args R h)
  have HN : (["_law_box_here", "_law_part", "_law_way", "_law_at", "_law_some", "_law_odd"] : List Str).Nodup := sc__law_bent.nd
  exact (ss_cons (ss_set 2 HN (se_call (hk := by omega) c__law_take hr hG (sa_cons (se_var 0) (sa_cons se_int sa_nil)))) (ss_cons (ss_if (st_of (st_and (st_val (se_isiT ["tuple", "list"] T.b_isinstance (se_var 1) (pa_tyC (pa_tyC pa_ty0 T.b_list) T.b_tuple) (fun _ _ _ h => h))) (st_and (st_gt (se_len T.b_len (sa_cons (se_var 1) sa_nil)) se_int) (st_and1 (st_gt (se_var 2) se_int))))) (ss_cons (ss_par2 3 4 [false, true] rfl HN (sa_cons (se_call (hk := by omega) c__law_take hr hG (sa_cons (se_var 0) (sa_cons (se_len T.b_len (sa_cons (se_var 1) sa_nil)) sa_nil))) (sa_cons (se_list T.b_list (sa_cons (se_var 1) sa_nil)) sa_nil)) (by rfl)) (ss_cons (ss_if (st_eq hr (se_var 2) se_int) (ss_one (ss_expr (se_popAt 4 (sa_cons (se_var 3) sa_nil)))) (ss_one (ss_if (st_eq hr (se_var 2) se_int) (ss_one (ss_expr (se_mth1 4 PySem.F.slot_list_insert PySem.F.type_list_insert mt_insert sm_insert (sa_cons (se_var 3) (sa_cons (se_ix (se_var 4) (se_var 3)) sa_nil))))) (ss_one (ss_setIx 4 (se_call (hk := Nat.le_refl _) c__law_bent hr hG (sa_cons (se_var 0) (sa_cons (se_ix (se_var 4) (se_var 3)) sa_nil))) (se_var 3)))))) (ss_one (ss_ret (se_if (st_val (se_isi "tuple" T.b_isinstance T.b_tuple (se_var 1))) (se_tuple T.b_tuple (sa_cons (se_var 4) sa_nil)) (se_mv 4)))))) ss_nil) (ss_cons (ss_if (st_of (st_and (st_eq hr (se_var 2) se_int) (st_and1 (st_val (se_isi "tuple" T.b_isinstance T.b_tuple (se_var 1)))))) (ss_one (ss_ret (se_list T.b_list (sa_cons (se_var 1) sa_nil)))) ss_nil) (ss_cons (ss_set 5 HN (se_lst (sa_cons se_non (sa_cons se_bl (sa_cons se_bl (sa_cons (se_neg se_int) (sa_cons se_int (sa_cons se_int (sa_cons se_str (sa_cons se_str (sa_cons se_str (sa_cons (se_tup sa_nil) (sa_cons (se_lst sa_nil) (sa_cons (se_tup (sa_cons se_int sa_nil)) (sa_cons (se_lst (sa_cons se_int sa_nil)) (sa_cons (se_pow se_int se_int) sa_nil)))))))))))))))) (ss_cons (ss_if (st_of (st_and (st_val (se_isi "int" T.b_isinstance T.b_int (se_var 1))) (st_and1 (st_not (st_val (se_isi "bool" T.b_isinstance T.b_bool (se_var 1))))))) (ss_one (ss_set 5 HN (se_add (se_var 5) (se_lst (sa_cons (se_add (se_var 1) se_int) (sa_cons (se_sub (se_var 1) se_int) (sa_cons (se_add (se_var 1) se_int) (sa_cons (se_str_of T.b_str (sa_cons (se_var 1) sa_nil)) sa_nil)))))))) ss_nil) (ss_one (ss_ret (se_call (hk := by omega) c__law_of hr hG (sa_cons (se_var 0) (sa_cons (se_var 5) sa_nil))))))))))

abbrev s__law_is_number : Stmt := topS 26
theorem sc__law_is_number : FnScope ["_law_part", "_law_least"] ["_law_part", "_law_least"] (defScope s__law_is_number) := ⟨rfl, rfl, rfl, by decide +kernel, rfl, by decide +kernel, by decide +kernel⟩
theorem ok__law_is_number {f : Addr} {fd : FuncData} (F : Fun K "_law_is_number" "_law_is_number" s__law_is_number f fd) (T : Txt K mg) : FnG P w K mg base CX0 (1) f fd ["_law_part", "_law_least"] (spOf K [false, false] ph__law_is_number) := by
  refine fnok_mk (k := 0) F sc__law_is_number (b__law_is_number) (fun cdv A outer s H E hr hG => ?_) (fun args R h => vc__law_is_number args R h)
  have HN : (["_law_part", "_law_least"] : List Str).Nodup := sc__law_is_number.nd
  exact (ss_one (ss_ret (se_and (se_isi "int" T.b_isinstance T.b_int (se_var 0)) (se_and (se_not (se_isi "bool" T.b_isinstance T.b_bool (se_var 0))) (se_one (se_ge (se_var 0) (se_var 1)))))))

abbrev s__law_are_depths : Stmt := topS 27
theorem sc__law_are_depths : FnScope ["_law_matter", "_law_part"] ["_law_matter"] (defScope s__law_are_depths) := ⟨rfl, rfl, rfl, by decide +kernel, rfl, by decide +kernel, by decide +kernel⟩
theorem ok__law_are_depths {f : Addr} {fd : FuncData} (F : Fun K "_law_are_depths" "_law_are_depths" s__law_are_depths f fd) (T : Txt K mg) (c__law_is_number : Fnc P w K mg base 1 "_law_is_number" [false, false] ph__law_is_number) : FnG P w K mg base CX0 (2) f fd ["_law_matter"] (spOf K [false] ph__law_are_depths) := by
  refine fnok_mk (k := 1) F sc__law_are_depths (b__law_are_depths) (fun cdv A outer s H E hr hG => ?_) (fun args R h => vc__law_are_depths args R h)
  have HN : (["_law_matter", "_law_part"] : List Str).Nodup := sc__law_are_depths.nd
  exact (ss_cons (ss_if (st_of (st_or (st_not (st_val (se_isi "tuple" T.b_isinstance T.b_tuple (se_var 0)))) (st_or (st_eq hr (se_var 0) (se_tup sa_nil)) (st_or1 (st_not (st_val (se_all rfl T.b_all (sa_cons (se_lc (own := [("_law_part", 1)]) rfl HN (si_seq (se_var 0)) (by exact blkOk_by (N := ["_law_matter", "_law_part"]) (sc := defScope s__law_are_depths) (own := [("_law_part", 1)]) (by decide +kernel)) (fun _ _ _ _ _ => (sg_name 1 HN)) (fun _ _ _ _ _ => sf_nil) (fun _ _ _ _ _ => (se_call c__law_is_number hr hG (sa_cons (se_var 1) (sa_cons se_int sa_nil))))) sa_nil)))))))) (ss_one (ss_ret se_bl)) ss_nil) (ss_one (ss_ret (se_all rfl T.b_all (sa_cons (se_lc (own := [("_law_part", 1)]) rfl HN (si_seq (se_var 0)) (by exact blkOk_by (N := ["_law_matter", "_law_part"]) (sc := defScope s__law_are_depths) (own := [("_law_part", 1)]) (by decide +kernel)) (fun _ _ _ _ _ => (sg_name 1 HN)) (fun _ _ _ _ _ => sf_nil) (fun _ _ _ _ _ => (se_eq hr (se_countT (se_var 0) (se_var 1)) se_int))) sa_nil)))))

abbrev s__law_is_held : Stmt := topS 28
theorem sc__law_is_held : FnScope ["_law_wire_here", "_law_matter", "_law_before", "_law_after", "_law_part"] ["_law_wire_here", "_law_matter"] (defScope s__law_is_held) := ⟨rfl, rfl, rfl, by decide +kernel, rfl, by decide +kernel, by decide +kernel⟩
theorem ok__law_is_held {f : Addr} {fd : FuncData} (F : Fun K "_law_is_held" "_law_is_held" s__law_is_held f fd) (T : Txt K mg) (c__law_is_number : Fnc P w K mg base 1 "_law_is_number" [false, false] ph__law_is_number) : FnG P w K mg base CX0 (2) f fd ["_law_wire_here", "_law_matter"] (spOf K [false, false] ph__law_is_held) := by
  refine fnok_mk (k := 1) F sc__law_is_held (b__law_is_held) (fun cdv A outer s H E hr hG => ?_) (fun args R h => vc__law_is_held args R h)
  have HN : (["_law_wire_here", "_law_matter", "_law_before", "_law_after", "_law_part"] : List Str).Nodup := sc__law_is_held.nd
  exact (ss_cons (ss_if (st_not (st_val (se_isi "tuple" T.b_isinstance T.b_tuple (se_var 1)))) (ss_one (ss_ret se_bl)) ss_nil) (ss_cons (ss_if (st_not (st_val (se_all rfl T.b_all (sa_cons (se_lc (own := [("_law_part", 4)]) rfl HN (si_seq (se_var 1)) (by exact blkOk_by (N := ["_law_wire_here", "_law_matter", "_law_before", "_law_after", "_law_part"]) (sc := defScope s__law_is_held) (own := [("_law_part", 4)]) (by decide +kernel)) (fun _ _ _ _ _ => (sg_name 4 HN)) (fun _ _ _ _ _ => sf_nil) (fun _ _ _ _ _ => (se_and (se_call c__law_is_number hr hG (sa_cons (se_var 4) (sa_cons se_int sa_nil))) (se_one (se_lt (se_var 4) (se_len T.b_len (sa_cons (se_var 0) sa_nil))))))) sa_nil)))) (ss_one (ss_ret se_bl)) ss_nil) (ss_one (ss_ret (se_all rfl T.b_all (sa_cons (se_lc (own := [("_law_before", 2), ("_law_after", 3)]) rfl HN (si_zip T.b_zip (sa_cons (se_var 1) (sa_cons (se_sl (se_var 1) (sp_some se_int) sp_none) sa_nil))) (by exact blkOk_by (N := ["_law_wire_here", "_law_matter", "_law_before", "_law_after", "_law_part"]) (sc := defScope s__law_is_held) (own := [("_law_before", 2), ("_law_after", 3)]) (by decide +kernel)) (fun _ _ _ _ _ => (sg_tup rfl (sgs_cons (sg_name 2 HN) (sgs_cons (sg_name 3 HN) sgs_nil)))) (fun _ _ _ _ _ => sf_nil) (fun _ _ _ _ _ => (se_lt (se_var 2) (se_var 3)))) sa_nil))))))

abbrev s__law_is_state : Stmt := topS 29
theorem sc__law_is_state : FnScope ["_law_wire_here", "_law_matter"] ["_law_wire_here", "_law_matter"] (defScope s__law_is_state) := ⟨rfl, rfl, rfl, by decide +kernel, rfl, by decide +kernel, by decide +kernel⟩
theorem ok__law_is_state {f : Addr} {fd : FuncData} (F : Fun K "_law_is_state" "_law_is_state" s__law_is_state f fd) (T : Txt K mg) (c__law_is_number : Fnc P w K mg base 1 "_law_is_number" [false, false] ph__law_is_number) (c__law_is_held : Fnc P w K mg base 2 "_law_is_held" [false, false] ph__law_is_held) : FnG P w K mg base CX0 (3) f fd ["_law_wire_here", "_law_matter"] (spOf K [false, false] ph__law_is_state) := by
  refine fnok_mk (k := 2) F sc__law_is_state (b__law_is_state) (fun cdv A outer s H E hr hG => ?_) (fun args R h => vc__law_is_state args R h)
  have HN : (["_law_wire_here", "_law_matter"] : List Str).Nodup := sc__law_is_state.nd
  exact (ss_cons (ss_if (st_of (st_or (st_not (st_val (se_isi "tuple" T.b_isinstance T.b_tuple (se_var 1)))) (st_or1 (st_ne hr (se_len T.b_len (sa_cons (se_var 1) sa_nil)) se_int)))) (ss_one (ss_ret se_bl)) ss_nil) (ss_one (ss_ret (se_and (se_call c__law_is_number hr hG (sa_cons (se_ix (se_var 1) se_int) (sa_cons se_int sa_nil))) (se_and (se_call c__law_is_number hr hG (sa_cons (se_ix (se_var 1) se_int) (sa_cons se_int sa_nil))) (se_one (se_call c__law_is_held hr hG (sa_cons (se_var 0) (sa_cons (se_ix (se_var 1) se_int) sa_nil)))))))))

abbrev s__law_are_tilts : Stmt := topS 30
theorem sc__law_are_tilts : FnScope ["_law_matter", "_law_part"] ["_law_matter"] (defScope s__law_are_tilts) := ⟨rfl, rfl, rfl, by decide +kernel, rfl, by decide +kernel, by decide +kernel⟩
theorem ok__law_are_tilts {f : Addr} {fd : FuncData} (F : Fun K "_law_are_tilts" "_law_are_tilts" s__law_are_tilts f fd) (T : Txt K mg) (c__law_is_number : Fnc P w K mg base 1 "_law_is_number" [false, false] ph__law_is_number) : FnG P w K mg base CX0 (2) f fd ["_law_matter"] (spOf K [false] ph__law_are_tilts) := by
  refine fnok_mk (k := 1) F sc__law_are_tilts (b__law_are_tilts) (fun cdv A outer s H E hr hG => ?_) (fun args R h => vc__law_are_tilts args R h)
  have HN : (["_law_matter", "_law_part"] : List Str).Nodup := sc__law_are_tilts.nd
  exact (ss_cons (ss_if (st_not (st_val (se_isi "list" T.b_isinstance T.b_list (se_var 0)))) (ss_one (ss_ret se_bl)) ss_nil) (ss_cons (ss_for PassesOwn.never rfl (si_seq (se_var 0)) (sg_name 1 HN) (ss_cons (ss_if (st_of (st_or (st_not (st_val (se_isi "tuple" T.b_isinstance T.b_tuple (se_var 1)))) (st_or (st_ne hr (se_len T.b_len (sa_cons (se_var 1) sa_nil)) se_int) (st_or1 (st_not (st_val (se_isi "str" T.b_isinstance T.b_str (se_ix (se_var 1) se_int)))))))) (ss_one (ss_ret se_bl)) ss_nil) (ss_one (ss_if (st_of (st_or (st_notIn hr (se_ix (se_var 1) se_int) (se_tup (sa_cons se_str (sa_cons se_str sa_nil)))) (st_or1 (st_not (st_val (se_call c__law_is_number hr hG (sa_cons (se_ix (se_var 1) se_int) (sa_cons se_int sa_nil)))))))) (ss_one (ss_ret se_bl)) ss_nil)))) (ss_one (ss_ret se_bl))))

abbrev s__law_things_right : Stmt := topS 31
theorem sc__law_things_right : FnScope ["_law_wire_here", "_law_matters", "_law_matter", "_law_kept", "_law_told", "_law_due"] ["_law_wire_here", "_law_matters"] (defScope s__law_things_right) := ⟨rfl, rfl, rfl, by decide +kernel, rfl, by decide +kernel, by decide +kernel⟩
theorem ok__law_things_right {f : Addr} {fd : FuncData} (F : Fun K "_law_things_right" "_law_things_right" s__law_things_right f fd) (T : Txt K mg) (c_is_channel : Fnc P w K mg base 2 "is_channel" [false] ph_is_channel) (c_is_lot : Fnc P w K mg base 3 "is_lot" [false, false] ph_is_lot) (c_is_standing : Fnc P w K mg base 4 "is_standing" [false, false] ph_is_standing) (c_is_row : Fnc P w K mg base 3 "is_row" [false] ph_is_row) (c__law_same : Fnc P w K mg base 9 "_law_same" [false, false] ph__law_same) (c__law_are_depths : Fnc P w K mg base 2 "_law_are_depths" [false] ph__law_are_depths) (c__law_is_held : Fnc P w K mg base 2 "_law_is_held" [false, false] ph__law_is_held) (c__law_is_state : Fnc P w K mg base 3 "_law_is_state" [false, false] ph__law_is_state) (c__law_are_tilts : Fnc P w K mg base 2 "_law_are_tilts" [false] ph__law_are_tilts) : FnG P w K mg base CX0 (10) f fd ["_law_wire_here", "_law_matters"] (spOf K [false, false] ph__law_things_right) := by
  refine fnok_mk (k := 9) F sc__law_things_right (b__law_things_right) (fun cdv A outer s H E hr hG => ?_) (fun args R h => vc__law_things_right args R h)
  have HN : (["_law_wire_here", "_law_matters", "_law_matter", "_law_kept", "_law_told", "_law_due"] : List Str).Nodup := sc__law_things_right.nd
  exact (ss_cons (ss_for PassesOwn.never rfl (si_seq (se_var 1)) (sg_name 2 HN) (ss_cons (ss_set 3 HN (se_repr hr hG T.b_repr (sa_cons (se_var 2) sa_nil))) (ss_cons (ss_set 4 HN (se_lst (sa_cons (se_call c_is_channel hr hG (sa_cons (se_var 2) sa_nil)) (sa_cons (se_call c_is_lot hr hG (sa_cons (se_var 0) (sa_cons (se_var 2) sa_nil))) (sa_cons (se_call c_is_standing hr hG (sa_cons (se_list T.b_list (sa_cons (se_var 0) sa_nil)) (sa_cons (se_var 2) sa_nil))) (sa_cons (se_call c_is_row hr hG (sa_cons (se_var 2) sa_nil)) sa_nil)))))) (ss_cons (ss_set 5 HN (se_lst (sa_cons (se_call c__law_are_depths hr hG (sa_cons (se_var 2) sa_nil)) (sa_cons (se_call c__law_is_held hr hG (sa_cons (se_var 0) (sa_cons (se_var 2) sa_nil))) (sa_cons (se_call c__law_is_state hr hG (sa_cons (se_var 0) (sa_cons (se_var 2) sa_nil))) sa_nil))))) (ss_one (ss_if (st_of (st_or (st_not (st_val (se_call c__law_same hr hG (sa_cons (se_var 4) (sa_cons (se_add (se_var 5) (se_lst (sa_cons (se_call c__law_are_tilts hr hG (sa_cons (se_var 2) sa_nil)) sa_nil))) sa_nil))))) (st_or1 (st_ne hr (se_repr hr hG T.b_repr (sa_cons (se_var 2) sa_nil)) (se_var 3))))) (ss_one (ss_ret se_bl)) ss_nil)))))) (ss_one (ss_ret se_bl)))

abbrev s__law_right : Stmt := topS 32
theorem sc__law_right : FnScope ["_law_box_here", "_law_wire_here", "_law_state", "_law_tour", "_law_matters", "_law_turn", "_law_matter", "_law_bent_here", "_law_told"] ["_law_box_here"] (defScope s__law_right) := ⟨rfl, rfl, rfl, by decide +kernel, rfl, by decide +kernel, by decide +kernel⟩
theorem ok__law_right {f : Addr} {fd : FuncData} (F : Fun K "_law_right" "_law_right" s__law_right f fd) (T : Txt K mg) (c_is_channel : Fnc P w K mg base 2 "is_channel" [false] ph_is_channel) (c_is_lot : Fnc P w K mg base 3 "is_lot" [false, false] ph_is_lot) (c_is_standing : Fnc P w K mg base 4 "is_standing" [false, false] ph_is_standing) (c_is_row : Fnc P w K mg base 3 "is_row" [false] ph_is_row) (c__law_take : Fnc P w K mg base 1 "_law_take" [true, false] ph__law_take) (c__law_of : Fnc P w K mg base 2 "_law_of" [true, false] ph__law_of) (c__law_same : Fnc P w K mg base 9 "_law_same" [false, false] ph__law_same) (c__law_wire : Fnc P w K mg base 3 "_law_wire" [true, false] ph__law_wire) (c__law_power : Fnc P w K mg base 3 "_law_power" [true, false] ph__law_power) (c__law_any : Fnc P w K mg base 3 "_law_any" [true, false, false] ph__law_any) (c__law_bent : Fnc P w K mg base 10 "_law_bent" [true, false] ph__law_bent) (c__law_things_right : Fnc P w K mg base 10 "_law_things_right" [false, false] ph__law_things_right) (k_is_channel_0_0 : FncK P w K mg base 2 "is_channel" 1 0 ["thing"] [0] ph_is_channel) (k_is_lot_1_0_0 : FncK P w K mg base 3 "is_lot" 2 0 ["thing", "channel"] [1, 0] ph_is_lot) (k_is_row_0_0 : FncK P w K mg base 3 "is_row" 1 0 ["thing"] [0] ph_is_row) (k_is_standing_1_0_0 : FncK P w K mg base 4 "is_standing" 2 0 ["thing", "channel"] [1, 0] ph_is_standing) : FnG P w K mg base CX0 (11) f fd ["_law_box_here"] (spOf K [true] ph__law_right) := by
  refine fnok_mk (k := 10) F sc__law_right (b__law_right) (fun cdv A outer s H E hr hG => ?_) (fun args R h => vc__law_right args R h)
  have HN : (["_law_box_here", "_law_wire_here", "_law_state", "_law_tour", "_law_matters", "_law_turn", "_law_matter", "_law_bent_here", "_law_told"] : List Str).Nodup := sc__law_right.nd
  exact (ss_cons (ss_set 1 HN (se_call c__law_wire hr hG (sa_cons (se_var 0) (sa_cons se_int sa_nil)))) (ss_cons (ss_set 2 HN (se_call c__law_any hr hG (sa_cons (se_var 0) (sa_cons (se_var 1) (sa_cons se_int sa_nil))))) (ss_cons (ss_setLc (own := [("_law_turn", 5)]) 3 rfl HN (sw_true rfl rfl rfl (by decide +kernel)) (si_range1 T.b_range (sa_cons (se_call c__law_take hr hG (sa_cons (se_var 0) (sa_cons se_int sa_nil))) sa_nil)) (by exact blkOk_by (N := ["_law_box_here", "_law_wire_here", "_law_state", "_law_tour", "_law_matters", "_law_turn", "_law_matter", "_law_bent_here", "_law_told"]) (sc := defScope s__law_right) (own := [("_law_turn", 5)]) (by decide +kernel)) (fun _ _ _ _ _ => (sg_name 5 HN)) (fun _ _ _ _ _ => sf_nil) (fun _ _ _ _ _ => (se_tup (sa_cons (se_call c__law_of hr hG (sa_cons (se_var 0) (sa_cons (se_lst (sa_cons se_str (sa_cons se_str sa_nil))) sa_nil))) (sa_cons (se_call c__law_power hr hG (sa_cons (se_var 0) (sa_cons (se_var 1) sa_nil))) sa_nil))))) (ss_cons (ss_setO 4 HN (se_lst (sa_cons (se_var 1) (sa_cons (se_var 2) (sa_cons (se_ix (se_var 2) se_int) (sa_cons (se_var 3) (sa_cons (se_tup sa_nil) (sa_cons (se_lst sa_nil) (sa_cons se_non (sa_cons se_bl (sa_cons se_int (sa_cons se_str (sa_cons (se_tup (sa_cons (se_tup sa_nil) sa_nil)) (sa_cons (se_lst (sa_cons (se_tup sa_nil) sa_nil)) (sa_cons (se_tup (sa_cons se_int (sa_cons (se_tup sa_nil) (sa_cons se_int sa_nil)))) (sa_cons (se_tup (sa_cons se_int sa_nil)) (sa_cons (se_tup (sa_cons se_int (sa_cons se_int sa_nil))) (sa_cons (se_tup (sa_cons se_int sa_nil)) sa_nil)))))))))))))))))) (ss_cons (ss_setO 4 HN (se_add (se_var 4) (se_lst (sa_cons (se_tup (sa_cons se_str (sa_cons se_int sa_nil))) (sa_cons (se_lst (sa_cons (se_tup (sa_cons se_str (sa_cons se_int sa_nil))) sa_nil)) (sa_cons (se_lst (sa_cons (se_tup (sa_cons se_str (sa_cons se_int sa_nil))) sa_nil)) (sa_cons (se_lst (sa_cons (se_lst (sa_cons se_str (sa_cons se_int sa_nil))) sa_nil)) (sa_cons (se_tup (sa_cons (se_len T.b_len (sa_cons (se_var 1) sa_nil)) sa_nil)) (sa_cons (se_tup (sa_cons (se_sub (se_len T.b_len (sa_cons (se_var 1) sa_nil)) se_int) sa_nil)) sa_nil))))))))) (ss_cons (ss_for PassesOwn.never rfl (si_range1 T.b_range (sa_cons se_int sa_nil)) (sg_name 5 HN) (ss_one (ss_for PassesOwn.never rfl (si_seq (se_tup (sa_cons (se_var 1) (sa_cons (se_var 2) (sa_cons (se_ix (se_var 2) se_int) (sa_cons (se_var 3) sa_nil)))))) (sg_name 6 HN) (ss_cons (ss_set 7 HN (se_call c__law_bent hr hG (sa_cons (se_var 0) (sa_cons (se_var 6) sa_nil)))) (ss_one (ss_expr (se_append 4 (sa_cons (se_if (st_eq hr (se_call c__law_take hr hG (sa_cons (se_var 0) (sa_cons se_int sa_nil))) se_int) (se_call c__law_bent hr hG (sa_cons (se_var 0) (sa_cons (se_var 7) sa_nil))) (se_var 7)) sa_nil)))))))) (ss_cons (ss_set 8 HN (se_lst (sa_cons (se_callK0 k_is_channel_0_0 hr hG (sk_cons (se_var 1) sk_nil)) (sa_cons (se_callK0 k_is_lot_1_0_0 hr hG (sk_cons (se_ix (se_var 2) se_int) (sk_cons (se_var 1) sk_nil))) (sa_cons (se_callK0 k_is_standing_1_0_0 hr hG (sk_cons (se_var 2) (sk_cons (se_var 1) sk_nil))) sa_nil))))) (ss_one (ss_ret (se_and (se_call c__law_same hr hG (sa_cons (se_var 8) (sa_cons (se_mulA (se_lst (sa_cons se_bl sa_nil)) se_int) sa_nil))) (se_and (se_isB (se_callK0 k_is_row_0_0 hr hG (sk_cons (se_var 3) sk_nil)) se_bl) (se_one (se_call c__law_things_right hr hG (sa_cons (se_var 1) (sa_cons (se_fz 4) sa_nil)))))))))))))))

abbrev s_law : Stmt := topS 33
theorem sc_law : FnScope ["_law_script", "_law_k"] ["_law_script"] (defScope s_law) := ⟨rfl, rfl, rfl, by decide +kernel, rfl, by decide +kernel, by decide +kernel⟩
theorem ok_law {f : Addr} {fd : FuncData} (F : Fun K "law" "law" s_law f fd) (T : Txt K mg) (c__law_box : Fnc P w K mg base 2 "_law_box" [false, false] ph__law_box) (c__law_right : Fnc P w K mg base 11 "_law_right" [true] ph__law_right) : FnG P w K mg base CX0 (12) f fd ["_law_script"] (spOf K [false] ph_law) := by
  refine fnok_mk (k := 11) F sc_law (b_law) (fun cdv A outer s H E hr hG => ?_) (fun args R h => vc_law args R h)
  have HN : (["_law_script", "_law_k"] : List Str).Nodup := sc_law.nd
  exact (ss_one (ss_ret (se_all rfl T.b_all (sa_cons (se_lc (own := [("_law_k", 1)]) rfl HN (si_range1 T.b_range (sa_cons (se_add se_int (se_min2 rfl T.b_min (sa_cons se_int (sa_cons (se_len T.b_len (sa_cons (se_var 0) sa_nil)) sa_nil)))) sa_nil)) (by exact blkOk_by (N := ["_law_script", "_law_k"]) (sc := defScope s_law) (own := [("_law_k", 1)]) (by decide +kernel)) (fun _ _ _ _ _ => (sg_name 1 HN)) (fun _ _ _ _ _ => sf_nil) (fun _ _ _ _ _ => (se_call c__law_right hr hG (sa_cons (se_call c__law_box hr hG (sa_cons (se_var 0) (sa_cons (se_var 1) sa_nil))) sa_nil)))) sa_nil))))

end
theorem all_mk {l : PySem.W.OpenLaw} {w : World} {K : PySem.W.Frag} {h : Heap} {mg : Str → Option Value} {fa : Addr} (X : K.In h) (G : h.Ns mainGlobals mg) (hfa : mg "law" = some (.ref fa))
    {f0 : Addr} {od0 an0 : Option Addr} {sl0 : Array (Option Value)} {oc0 kV0 dc0 pm0 cd0 ct0 : Value}
    (a0 : PySem.W.nsIn K mainGlobals "is_number" = some (some (.ref f0))) (l0 : K.lookup f0 = some ⟨oc0, od0, .func (PySem.W.fnOf "is_number" "is_number" (defArgs s_is_number) (defBody s_is_number) (defScope s_is_number) .none kV0 dc0 pm0 an0 cd0 ct0), sl0⟩) (c0 : PySem.W.codeIn K cd0 "is_number" = true) (k0 : PySem.W.keepIn K (.ref f0) = true)
    {f1 : Addr} {od1 an1 : Option Addr} {sl1 : Array (Option Value)} {oc1 kV1 dc1 pm1 cd1 ct1 : Value}
    (a1 : PySem.W.nsIn K mainGlobals "is_count" = some (some (.ref f1))) (l1 : K.lookup f1 = some ⟨oc1, od1, .func (PySem.W.fnOf "is_count" "is_count" (defArgs s_is_count) (defBody s_is_count) (defScope s_is_count) .none kV1 dc1 pm1 an1 cd1 ct1), sl1⟩) (c1 : PySem.W.codeIn K cd1 "is_count" = true) (k1 : PySem.W.keepIn K (.ref f1) = true)
    {f2 : Addr} {od2 an2 : Option Addr} {sl2 : Array (Option Value)} {oc2 kV2 dc2 pm2 cd2 ct2 : Value}
    (a2 : PySem.W.nsIn K mainGlobals "is_side" = some (some (.ref f2))) (l2 : K.lookup f2 = some ⟨oc2, od2, .func (PySem.W.fnOf "is_side" "is_side" (defArgs s_is_side) (defBody s_is_side) (defScope s_is_side) .none kV2 dc2 pm2 an2 cd2 ct2), sl2⟩) (c2 : PySem.W.codeIn K cd2 "is_side" = true) (k2 : PySem.W.keepIn K (.ref f2) = true)
    {f3 : Addr} {od3 an3 : Option Addr} {sl3 : Array (Option Value)} {oc3 kV3 dc3 pm3 cd3 ct3 : Value}
    (a3 : PySem.W.nsIn K mainGlobals "is_rising" = some (some (.ref f3))) (l3 : K.lookup f3 = some ⟨oc3, od3, .func (PySem.W.fnOf "is_rising" "is_rising" (defArgs s_is_rising) (defBody s_is_rising) (defScope s_is_rising) .none kV3 dc3 pm3 an3 cd3 ct3), sl3⟩) (c3 : PySem.W.codeIn K cd3 "is_rising" = true) (k3 : PySem.W.keepIn K (.ref f3) = true)
    {f4 : Addr} {od4 an4 : Option Addr} {sl4 : Array (Option Value)} {oc4 kV4 dc4 pm4 cd4 ct4 : Value}
    (a4 : PySem.W.nsIn K mainGlobals "is_channel" = some (some (.ref f4))) (l4 : K.lookup f4 = some ⟨oc4, od4, .func (PySem.W.fnOf "is_channel" "is_channel" (defArgs s_is_channel) (defBody s_is_channel) (defScope s_is_channel) .none kV4 dc4 pm4 an4 cd4 ct4), sl4⟩) (c4 : PySem.W.codeIn K cd4 "is_channel" = true) (k4 : PySem.W.keepIn K (.ref f4) = true)
    {f5 : Addr} {od5 an5 : Option Addr} {sl5 : Array (Option Value)} {oc5 kV5 dc5 pm5 cd5 ct5 : Value}
    (a5 : PySem.W.nsIn K mainGlobals "is_lot" = some (some (.ref f5))) (l5 : K.lookup f5 = some ⟨oc5, od5, .func (PySem.W.fnOf "is_lot" "is_lot" (defArgs s_is_lot) (defBody s_is_lot) (defScope s_is_lot) .none kV5 dc5 pm5 an5 cd5 ct5), sl5⟩) (c5 : PySem.W.codeIn K cd5 "is_lot" = true) (k5 : PySem.W.keepIn K (.ref f5) = true)
    {f6 : Addr} {od6 an6 : Option Addr} {sl6 : Array (Option Value)} {oc6 kV6 dc6 pm6 cd6 ct6 : Value}
    (a6 : PySem.W.nsIn K mainGlobals "is_standing" = some (some (.ref f6))) (l6 : K.lookup f6 = some ⟨oc6, od6, .func (PySem.W.fnOf "is_standing" "is_standing" (defArgs s_is_standing) (defBody s_is_standing) (defScope s_is_standing) .none kV6 dc6 pm6 an6 cd6 ct6), sl6⟩) (c6 : PySem.W.codeIn K cd6 "is_standing" = true) (k6 : PySem.W.keepIn K (.ref f6) = true)
    {f7 : Addr} {od7 an7 : Option Addr} {sl7 : Array (Option Value)} {oc7 kV7 dc7 pm7 cd7 ct7 : Value}
    (a7 : PySem.W.nsIn K mainGlobals "is_tilt" = some (some (.ref f7))) (l7 : K.lookup f7 = some ⟨oc7, od7, .func (PySem.W.fnOf "is_tilt" "is_tilt" (defArgs s_is_tilt) (defBody s_is_tilt) (defScope s_is_tilt) .none kV7 dc7 pm7 an7 cd7 ct7), sl7⟩) (c7 : PySem.W.codeIn K cd7 "is_tilt" = true) (k7 : PySem.W.keepIn K (.ref f7) = true)
    {f8 : Addr} {od8 an8 : Option Addr} {sl8 : Array (Option Value)} {oc8 kV8 dc8 pm8 cd8 ct8 : Value}
    (a8 : PySem.W.nsIn K mainGlobals "is_row" = some (some (.ref f8))) (l8 : K.lookup f8 = some ⟨oc8, od8, .func (PySem.W.fnOf "is_row" "is_row" (defArgs s_is_row) (defBody s_is_row) (defScope s_is_row) .none kV8 dc8 pm8 an8 cd8 ct8), sl8⟩) (c8 : PySem.W.codeIn K cd8 "is_row" = true) (k8 : PySem.W.keepIn K (.ref f8) = true)
    {f9 : Addr} {od9 an9 : Option Addr} {sl9 : Array (Option Value)} {oc9 kV9 dc9 pm9 cd9 ct9 : Value}
    (a9 : PySem.W.nsIn K mainGlobals "_law_cell_at" = some (some (.ref f9))) (l9 : K.lookup f9 = some ⟨oc9, od9, .func (PySem.W.fnOf "_law_cell_at" "_law_cell_at" (defArgs s__law_cell_at) (defBody s__law_cell_at) (defScope s__law_cell_at) .none kV9 dc9 pm9 an9 cd9 ct9), sl9⟩) (c9 : PySem.W.codeIn K cd9 "_law_cell_at" = true) (k9 : PySem.W.keepIn K (.ref f9) = true)
    {f10 : Addr} {od10 an10 : Option Addr} {sl10 : Array (Option Value)} {oc10 kV10 dc10 pm10 cd10 ct10 : Value}
    (a10 : PySem.W.nsIn K mainGlobals "_law_box" = some (some (.ref f10))) (l10 : K.lookup f10 = some ⟨oc10, od10, .func (PySem.W.fnOf "_law_box" "_law_box" (defArgs s__law_box) (defBody s__law_box) (defScope s__law_box) .none kV10 dc10 pm10 an10 cd10 ct10), sl10⟩) (c10 : PySem.W.codeIn K cd10 "_law_box" = true) (k10 : PySem.W.keepIn K (.ref f10) = true)
    {f11 : Addr} {od11 an11 : Option Addr} {sl11 : Array (Option Value)} {oc11 kV11 dc11 pm11 cd11 ct11 : Value}
    (a11 : PySem.W.nsIn K mainGlobals "_law_take" = some (some (.ref f11))) (l11 : K.lookup f11 = some ⟨oc11, od11, .func (PySem.W.fnOf "_law_take" "_law_take" (defArgs s__law_take) (defBody s__law_take) (defScope s__law_take) .none kV11 dc11 pm11 an11 cd11 ct11), sl11⟩) (c11 : PySem.W.codeIn K cd11 "_law_take" = true) (k11 : PySem.W.keepIn K (.ref f11) = true)
    {f12 : Addr} {od12 an12 : Option Addr} {sl12 : Array (Option Value)} {oc12 kV12 dc12 pm12 cd12 ct12 : Value}
    (a12 : PySem.W.nsIn K mainGlobals "_law_of" = some (some (.ref f12))) (l12 : K.lookup f12 = some ⟨oc12, od12, .func (PySem.W.fnOf "_law_of" "_law_of" (defArgs s__law_of) (defBody s__law_of) (defScope s__law_of) .none kV12 dc12 pm12 an12 cd12 ct12), sl12⟩) (c12 : PySem.W.codeIn K cd12 "_law_of" = true) (k12 : PySem.W.keepIn K (.ref f12) = true)
    {f13 : Addr} {od13 an13 : Option Addr} {sl13 : Array (Option Value)} {oc13 kV13 dc13 pm13 cd13 ct13 : Value}
    (a13 : PySem.W.nsIn K mainGlobals "_law_same" = some (some (.ref f13))) (l13 : K.lookup f13 = some ⟨oc13, od13, .func (PySem.W.fnOf "_law_same" "_law_same" (defArgs s__law_same) (defBody s__law_same) (defScope s__law_same) .none kV13 dc13 pm13 an13 cd13 ct13), sl13⟩) (c13 : PySem.W.codeIn K cd13 "_law_same" = true) (k13 : PySem.W.keepIn K (.ref f13) = true)
    {f14 : Addr} {od14 an14 : Option Addr} {sl14 : Array (Option Value)} {oc14 kV14 dc14 pm14 cd14 ct14 : Value}
    (a14 : PySem.W.nsIn K mainGlobals "_law_strewn" = some (some (.ref f14))) (l14 : K.lookup f14 = some ⟨oc14, od14, .func (PySem.W.fnOf "_law_strewn" "_law_strewn" (defArgs s__law_strewn) (defBody s__law_strewn) (defScope s__law_strewn) .none kV14 dc14 pm14 an14 cd14 ct14), sl14⟩) (c14 : PySem.W.codeIn K cd14 "_law_strewn" = true) (k14 : PySem.W.keepIn K (.ref f14) = true)
    {f15 : Addr} {od15 an15 : Option Addr} {sl15 : Array (Option Value)} {oc15 kV15 dc15 pm15 cd15 ct15 : Value}
    (a15 : PySem.W.nsIn K mainGlobals "_law_wire" = some (some (.ref f15))) (l15 : K.lookup f15 = some ⟨oc15, od15, .func (PySem.W.fnOf "_law_wire" "_law_wire" (defArgs s__law_wire) (defBody s__law_wire) (defScope s__law_wire) .none kV15 dc15 pm15 an15 cd15 ct15), sl15⟩) (c15 : PySem.W.codeIn K cd15 "_law_wire" = true) (k15 : PySem.W.keepIn K (.ref f15) = true)
    {f16 : Addr} {od16 an16 : Option Addr} {sl16 : Array (Option Value)} {oc16 kV16 dc16 pm16 cd16 ct16 : Value}
    (a16 : PySem.W.nsIn K mainGlobals "_law_power" = some (some (.ref f16))) (l16 : K.lookup f16 = some ⟨oc16, od16, .func (PySem.W.fnOf "_law_power" "_law_power" (defArgs s__law_power) (defBody s__law_power) (defScope s__law_power) .none kV16 dc16 pm16 an16 cd16 ct16), sl16⟩) (c16 : PySem.W.codeIn K cd16 "_law_power" = true) (k16 : PySem.W.keepIn K (.ref f16) = true)
    {f17 : Addr} {od17 an17 : Option Addr} {sl17 : Array (Option Value)} {oc17 kV17 dc17 pm17 cd17 ct17 : Value}
    (a17 : PySem.W.nsIn K mainGlobals "_law_any" = some (some (.ref f17))) (l17 : K.lookup f17 = some ⟨oc17, od17, .func (PySem.W.fnOf "_law_any" "_law_any" (defArgs s__law_any) (defBody s__law_any) (defScope s__law_any) .none kV17 dc17 pm17 an17 cd17 ct17), sl17⟩) (c17 : PySem.W.codeIn K cd17 "_law_any" = true) (k17 : PySem.W.keepIn K (.ref f17) = true)
    {f18 : Addr} {od18 an18 : Option Addr} {sl18 : Array (Option Value)} {oc18 kV18 dc18 pm18 cd18 ct18 : Value}
    (a18 : PySem.W.nsIn K mainGlobals "_law_bent" = some (some (.ref f18))) (l18 : K.lookup f18 = some ⟨oc18, od18, .func (PySem.W.fnOf "_law_bent" "_law_bent" (defArgs s__law_bent) (defBody s__law_bent) (defScope s__law_bent) .none kV18 dc18 pm18 an18 cd18 ct18), sl18⟩) (c18 : PySem.W.codeIn K cd18 "_law_bent" = true) (k18 : PySem.W.keepIn K (.ref f18) = true)
    {f19 : Addr} {od19 an19 : Option Addr} {sl19 : Array (Option Value)} {oc19 kV19 dc19 pm19 cd19 ct19 : Value}
    (a19 : PySem.W.nsIn K mainGlobals "_law_is_number" = some (some (.ref f19))) (l19 : K.lookup f19 = some ⟨oc19, od19, .func (PySem.W.fnOf "_law_is_number" "_law_is_number" (defArgs s__law_is_number) (defBody s__law_is_number) (defScope s__law_is_number) .none kV19 dc19 pm19 an19 cd19 ct19), sl19⟩) (c19 : PySem.W.codeIn K cd19 "_law_is_number" = true) (k19 : PySem.W.keepIn K (.ref f19) = true)
    {f20 : Addr} {od20 an20 : Option Addr} {sl20 : Array (Option Value)} {oc20 kV20 dc20 pm20 cd20 ct20 : Value}
    (a20 : PySem.W.nsIn K mainGlobals "_law_are_depths" = some (some (.ref f20))) (l20 : K.lookup f20 = some ⟨oc20, od20, .func (PySem.W.fnOf "_law_are_depths" "_law_are_depths" (defArgs s__law_are_depths) (defBody s__law_are_depths) (defScope s__law_are_depths) .none kV20 dc20 pm20 an20 cd20 ct20), sl20⟩) (c20 : PySem.W.codeIn K cd20 "_law_are_depths" = true) (k20 : PySem.W.keepIn K (.ref f20) = true)
    {f21 : Addr} {od21 an21 : Option Addr} {sl21 : Array (Option Value)} {oc21 kV21 dc21 pm21 cd21 ct21 : Value}
    (a21 : PySem.W.nsIn K mainGlobals "_law_is_held" = some (some (.ref f21))) (l21 : K.lookup f21 = some ⟨oc21, od21, .func (PySem.W.fnOf "_law_is_held" "_law_is_held" (defArgs s__law_is_held) (defBody s__law_is_held) (defScope s__law_is_held) .none kV21 dc21 pm21 an21 cd21 ct21), sl21⟩) (c21 : PySem.W.codeIn K cd21 "_law_is_held" = true) (k21 : PySem.W.keepIn K (.ref f21) = true)
    {f22 : Addr} {od22 an22 : Option Addr} {sl22 : Array (Option Value)} {oc22 kV22 dc22 pm22 cd22 ct22 : Value}
    (a22 : PySem.W.nsIn K mainGlobals "_law_is_state" = some (some (.ref f22))) (l22 : K.lookup f22 = some ⟨oc22, od22, .func (PySem.W.fnOf "_law_is_state" "_law_is_state" (defArgs s__law_is_state) (defBody s__law_is_state) (defScope s__law_is_state) .none kV22 dc22 pm22 an22 cd22 ct22), sl22⟩) (c22 : PySem.W.codeIn K cd22 "_law_is_state" = true) (k22 : PySem.W.keepIn K (.ref f22) = true)
    {f23 : Addr} {od23 an23 : Option Addr} {sl23 : Array (Option Value)} {oc23 kV23 dc23 pm23 cd23 ct23 : Value}
    (a23 : PySem.W.nsIn K mainGlobals "_law_are_tilts" = some (some (.ref f23))) (l23 : K.lookup f23 = some ⟨oc23, od23, .func (PySem.W.fnOf "_law_are_tilts" "_law_are_tilts" (defArgs s__law_are_tilts) (defBody s__law_are_tilts) (defScope s__law_are_tilts) .none kV23 dc23 pm23 an23 cd23 ct23), sl23⟩) (c23 : PySem.W.codeIn K cd23 "_law_are_tilts" = true) (k23 : PySem.W.keepIn K (.ref f23) = true)
    {f24 : Addr} {od24 an24 : Option Addr} {sl24 : Array (Option Value)} {oc24 kV24 dc24 pm24 cd24 ct24 : Value}
    (a24 : PySem.W.nsIn K mainGlobals "_law_things_right" = some (some (.ref f24))) (l24 : K.lookup f24 = some ⟨oc24, od24, .func (PySem.W.fnOf "_law_things_right" "_law_things_right" (defArgs s__law_things_right) (defBody s__law_things_right) (defScope s__law_things_right) .none kV24 dc24 pm24 an24 cd24 ct24), sl24⟩) (c24 : PySem.W.codeIn K cd24 "_law_things_right" = true) (k24 : PySem.W.keepIn K (.ref f24) = true)
    {f25 : Addr} {od25 an25 : Option Addr} {sl25 : Array (Option Value)} {oc25 kV25 dc25 pm25 cd25 ct25 : Value}
    (a25 : PySem.W.nsIn K mainGlobals "_law_right" = some (some (.ref f25))) (l25 : K.lookup f25 = some ⟨oc25, od25, .func (PySem.W.fnOf "_law_right" "_law_right" (defArgs s__law_right) (defBody s__law_right) (defScope s__law_right) .none kV25 dc25 pm25 an25 cd25 ct25), sl25⟩) (c25 : PySem.W.codeIn K cd25 "_law_right" = true) (k25 : PySem.W.keepIn K (.ref f25) = true)
    {f26 : Addr} {od26 an26 : Option Addr} {sl26 : Array (Option Value)} {oc26 kV26 dc26 pm26 cd26 ct26 : Value}
    (a26 : PySem.W.nsIn K mainGlobals "law" = some (some (.ref f26))) (l26 : K.lookup f26 = some ⟨oc26, od26, .func (PySem.W.fnOf "law" "law" (defArgs s_law) (defBody s_law) (defScope s_law) .none kV26 dc26 pm26 an26 cd26 ct26), sl26⟩) (c26 : PySem.W.codeIn K cd26 "law" = true) (k26 : PySem.W.keepIn K (.ref f26) = true)
    (z_abs : PySem.W.nsIn K mainGlobals "abs" = some none)
    (z_all : PySem.W.nsIn K mainGlobals "all" = some none)
    (z_bool : PySem.W.nsIn K mainGlobals "bool" = some none)
    (z_int : PySem.W.nsIn K mainGlobals "int" = some none)
    (z_isinstance : PySem.W.nsIn K mainGlobals "isinstance" = some none)
    (z_len : PySem.W.nsIn K mainGlobals "len" = some none)
    (z_list : PySem.W.nsIn K mainGlobals "list" = some none)
    (z_max : PySem.W.nsIn K mainGlobals "max" = some none)
    (z_min : PySem.W.nsIn K mainGlobals "min" = some none)
    (z_range : PySem.W.nsIn K mainGlobals "range" = some none)
    (z_repr : PySem.W.nsIn K mainGlobals "repr" = some none)
    (z_set : PySem.W.nsIn K mainGlobals "set" = some none)
    (z_str : PySem.W.nsIn K mainGlobals "str" = some none)
    (z_tuple : PySem.W.nsIn K mainGlobals "tuple" = some none)
    (z_zip : PySem.W.nsIn K mainGlobals "zip" = some none)
    {s_SIDES : Addr}  {n_SIDES : Nat} {sl_SIDES : Array (Option Value)} {t_SIDES0 t_SIDES1 : Tok} (g_SIDES : PySem.W.nsIn K mainGlobals "SIDES" = some (some (.ref s_SIDES))) (l_SIDES : K.lookup s_SIDES = some ⟨.type "tuple", none, .seq #[.str "left" t_SIDES0, .str "right" t_SIDES1] n_SIDES, sl_SIDES⟩)
    : ∃ fd : FuncData, (∀ (s : Shared) (v : Value), BindsTo s fd ⟨[v], []⟩ [("_law_script", v)]) ∧ ∀ base : Heap, K.In base → base.Ns mainGlobals mg → FnG l.prog w K mg base CX0 12 fa fd ["_law_script"] (spOf K [false] ph_law) := by
  have e := hfa.symm.trans (PySem.W.mg_of X G a26)
  cases e
  have T : Txt K mg := ⟨PySem.W.mg_none_of X G z_abs, PySem.W.mg_none_of X G z_all, PySem.W.mg_none_of X G z_bool, PySem.W.mg_none_of X G z_int, PySem.W.mg_none_of X G z_isinstance, PySem.W.mg_none_of X G z_len, PySem.W.mg_none_of X G z_list, PySem.W.mg_none_of X G z_max, PySem.W.mg_none_of X G z_min, PySem.W.mg_none_of X G z_range, PySem.W.mg_none_of X G z_repr, PySem.W.mg_none_of X G z_set, PySem.W.mg_none_of X G z_str, PySem.W.mg_none_of X G z_tuple, PySem.W.mg_none_of X G z_zip, ⟨_, PySem.W.mg_of X G g_SIDES, kd_tupS ["left", "right"] l_SIDES (.cons ⟨_, rfl⟩ (.cons ⟨_, rfl⟩ .nil)) (show 2 ≤ sizeLine by decide)⟩⟩
  have F0 := fun_mk (st := s_is_number) l0 c0 k0
  have m0 := PySem.W.mg_of X G a0
  have b0 := F0.binds (ps := ["thing"]) fun _ _ _ _ _ _ us hl => match us, hl with | [_], _ => rfl
  have F1 := fun_mk (st := s_is_count) l1 c1 k1
  have m1 := PySem.W.mg_of X G a1
  have b1 := F1.binds (ps := ["thing"]) fun _ _ _ _ _ _ us hl => match us, hl with | [_], _ => rfl
  have F2 := fun_mk (st := s_is_side) l2 c2 k2
  have m2 := PySem.W.mg_of X G a2
  have b2 := F2.binds (ps := ["thing"]) fun _ _ _ _ _ _ us hl => match us, hl with | [_], _ => rfl
  have F3 := fun_mk (st := s_is_rising) l3 c3 k3
  have m3 := PySem.W.mg_of X G a3
  have b3 := F3.binds (ps := ["things"]) fun _ _ _ _ _ _ us hl => match us, hl with | [_], _ => rfl
  have F4 := fun_mk (st := s_is_channel) l4 c4 k4
  have m4 := PySem.W.mg_of X G a4
  have b4 := F4.binds (ps := ["thing"]) fun _ _ _ _ _ _ us hl => match us, hl with | [_], _ => rfl
  have F5 := fun_mk (st := s_is_lot) l5 c5 k5
  have m5 := PySem.W.mg_of X G a5
  have b5 := F5.binds (ps := ["channel", "thing"]) fun _ _ _ _ _ _ us hl => match us, hl with | [_, _], _ => rfl
  have F6 := fun_mk (st := s_is_standing) l6 c6 k6
  have m6 := PySem.W.mg_of X G a6
  have b6 := F6.binds (ps := ["channel", "thing"]) fun _ _ _ _ _ _ us hl => match us, hl with | [_, _], _ => rfl
  have F7 := fun_mk (st := s_is_tilt) l7 c7 k7
  have m7 := PySem.W.mg_of X G a7
  have b7 := F7.binds (ps := ["thing"]) fun _ _ _ _ _ _ us hl => match us, hl with | [_], _ => rfl
  have F8 := fun_mk (st := s_is_row) l8 c8 k8
  have m8 := PySem.W.mg_of X G a8
  have b8 := F8.binds (ps := ["thing"]) fun _ _ _ _ _ _ us hl => match us, hl with | [_], _ => rfl
  have F9 := fun_mk (st := s__law_cell_at) l9 c9 k9
  have m9 := PySem.W.mg_of X G a9
  have b9 := F9.binds (ps := ["_law_script", "_law_k"]) fun _ _ _ _ _ _ us hl => match us, hl with | [_, _], _ => rfl
  have F10 := fun_mk (st := s__law_box) l10 c10 k10
  have m10 := PySem.W.mg_of X G a10
  have b10 := F10.binds (ps := ["_law_script", "_law_k"]) fun _ _ _ _ _ _ us hl => match us, hl with | [_, _], _ => rfl
  have F11 := fun_mk (st := s__law_take) l11 c11 k11
  have m11 := PySem.W.mg_of X G a11
  have b11 := F11.binds (ps := ["_law_box_here", "_law_span"]) fun _ _ _ _ _ _ us hl => match us, hl with | [_, _], _ => rfl
  have F12 := fun_mk (st := s__law_of) l12 c12 k12
  have m12 := PySem.W.mg_of X G a12
  have b12 := F12.binds (ps := ["_law_box_here", "_law_some"]) fun _ _ _ _ _ _ us hl => match us, hl with | [_, _], _ => rfl
  have F13 := fun_mk (st := s__law_same) l13 c13 k13
  have m13 := PySem.W.mg_of X G a13
  have b13 := F13.binds (ps := ["_law_found", "_law_due"]) fun _ _ _ _ _ _ us hl => match us, hl with | [_, _], _ => rfl
  have F14 := fun_mk (st := s__law_strewn) l14 c14 k14
  have m14 := PySem.W.mg_of X G a14
  have b14 := F14.binds (ps := ["_law_box_here", "_law_some"]) fun _ _ _ _ _ _ us hl => match us, hl with | [_, _], _ => rfl
  have F15 := fun_mk (st := s__law_wire) l15 c15 k15
  have m15 := PySem.W.mg_of X G a15
  have b15 := F15.binds (ps := ["_law_box_here", "_law_most"]) fun _ _ _ _ _ _ us hl => match us, hl with | [_, _], _ => rfl
  have F16 := fun_mk (st := s__law_power) l16 c16 k16
  have m16 := PySem.W.mg_of X G a16
  have b16 := F16.binds (ps := ["_law_box_here", "_law_wire_here"]) fun _ _ _ _ _ _ us hl => match us, hl with | [_, _], _ => rfl
  have F17 := fun_mk (st := s__law_any) l17 c17 k17
  have m17 := PySem.W.mg_of X G a17
  have b17 := F17.binds (ps := ["_law_box_here", "_law_wire_here", "_law_most"]) fun _ _ _ _ _ _ us hl => match us, hl with | [_, _, _], _ => rfl
  have F18 := fun_mk (st := s__law_bent) l18 c18 k18
  have m18 := PySem.W.mg_of X G a18
  have b18 := F18.binds (ps := ["_law_box_here", "_law_part"]) fun _ _ _ _ _ _ us hl => match us, hl with | [_, _], _ => rfl
  have F19 := fun_mk (st := s__law_is_number) l19 c19 k19
  have m19 := PySem.W.mg_of X G a19
  have b19 := F19.binds (ps := ["_law_part", "_law_least"]) fun _ _ _ _ _ _ us hl => match us, hl with | [_, _], _ => rfl
  have F20 := fun_mk (st := s__law_are_depths) l20 c20 k20
  have m20 := PySem.W.mg_of X G a20
  have b20 := F20.binds (ps := ["_law_matter"]) fun _ _ _ _ _ _ us hl => match us, hl with | [_], _ => rfl
  have F21 := fun_mk (st := s__law_is_held) l21 c21 k21
  have m21 := PySem.W.mg_of X G a21
  have b21 := F21.binds (ps := ["_law_wire_here", "_law_matter"]) fun _ _ _ _ _ _ us hl => match us, hl with | [_, _], _ => rfl
  have F22 := fun_mk (st := s__law_is_state) l22 c22 k22
  have m22 := PySem.W.mg_of X G a22
  have b22 := F22.binds (ps := ["_law_wire_here", "_law_matter"]) fun _ _ _ _ _ _ us hl => match us, hl with | [_, _], _ => rfl
  have F23 := fun_mk (st := s__law_are_tilts) l23 c23 k23
  have m23 := PySem.W.mg_of X G a23
  have b23 := F23.binds (ps := ["_law_matter"]) fun _ _ _ _ _ _ us hl => match us, hl with | [_], _ => rfl
  have F24 := fun_mk (st := s__law_things_right) l24 c24 k24
  have m24 := PySem.W.mg_of X G a24
  have b24 := F24.binds (ps := ["_law_wire_here", "_law_matters"]) fun _ _ _ _ _ _ us hl => match us, hl with | [_, _], _ => rfl
  have F25 := fun_mk (st := s__law_right) l25 c25 k25
  have m25 := PySem.W.mg_of X G a25
  have b25 := F25.binds (ps := ["_law_box_here"]) fun _ _ _ _ _ _ us hl => match us, hl with | [_], _ => rfl
  have F26 := fun_mk (st := s_law) l26 c26 k26
  have m26 := PySem.W.mg_of X G a26
  have b26 := F26.binds (ps := ["_law_script"]) fun _ _ _ _ _ _ us hl => match us, hl with | [_], _ => rfl
  refine ⟨PySem.W.fnOf "law" "law" (defArgs s_law) (defBody s_law) (defScope s_law) .none kV26 dc26 pm26 an26 cd26 ct26, fun s v => .of_eq rfl, fun base _ _ => ?_⟩
  have O0 := ok_is_number (P := l.prog) (w := w) (base := base) F0 T  
  have C0 : Fnc l.prog w K mg base 1 "is_number" [false] ph_is_number := ⟨_, _, _, O0, m0, F0.kp, b0⟩
  have O1 := ok_is_count (P := l.prog) (w := w) (base := base) F1 T C0 
  have C1 : Fnc l.prog w K mg base 2 "is_count" [false] ph_is_count := ⟨_, _, _, O1, m1, F1.kp, b1⟩
  have O2 := ok_is_side (P := l.prog) (w := w) (base := base) F2 T  
  have C2 : Fnc l.prog w K mg base 1 "is_side" [false] ph_is_side := ⟨_, _, _, O2, m2, F2.kp, b2⟩
  have O3 := ok_is_rising (P := l.prog) (w := w) (base := base) F3 T  
  have C3 : Fnc l.prog w K mg base 1 "is_rising" [false] ph_is_rising := ⟨_, _, _, O3, m3, F3.kp, b3⟩
  have O4 := ok_is_channel (P := l.prog) (w := w) (base := base) F4 T C0 
  have C4 : Fnc l.prog w K mg base 2 "is_channel" [false] ph_is_channel := ⟨_, _, _, O4, m4, F4.kp, b4⟩
  have k_is_channel_0_0 : FncK l.prog w K mg base 2 "is_channel" 1 0 ["thing"] [0] ph_is_channel := ⟨_, _, _, O4, m4, F4.kp, kwb_of F4 fun _ _ _ _ _ _ us ws h1 h2 => match us, ws, h1, h2 with | [], [_], _, _ => rfl⟩
  have O5 := ok_is_lot (P := l.prog) (w := w) (base := base) F5 T C1 C3 
  have C5 : Fnc l.prog w K mg base 3 "is_lot" [false, false] ph_is_lot := ⟨_, _, _, O5, m5, F5.kp, b5⟩
  have k_is_lot_1_0_0 : FncK l.prog w K mg base 3 "is_lot" 2 0 ["thing", "channel"] [1, 0] ph_is_lot := ⟨_, _, _, O5, m5, F5.kp, kwb_of F5 fun _ _ _ _ _ _ us ws h1 h2 => match us, ws, h1, h2 with | [], [_, _], _, _ => rfl⟩
  have O6 := ok_is_standing (P := l.prog) (w := w) (base := base) F6 T C1 C5 
  have C6 : Fnc l.prog w K mg base 4 "is_standing" [false, false] ph_is_standing := ⟨_, _, _, O6, m6, F6.kp, b6⟩
  have k_is_standing_1_0_0 : FncK l.prog w K mg base 4 "is_standing" 2 0 ["thing", "channel"] [1, 0] ph_is_standing := ⟨_, _, _, O6, m6, F6.kp, kwb_of F6 fun _ _ _ _ _ _ us ws h1 h2 => match us, ws, h1, h2 with | [], [_, _], _, _ => rfl⟩
  have O7 := ok_is_tilt (P := l.prog) (w := w) (base := base) F7 T C0 C2 
  have C7 : Fnc l.prog w K mg base 2 "is_tilt" [false] ph_is_tilt := ⟨_, _, _, O7, m7, F7.kp, b7⟩
  have O8 := ok_is_row (P := l.prog) (w := w) (base := base) F8 T C7 
  have C8 : Fnc l.prog w K mg base 3 "is_row" [false] ph_is_row := ⟨_, _, _, O8, m8, F8.kp, b8⟩
  have k_is_row_0_0 : FncK l.prog w K mg base 3 "is_row" 1 0 ["thing"] [0] ph_is_row := ⟨_, _, _, O8, m8, F8.kp, kwb_of F8 fun _ _ _ _ _ _ us ws h1 h2 => match us, ws, h1, h2 with | [], [_], _, _ => rfl⟩
  have O9 := ok__law_cell_at (P := l.prog) (w := w) (base := base) F9 T  
  have C9 : Fnc l.prog w K mg base 1 "_law_cell_at" [false, false] ph__law_cell_at := ⟨_, _, _, O9, m9, F9.kp, b9⟩
  have O10 := ok__law_box (P := l.prog) (w := w) (base := base) F10 T C9 
  have C10 : Fnc l.prog w K mg base 2 "_law_box" [false, false] ph__law_box := ⟨_, _, _, O10, m10, F10.kp, b10⟩
  have O11 := ok__law_take (P := l.prog) (w := w) (base := base) F11 T  
  have C11 : Fnc l.prog w K mg base 1 "_law_take" [true, false] ph__law_take := ⟨_, _, _, O11, m11, F11.kp, b11⟩
  have O12 := ok__law_of (P := l.prog) (w := w) (base := base) F12 T C11 
  have C12 : Fnc l.prog w K mg base 2 "_law_of" [true, false] ph__law_of := ⟨_, _, _, O12, m12, F12.kp, b12⟩
  have R0 : Fnc l.prog w K mg base 1 "_law_same" [false, false] noPhi := ⟨_, _, _, fnok_no F13 sc__law_same, m13, F13.kp, b13⟩
  have R1 : Fnc l.prog w K mg base 2 "_law_same" [false, false] (phSame 0) := ⟨_, _, _, ok__law_same F13 T (j := 0) vc__law_same0 R0  , m13, F13.kp, b13⟩
  have R2 : Fnc l.prog w K mg base 3 "_law_same" [false, false] (phSame 1) := ⟨_, _, _, ok__law_same F13 T (j := 1) (vc__law_same 0) R1  , m13, F13.kp, b13⟩
  have R3 : Fnc l.prog w K mg base 4 "_law_same" [false, false] (phSame 2) := ⟨_, _, _, ok__law_same F13 T (j := 2) (vc__law_same 1) R2  , m13, F13.kp, b13⟩
  have R4 : Fnc l.prog w K mg base 5 "_law_same" [false, false] (phSame 3) := ⟨_, _, _, ok__law_same F13 T (j := 3) (vc__law_same 2) R3  , m13, F13.kp, b13⟩
  have R5 : Fnc l.prog w K mg base 6 "_law_same" [false, false] (phSame 4) := ⟨_, _, _, ok__law_same F13 T (j := 4) (vc__law_same 3) R4  , m13, F13.kp, b13⟩
  have R6 : Fnc l.prog w K mg base 7 "_law_same" [false, false] (phSame 5) := ⟨_, _, _, ok__law_same F13 T (j := 5) (vc__law_same 4) R5  , m13, F13.kp, b13⟩
  have R7 : Fnc l.prog w K mg base 8 "_law_same" [false, false] (phSame 6) := ⟨_, _, _, ok__law_same F13 T (j := 6) (vc__law_same 5) R6  , m13, F13.kp, b13⟩
  have R8 : Fnc l.prog w K mg base 9 "_law_same" [false, false] (phSame 7) := ⟨_, _, _, ok__law_same F13 T (j := 7) (vc__law_same 6) R7  , m13, F13.kp, b13⟩
  have C13 : Fnc l.prog w K mg base 9 "_law_same" [false, false] ph__law_same := R8
  have O14 := ok__law_strewn (P := l.prog) (w := w) (base := base) F14 T C11 
  have C14 : Fnc l.prog w K mg base 2 "_law_strewn" [true, false] ph__law_strewn := ⟨_, _, _, O14, m14, F14.kp, b14⟩
  have O15 := ok__law_wire (P := l.prog) (w := w) (base := base) F15 T C11 C12 C14 
  have C15 : Fnc l.prog w K mg base 3 "_law_wire" [true, false] ph__law_wire := ⟨_, _, _, O15, m15, F15.kp, b15⟩
  have O16 := ok__law_power (P := l.prog) (w := w) (base := base) F16 T C12 
  have C16 : Fnc l.prog w K mg base 3 "_law_power" [true, false] ph__law_power := ⟨_, _, _, O16, m16, F16.kp, b16⟩
  have O17 := ok__law_any (P := l.prog) (w := w) (base := base) F17 T C11 C12 
  have C17 : Fnc l.prog w K mg base 3 "_law_any" [true, false, false] ph__law_any := ⟨_, _, _, O17, m17, F17.kp, b17⟩
  have R0 : Fnc l.prog w K mg base 2 "_law_bent" [true, false] noPhi := ⟨_, _, _, fnok_no F18 sc__law_bent, m18, F18.kp, b18⟩
  have R1 : Fnc l.prog w K mg base 3 "_law_bent" [true, false] (phR__law_bent 0) := ⟨_, _, _, ok__law_bent F18 T (j := 0) vc__law_bent0 R0 C11 C12 , m18, F18.kp, b18⟩
  have R2 : Fnc l.prog w K mg base 4 "_law_bent" [true, false] (phR__law_bent 1) := ⟨_, _, _, ok__law_bent F18 T (j := 1) (vc__law_bent 0) R1 C11 C12 , m18, F18.kp, b18⟩
  have R3 : Fnc l.prog w K mg base 5 "_law_bent" [true, false] (phR__law_bent 2) := ⟨_, _, _, ok__law_bent F18 T (j := 2) (vc__law_bent 1) R2 C11 C12 , m18, F18.kp, b18⟩
  have R4 : Fnc l.prog w K mg base 6 "_law_bent" [true, false] (phR__law_bent 3) := ⟨_, _, _, ok__law_bent F18 T (j := 3) (vc__law_bent 2) R3 C11 C12 , m18, F18.kp, b18⟩
  have R5 : Fnc l.prog w K mg base 7 "_law_bent" [true, false] (phR__law_bent 4) := ⟨_, _, _, ok__law_bent F18 T (j := 4) (vc__law_bent 3) R4 C11 C12 , m18, F18.kp, b18⟩
  have R6 : Fnc l.prog w K mg base 8 "_law_bent" [true, false] (phR__law_bent 5) := ⟨_, _, _, ok__law_bent F18 T (j := 5) (vc__law_bent 4) R5 C11 C12 , m18, F18.kp, b18⟩
  have R7 : Fnc l.prog w K mg base 9 "_law_bent" [true, false] (phR__law_bent 6) := ⟨_, _, _, ok__law_bent F18 T (j := 6) (vc__law_bent 5) R6 C11 C12 , m18, F18.kp, b18⟩
  have R8 : Fnc l.prog w K mg base 10 "_law_bent" [true, false] (phR__law_bent 7) := ⟨_, _, _, ok__law_bent F18 T (j := 7) (vc__law_bent 6) R7 C11 C12 , m18, F18.kp, b18⟩
  have C18 : Fnc l.prog w K mg base 10 "_law_bent" [true, false] ph__law_bent := R8
  have O19 := ok__law_is_number (P := l.prog) (w := w) (base := base) F19 T  
  have C19 : Fnc l.prog w K mg base 1 "_law_is_number" [false, false] ph__law_is_number := ⟨_, _, _, O19, m19, F19.kp, b19⟩
  have O20 := ok__law_are_depths (P := l.prog) (w := w) (base := base) F20 T C19 
  have C20 : Fnc l.prog w K mg base 2 "_law_are_depths" [false] ph__law_are_depths := ⟨_, _, _, O20, m20, F20.kp, b20⟩
  have O21 := ok__law_is_held (P := l.prog) (w := w) (base := base) F21 T C19 
  have C21 : Fnc l.prog w K mg base 2 "_law_is_held" [false, false] ph__law_is_held := ⟨_, _, _, O21, m21, F21.kp, b21⟩
  have O22 := ok__law_is_state (P := l.prog) (w := w) (base := base) F22 T C19 C21 
  have C22 : Fnc l.prog w K mg base 3 "_law_is_state" [false, false] ph__law_is_state := ⟨_, _, _, O22, m22, F22.kp, b22⟩
  have O23 := ok__law_are_tilts (P := l.prog) (w := w) (base := base) F23 T C19 
  have C23 : Fnc l.prog w K mg base 2 "_law_are_tilts" [false] ph__law_are_tilts := ⟨_, _, _, O23, m23, F23.kp, b23⟩
  have O24 := ok__law_things_right (P := l.prog) (w := w) (base := base) F24 T C4 C5 C6 C8 C13 C20 C21 C22 C23 
  have C24 : Fnc l.prog w K mg base 10 "_law_things_right" [false, false] ph__law_things_right := ⟨_, _, _, O24, m24, F24.kp, b24⟩
  have O25 := ok__law_right (P := l.prog) (w := w) (base := base) F25 T C4 C5 C6 C8 C11 C12 C13 C15 C16 C17 C18 C24 k_is_channel_0_0 k_is_lot_1_0_0 k_is_row_0_0 k_is_standing_1_0_0
  have C25 : Fnc l.prog w K mg base 11 "_law_right" [true] ph__law_right := ⟨_, _, _, O25, m25, F25.kp, b25⟩
  exact ok_law F26 T C10 C25 
end Lw
open PySem PySem.W PyProof.Rows in
set_option maxRecDepth 100000 in
set_option maxHeartbeats 0 in
theorem PySem.Challenge.cw_tiltpits_k01_channels_lots_standings_or_holds : PySem.Challenge.rw_tiltpits_k01_channels_lots_standings_or.Holds := by
  w_on; o_law; k_head; (case hw => w_witness2)
  k_fill
  refine Pv.walk_g (l := PySem.Challenge.rw_tiltpits_k01_channels_lots_standings_or) (n := 63) (k := 12) (x := "_law_script") (spw := fun w => Pv.spOf _ [false] Lw.ph_law) rfl (by decide) rfl ⟨rfl, by decide, by decide⟩ (fun w h Y => PySem.W.kIn_of Y) ?F (fun _ _ a ns hl _ hS => Lw.law_sp hS hl fun _ => rfl)
  case F =>
    intro w mg fa h KX G hmg
    refine' Lw.all_mk KX G hmg ?a0 ?l0 ?c0 ?k0 ?a1 ?l1 ?c1 ?k1 ?a2 ?l2 ?c2 ?k2 ?a3 ?l3 ?c3 ?k3 ?a4 ?l4 ?c4 ?k4 ?a5 ?l5 ?c5 ?k5 ?a6 ?l6 ?c6 ?k6 ?a7 ?l7 ?c7 ?k7 ?a8 ?l8 ?c8 ?k8 ?a9 ?l9 ?c9 ?k9 ?a10 ?l10 ?c10 ?k10 ?a11 ?l11 ?c11 ?k11 ?a12 ?l12 ?c12 ?k12 ?a13 ?l13 ?c13 ?k13 ?a14 ?l14 ?c14 ?k14 ?a15 ?l15 ?c15 ?k15 ?a16 ?l16 ?c16 ?k16 ?a17 ?l17 ?c17 ?k17 ?a18 ?l18 ?c18 ?k18 ?a19 ?l19 ?c19 ?k19 ?a20 ?l20 ?c20 ?k20 ?a21 ?l21 ?c21 ?k21 ?a22 ?l22 ?c22 ?k22 ?a23 ?l23 ?c23 ?k23 ?a24 ?l24 ?c24 ?k24 ?a25 ?l25 ?c25 ?k25 ?a26 ?l26 ?c26 ?k26 ?z_abs ?z_all ?z_bool ?z_int ?z_isinstance ?z_len ?z_list ?z_max ?z_min ?z_range ?z_repr ?z_set ?z_str ?z_tuple ?z_zip ?g_SIDES ?l_SIDES
    (case a0 => k_is)
    (case l0 => k_is)
    (case c0 => k_is)
    (case k0 => k_is)
    (case a1 => k_is)
    (case l1 => k_is)
    (case c1 => k_is)
    (case k1 => k_is)
    (case a2 => k_is)
    (case l2 => k_is)
    (case c2 => k_is)
    (case k2 => k_is)
    (case a3 => k_is)
    (case l3 => k_is)
    (case c3 => k_is)
    (case k3 => k_is)
    (case a4 => k_is)
    (case l4 => k_is)
    (case c4 => k_is)
    (case k4 => k_is)
    (case a5 => k_is)
    (case l5 => k_is)
    (case c5 => k_is)
    (case k5 => k_is)
    (case a6 => k_is)
    (case l6 => k_is)
    (case c6 => k_is)
    (case k6 => k_is)
    (case a7 => k_is)
    (case l7 => k_is)
    (case c7 => k_is)
    (case k7 => k_is)
    (case a8 => k_is)
    (case l8 => k_is)
    (case c8 => k_is)
    (case k8 => k_is)
    (case a9 => k_is)
    (case l9 => k_is)
    (case c9 => k_is)
    (case k9 => k_is)
    (case a10 => k_is)
    (case l10 => k_is)
    (case c10 => k_is)
    (case k10 => k_is)
    (case a11 => k_is)
    (case l11 => k_is)
    (case c11 => k_is)
    (case k11 => k_is)
    (case a12 => k_is)
    (case l12 => k_is)
    (case c12 => k_is)
    (case k12 => k_is)
    (case a13 => k_is)
    (case l13 => k_is)
    (case c13 => k_is)
    (case k13 => k_is)
    (case a14 => k_is)
    (case l14 => k_is)
    (case c14 => k_is)
    (case k14 => k_is)
    (case a15 => k_is)
    (case l15 => k_is)
    (case c15 => k_is)
    (case k15 => k_is)
    (case a16 => k_is)
    (case l16 => k_is)
    (case c16 => k_is)
    (case k16 => k_is)
    (case a17 => k_is)
    (case l17 => k_is)
    (case c17 => k_is)
    (case k17 => k_is)
    (case a18 => k_is)
    (case l18 => k_is)
    (case c18 => k_is)
    (case k18 => k_is)
    (case a19 => k_is)
    (case l19 => k_is)
    (case c19 => k_is)
    (case k19 => k_is)
    (case a20 => k_is)
    (case l20 => k_is)
    (case c20 => k_is)
    (case k20 => k_is)
    (case a21 => k_is)
    (case l21 => k_is)
    (case c21 => k_is)
    (case k21 => k_is)
    (case a22 => k_is)
    (case l22 => k_is)
    (case c22 => k_is)
    (case k22 => k_is)
    (case a23 => k_is)
    (case l23 => k_is)
    (case c23 => k_is)
    (case k23 => k_is)
    (case a24 => k_is)
    (case l24 => k_is)
    (case c24 => k_is)
    (case k24 => k_is)
    (case a25 => k_is)
    (case l25 => k_is)
    (case c25 => k_is)
    (case k25 => k_is)
    (case a26 => k_is)
    (case l26 => k_is)
    (case c26 => k_is)
    (case k26 => k_is)
    (case z_abs => k_is)
    (case z_all => k_is)
    (case z_bool => k_is)
    (case z_int => k_is)
    (case z_isinstance => k_is)
    (case z_len => k_is)
    (case z_list => k_is)
    (case z_max => k_is)
    (case z_min => k_is)
    (case z_range => k_is)
    (case z_repr => k_is)
    (case z_set => k_is)
    (case z_str => k_is)
    (case z_tuple => k_is)
    (case z_zip => k_is)
    (case g_SIDES => k_is)
    (case l_SIDES => k_is)
#print axioms PySem.Challenge.cw_tiltpits_k01_channels_lots_standings_or_holds
