import PyProof.Rows.All
import Wide.All
import OpenK.AllK
import Wide.FinOn
import HandS.ForMost
import HandS.Flow
import HandS.Style
import HandS.Conv
import HandS.Exc
import KE.KExcIs
import KE.KNestM
import HandS.Lambda
import HandS.Zip
import HandS.TupAny
import HandS.Wide
import HandS.TryOnly
import HandS.WordsExc
import HandS.ExcInit
import PyProof.ReprReads
import PyProof.ReprRoads
import PyProof.Rows.RuleB_pow
import PyProof.StrOps2
import HandS.IsInst
import HandS.SortInts
import PyProof.AutoSeq1
import KE.KRevSl
import HandS.More
import HandS.Text
import HandS.Codes
import HandS.SetFor
import HandS.Strs
import HandS.Set
import PyProof.Rows.SetFrom
import PyProof.Rows.IntBool
import PyProof.Rows.StrStep
import PyProof.NeKinds
import HandS.ExcValue
import PyProof.Rows.SortShellAny
import PyProof.Rows.StrMeet
import HandS.TupMul
import PyProof.Rows.StrInSeq3
import HandS.ListItems
import HandS.DictComp
import HandS.SortKw
import HandS.WordsDict
import KE.DataMinMax
import KE.GoesEnum
import PyProof.DictUpdate
import KE.KDictList
import KE.KDictPairs
import PyProof.SeqIndex
import HandS.SortOrd
import PyProof.Rows.SortKeyStr
import HandS.TupLe
import HandS.Deep
import PyProof.Rows.SeqMore
import KE.SortKeyHeap
import HandS.Iter
import HandS.EndBits
import HandS.Defaults
import KE.GoesMore
import HandS.Call
import HandS.WideBits
import PyProof.SumWalkG
import PyProof.Rows.ReprOcc
import PySem.Challenge.RW_keyedmoves_k46_batches
set_option Elab.async false
set_option linter.all false
set_option autoImplicit false
set_option maxRecDepth 100000
set_option maxHeartbeats 4000000
namespace DS
open PySem PySem.Spec PyProof.Rows L2

/-- data without addresses; ref: an address of its own standing (something that changes, a def, a class) -/
inductive SD where
  | non | bl (b : Bool) | int (i : Int) | str (x : Str) | ref (a : Addr) | ty (n : String)
  | tup (xs : List SD) | lst (xs : List SD) | dic (kvs : List (Key × SD))
  /-- a list that is read only (the script) -/
  | rol (xs : List SD)
  /-- an error of the own class named x, with its fields; it changes no more -/
  | exc (x : Str) (fs : List (Str × SD))
  /-- a tuple of which it is known that it has no dict of its own -/
  | ptp (xs : List SD)

/-- at a: an error of the class at C, its dict -/
def exq (a C : Addr) (d : Option Addr) : HO := .ext fun h => ∃ (oe : Obj) (vs : Array Value), h.get? a = some oe ∧ Zc (.ref C) d oe ∧ oe.data = .fields vs
/-- what the written part says of the class named x, and of the names fs as fields of its instances -/
structure XcK (K : PySem.W.Frag) (x : Str) (C : Addr) (fs : List Str) : Prop where
  at_ : PySem.W.nsIn K mainGlobals x = some (some (.ref C))
  ga : PySem.W.findIn K (.ref C) "__getattribute__" = some (some (.builtin "BaseException.__getattribute__"))
  gg : PySem.W.findIn K (.ref C) "__getattr__" = some none
  sub : PySem.W.subIn K (.ref C) (.type "BaseException") = some true
  hd : PySem.W.hasDictIn K C = true
  cl : PySem.W.findIn K (.ref C) "__class__" = some (some (.builtin "object.__class__"))
  sp : PySem.W.specialIn K (.builtin "object.__class__") "__get__" = some (some (.builtin "getset_descriptor.__get__"))
  tk : PySem.W.takesIn K (.builtin "object.__class__") = some true
  mro : PySem.W.mroIn K C (.type "object") = some true
  no : ∀ f ∈ fs, PySem.W.findIn K (.ref C) f = some none
/-- what tells of a thing that stays as it is -/
def still : HO → Bool
  | .ext _ => true
  | .xd _ => true
  | _ => false

mutual
/-- the value v is the datum, by what F knows -/
inductive RepS (K : PySem.W.Frag) (F : Hp) : SD → V → Prop
  | non : RepS K F .non .non
  | bl (b : Bool) : RepS K F (.bl b) (.bl b)
  | int (i : Int) : RepS K F (.int i) (.int i)
  | str (x : Str) : RepS K F (.str x) (.str x)
  | ref (a : Addr) : RepS K F (.ref a) (.ref a)
  | ty (n : String) : RepS K F (.ty n) (.ty n)
  | tup {a : Addr} {ds : List SD} {vs : List V} : SqT K F a vs → RepL K F ds vs → RepS K F (.tup ds) (.ref a)
  | lst {a : Addr} {ds : List SD} {vs : List V} : F a = some (.lst vs) → RepL K F ds vs → RepS K F (.lst ds) (.ref a)
  | rol {a : Addr} {ds : List SD} {vs : List V} : SqL K F a vs → RepL K F ds vs → RepS K F (.rol ds) (.ref a)
  | dic {a : Addr} {ds : List (Key × SD)} {vs : List (Key × V)} : Rd F a (.dK vs) → vs.map (·.1) = ds.map (·.1) → RepL K F (ds.map (·.2)) (vs.map (·.2)) → RepS K F (.dic ds) (.ref a)
  | exc0 {a C : Addr} {x : Str} : XcK K x C [] → F a = some (exq a C none) → RepS K F (.exc x []) (.ref a)
  | exc {a C dx : Addr} {x : Str} {ds : List (Str × SD)} {vs : List (Str × V)} : XcK K x C (ds.map (·.1)) → F a = some (exq a C (some dx)) → F dx = some (.xd vs) → vs.map (·.1) = ds.map (·.1) → RepL K F (ds.map (·.2)) (vs.map (·.2)) → RepS K F (.exc x ds) (.ref a)
  | ptp {a : Addr} {o : Obj} {ds : List SD} {vs : List V} : F a = some (.frz o (.tup vs)) → o.dict = none → RepL K F ds vs → RepS K F (.ptp ds) (.ref a)
inductive RepL (K : PySem.W.Frag) (F : Hp) : List SD → List V → Prop
  | nil : RepL K F [] []
  | cons {d : SD} {v : V} {ds : List SD} {vs : List V} : RepS K F d v → RepL K F ds vs → RepL K F (d :: ds) (v :: vs)
end

/-- F' reads whatever F reads -/
structure Ext (F F' : Hp) : Prop where
  rd : ∀ a u, Rd F a u → Rd F' a u
  ls : ∀ a vs, F a = some (.lst vs) → F' a = some (.lst vs)
  fz : ∀ a o u, F a = some (.frz o u) → F' a = some (.frz o u)
  st : ∀ a o, still o = true → F a = some o → F' a = some o
theorem Ext.refl (F : Hp) : Ext F F := ⟨fun _ _ h => h, fun _ _ h => h, fun _ _ _ h => h, fun _ _ _ h => h⟩
theorem Ext.trans {F F1 F2 : Hp} (a : Ext F F1) (b : Ext F1 F2) : Ext F F2 := ⟨fun x u h => b.rd x u (a.rd x u h), fun x u h => b.ls x u (a.ls x u h), fun x o u h => b.fz x o u (a.fz x o u h), fun x o q h => b.st x o q (a.st x o q h)⟩
theorem Ext.sqL {K : PySem.W.Frag} {F F' : Hp} {a : Addr} {xs : List V} (e : Ext F F') (h : SqL K F a xs) : SqL K F' a xs := h.elim (fun r => .inl (e.rd a _ r)) .inr
theorem Ext.sqT {K : PySem.W.Frag} {F F' : Hp} {a : Addr} {xs : List V} (e : Ext F F') (h : SqT K F a xs) : SqT K F' a xs := h.elim (fun r => .inl (e.rd a _ r)) .inr
theorem Ext.of_sub {F F' : Hp} (h : ∀ a o, F a = some o → F' a = some o) : Ext F F' := ⟨fun a u r => r.elim (fun z => .inl (h a _ z)) fun ⟨o, z⟩ => .inr ⟨o, h a _ z⟩, fun a vs z => h a _ z, fun a o u z => h a _ z, fun a o _ z => h a _ z⟩
theorem Ext.new {F : Hp} {p : Addr} {o : HO} (h : F p = none) : Ext F (upd F p o) := Ext.of_sub fun a u e => by
  rw [upd_ne (ne_of_none e h)]; exact e

mutual
theorem RepS.mono {K : PySem.W.Frag} {F F' : Hp} (e : Ext F F') : ∀ {d : SD} {v : V}, RepS K F d v → RepS K F' d v
  | _, _, .non => .non
  | _, _, .bl b => .bl b
  | _, _, .int i => .int i
  | _, _, .str x => .str x
  | _, _, .ref a => .ref a
  | _, _, .ty n => .ty n
  | _, _, .tup h r => .tup (e.sqT h) (RepL.mono e r)
  | _, _, .lst h r => .lst (e.ls _ _ h) (RepL.mono e r)
  | _, _, .rol h r => .rol (e.sqL h) (RepL.mono e r)
  | _, _, .dic h q r => .dic (e.rd _ _ h) q (RepL.mono e r)
  | _, _, .exc0 h q => .exc0 h (e.st _ _ rfl q)
  | _, _, .exc h q p z r => .exc h (e.st _ _ rfl q) (e.st _ _ rfl p) z (RepL.mono e r)
  | _, _, .ptp h q r => .ptp (e.fz _ _ _ h) q (RepL.mono e r)
theorem RepL.mono {K : PySem.W.Frag} {F F' : Hp} (e : Ext F F') : ∀ {ds : List SD} {vs : List V}, RepL K F ds vs → RepL K F' ds vs
  | _, _, .nil => .nil
  | _, _, .cons h r => .cons (RepS.mono e h) (RepL.mono e r)
end

section
variable {K : PySem.W.Frag} {F : Hp}
theorem RepL.length : ∀ {ds : List SD} {vs : List V}, RepL K F ds vs → ds.length = vs.length
  | _, _, .nil => rfl
  | _, _, .cons _ r => congrArg (· + 1) (RepL.length r)
theorem RepL.get : ∀ {ds : List SD} {vs : List V} {i : Nat} {d : SD}, RepL K F ds vs → ds[i]? = some d → ∃ v, vs[i]? = some v ∧ RepS K F d v
  | _, _, _, _, .nil, e => by simp at e
  | _, _, 0, _, .cons h _, e => by simp at e; subst e; exact ⟨_, rfl, h⟩
  | _, _, i + 1, d, .cons _ r, e => by
    obtain ⟨v, h1, h2⟩ := RepL.get (i := i) (d := d) r (by simpa using e)
    exact ⟨v, by simpa using h1, h2⟩
theorem RepL.getV : ∀ {ds : List SD} {vs : List V} {i : Nat} {v : V}, RepL K F ds vs → vs[i]? = some v → ∃ d, ds[i]? = some d ∧ RepS K F d v
  | _, _, _, _, .nil, e => by simp at e
  | _, _, 0, _, .cons h _, e => by simp at e; subst e; exact ⟨_, rfl, h⟩
  | _, _, i + 1, v, .cons _ r, e => by
    obtain ⟨d, h1, h2⟩ := RepL.getV (i := i) (v := v) r (by simpa using e)
    exact ⟨d, by simpa using h1, h2⟩
theorem RepL.append : ∀ {ds es : List SD} {vs ws : List V}, RepL K F ds vs → RepL K F es ws → RepL K F (ds ++ es) (vs ++ ws)
  | _, _, _, _, .nil, s => s
  | _, _, _, _, .cons h r, s => .cons h (RepL.append r s)
theorem RepL.take : ∀ {ds : List SD} {vs : List V} (n : Nat), RepL K F ds vs → RepL K F (ds.take n) (vs.take n)
  | _, _, 0, _ => .nil
  | _, _, _ + 1, .nil => .nil
  | _, _, n + 1, .cons h r => .cons h (RepL.take n r)
theorem RepL.drop : ∀ {ds : List SD} {vs : List V} (n : Nat), RepL K F ds vs → RepL K F (ds.drop n) (vs.drop n)
  | _, _, 0, r => r
  | _, _, _ + 1, .nil => .nil
  | _, _, n + 1, .cons _ r => RepL.drop n r
theorem RepL.one {d : SD} {v : V} (h : RepS K F d v) : RepL K F [d] [v] := .cons h .nil
theorem RepL.set {e : SD} {w : V} (h : RepS K F e w) : ∀ {ds : List SD} {vs : List V} (i : Nat), RepL K F ds vs → RepL K F (ds.set i e) (vs.set i w)
  | _, _, _, .nil => .nil
  | _, _, 0, .cons _ r => .cons h r
  | _, _, i + 1, .cons q r => .cons q (RepL.set h i r)
theorem RepL.eraseIdx : ∀ {ds : List SD} {vs : List V} (i : Nat), RepL K F ds vs → RepL K F (ds.eraseIdx i) (vs.eraseIdx i)
  | _, _, _, .nil => .nil
  | _, _, 0, .cons _ r => r
  | _, _, i + 1, .cons q r => .cons q (RepL.eraseIdx i r)
theorem RepL.cut {ds : List SD} {vs : List V} (h : RepL K F ds vs) (i : Nat) : RepL K F (ds.take i ++ ds.drop i) (vs.take i ++ vs.drop i) := (h.take i).append (h.drop i)
theorem RepL.nil_iff {ds : List SD} {vs : List V} (h : RepL K F ds vs) : ds = [] ↔ vs = [] := by
  cases h <;> simp
theorem RepL.ints : ∀ {ns : List Int} {vs : List V}, RepL K F (ns.map SD.int) vs → vs = ns.map V.int
  | [], _, .nil => rfl
  | _ :: _, _, .cons (.int _) r => by rw [RepL.ints r]; rfl
theorem RepL.ofInts : ∀ (ns : List Int), RepL K F (ns.map SD.int) (ns.map V.int)
  | [] => .nil
  | n :: r => .cons (.int n) (RepL.ofInts r)
end

/-- what stands at an address and may change -/
inductive MO where
  | lst (xs : List SD)
  | dic (kvs : List (Key × SD))
  /-- an instance of the own class named x -/
  | obj (x : Str) (fs : List (Str × SD))
  /-- a dict that is walked through: it stands just so -/
  | fdic (kvs : List (Key × SD)) (o : HO)
  /-- the table of code objects at P of the def x: all that it tells bear the name q -/
  | tab (P : Addr) (x q : Str)
  /-- any thing, by what the heap tells of it -/
  | hob (o : HO)
abbrev Mu := Addr → Option MO
def up (μ : Mu) (a : Addr) (m : MO) : Mu := fun b => if b = a then some m else μ b
theorem up_same {μ : Mu} {a : Addr} {m : MO} : up μ a m a = some m := by unfold up; rw [if_pos rfl]
theorem up_ne {μ : Mu} {a b : Addr} {m : MO} (h : b ≠ a) : up μ a m b = μ b := by unfold up; rw [if_neg h]
theorem mu_ne {μ : Mu} {a b : Addr} {m : MO} (h : μ a = some m) (h' : μ b = none) : a ≠ b := by
  intro e; subst e; rw [h] at h'; cases h'
/-- what the written part says of the own class named x -/
structure OcK (K : PySem.W.Frag) (x : Str) (C : Addr) : Prop where
  at_ : PySem.W.nsIn K mainGlobals x = some (some (.ref C))
  c : Cls K C
/-- the table of the code object of the def named x stands at P -/
def TabAt (K : PySem.W.Frag) (x : Str) (P : Addr) : Prop := ∃ (f c : Addr) (oc : Value) (od : Option Addr) (fd : FuncData) (osl : Array (Option Value)), PySem.W.nsIn K mainGlobals x = some (some (.ref f)) ∧ K.lookup f = some ⟨oc, od, .func fd, osl⟩ ∧ fd.code = .ref c ∧ PySem.W.codeHdIn K c P = true
inductive RepO (K : PySem.W.Frag) (F : Hp) : MO → HO → Prop
  | lst {ds : List SD} {vs : List V} : RepL K F ds vs → RepO K F (.lst ds) (.lst vs)
  | dic {ds : List (Key × SD)} {vs : List (Key × V)} : vs.map (·.1) = ds.map (·.1) → RepL K F (ds.map (·.2)) (vs.map (·.2)) → RepO K F (.dic ds) (.dK vs)
  | obj {C dx : Addr} {x : Str} {ds : List (Str × SD)} {vs : List (Str × V)} : OcK K x C → vs.map (·.1) = ds.map (·.1) → RepL K F (ds.map (·.2)) (vs.map (·.2)) → RepO K F (.obj x ds) (.ins C dx vs)
  | fdic {ob : Obj} {ds : List (Key × SD)} {vs : List (Key × V)} : vs.map (·.1) = ds.map (·.1) → RepL K F (ds.map (·.2)) (vs.map (·.2)) → RepO K F (.fdic ds (.frz ob (.dK vs))) (.frz ob (.dK vs))
  | tab {P : Addr} {x q : Str} {ps : Array Value} : TabAt K x P → TriplesOk ps.toList → (∀ (pos : Pos) (cv : Value), codeAmong pos ps.toList = some cv → ∃ c, cv = .ref c ∧ F c = some (LamX.CodeO c q)) → RepO K F (.tab P x q) (.tbl ps)
  | hob {o : HO} : RepO K F (.hob o) o
theorem RepO.mono {K : PySem.W.Frag} {F F' : Hp} (e : Ext F F') {m : MO} {o : HO} (h : RepO K F m o) : RepO K F' m o := by
  cases h with
  | lst r => exact .lst (r.mono e)
  | dic q r => exact .dic q (r.mono e)
  | obj c q r => exact .obj c q (r.mono e)
  | fdic q r => exact .fdic q (r.mono e)
  | tab a t k => exact .tab a t fun pos cv hc => (k pos cv hc).elim fun c z => ⟨c, z.1, e.st _ _ rfl z.2⟩
  | hob => exact .hob

/-- the heap H is F (known, unchanging) and μ (what changes), and more -/
structure HReal (K : PySem.W.Frag) (F H : Hp) (μ : Mu) : Prop where
  sub : ∀ a o, F a = some o → H a = some o
  mus : ∀ a m, μ a = some m → F a = none ∧ ∃ o, H a = some o ∧ RepO K F m o
/-- what is neither F's nor μ's stays so -/
structure Stp (F H : Hp) (μ : Mu) (F' H' : Hp) (μ' : Mu) : Prop where
  ext : Ext F F'
  fr : ∀ a, H a ≠ none → F a = none → μ a = none → H' a = H a ∧ F' a = none ∧ μ' a = none
theorem Stp.refl (F H : Hp) (μ : Mu) : Stp F H μ F H μ := ⟨Ext.refl F, fun _ _ b c => ⟨rfl, b, c⟩⟩
theorem Stp.trans {F H F1 H1 F2 H2 : Hp} {μ μ1 μ2 : Mu} (a : Stp F H μ F1 H1 μ1) (b : Stp F1 H1 μ1 F2 H2 μ2) : Stp F H μ F2 H2 μ2 :=
  ⟨a.ext.trans b.ext, fun x h1 h2 h3 => by
    obtain ⟨p, q, r⟩ := a.fr x h1 h2 h3
    obtain ⟨p', q', r'⟩ := b.fr x (by rw [p]; exact h1) q r
    exact ⟨p'.trans p, q', r'⟩⟩
section
variable {K : PySem.W.Frag} {F H : Hp} {μ : Mu} {p a : Addr}
theorem HReal.freeF (R : HReal K F H μ) (h : H p = none) : F p = none := by
  cases e : F p with
  | none => rfl
  | some o => rw [R.sub p o e] at h; cases h
theorem HReal.freeM (R : HReal K F H μ) (h : H p = none) : μ p = none := by
  cases e : μ p with
  | none => rfl
  | some m =>
    obtain ⟨_, o, z, _⟩ := R.mus p m e
    rw [z] at h; cases h
theorem HReal.ext (R : HReal K F H μ) : Ext F H := Ext.of_sub R.sub
/-- a new object that will not change -/
theorem HReal.newS (R : HReal K F H μ) {o : HO} (h : H p = none) : HReal K (upd F p o) (upd H p o) μ := by
  have hF := R.freeF h
  refine ⟨fun b u e => ?_, fun b m e => ?_⟩
  · by_cases hb : b = p
    · subst hb; rw [upd_same] at e ⊢; exact e
    · rw [upd_ne hb] at e ⊢; exact R.sub b u e
  · obtain ⟨z, u, q, r⟩ := R.mus b m e
    have hb : b ≠ p := ne_of_none q h
    exact ⟨by rw [upd_ne hb]; exact z, u, by rw [upd_ne hb]; exact q, r.mono (Ext.new hF)⟩
theorem Stp.newS (R : HReal K F H μ) {o : HO} (h : H p = none) : Stp F H μ (upd F p o) (upd H p o) μ :=
  ⟨Ext.new (R.freeF h), fun b h1 h2 h3 => by
    have hb : b ≠ p := fun z => by subst z; exact h1 h
    exact ⟨upd_ne hb, by rw [upd_ne hb]; exact h2, h3⟩⟩
/-- a new object that may change -/
theorem HReal.newM (R : HReal K F H μ) {o : HO} {m : MO} (h : H p = none) (r : RepO K F m o) : HReal K F (upd H p o) (up μ p m) := by
  have hF := R.freeF h
  refine ⟨fun b u e => ?_, fun b n e => ?_⟩
  · rw [upd_ne (ne_of_none e hF)]; exact R.sub b u e
  · by_cases hb : b = p
    · subst hb; rw [up_same] at e; cases e; exact ⟨hF, o, upd_same, r⟩
    · rw [up_ne hb] at e
      obtain ⟨z, u, q, r'⟩ := R.mus b n e
      exact ⟨z, u, by rw [upd_ne hb]; exact q, r'⟩
theorem Stp.newM (R : HReal K F H μ) {o : HO} {m : MO} (h : H p = none) : Stp F H μ F (upd H p o) (up μ p m) :=
  ⟨Ext.refl F, fun b h1 h2 h3 => by
    have hb : b ≠ p := fun z => by subst z; exact h1 h
    exact ⟨upd_ne hb, h2, by rw [up_ne hb]; exact h3⟩⟩
/-- an object is changed -/
theorem HReal.put (R : HReal K F H μ) {o : HO} {m n : MO} (h : μ a = some n) (r : RepO K F m o) : HReal K F (upd H a o) (up μ a m) := by
  have hF := (R.mus a n h).1
  refine ⟨fun b u e => ?_, fun b k e => ?_⟩
  · rw [upd_ne (ne_of_none e hF)]; exact R.sub b u e
  · by_cases hb : b = a
    · subst hb; rw [up_same] at e; cases e; exact ⟨hF, o, upd_same, r⟩
    · rw [up_ne hb] at e
      obtain ⟨z, u, q, r'⟩ := R.mus b k e
      exact ⟨z, u, by rw [upd_ne hb]; exact q, r'⟩
theorem Stp.put {o : HO} {m n : MO} (h : μ a = some n) : Stp F H μ F (upd H a o) (up μ a m) :=
  ⟨Ext.refl F, fun b h1 h2 h3 => by
    have hb : b ≠ a := fun z => by subst z; rw [h] at h3; cases h3
    exact ⟨upd_ne hb, h2, by rw [up_ne hb]; exact h3⟩⟩
/-- forgetting -/
def rm (μ : Mu) (a : Addr) : Mu := fun b => if b = a then none else μ b
theorem rm_same : rm μ a a = none := by unfold rm; rw [if_pos rfl]
theorem rm_ne {b : Addr} (h : b ≠ a) : rm μ a b = μ b := by unfold rm; rw [if_neg h]
/-- a list that changes no more -/
theorem HReal.freeze (R : HReal K F H μ) {xs : List SD} (h : μ a = some (.lst xs)) : ∃ vs, H a = some (.lst vs) ∧ RepL K F xs vs ∧ HReal K (upd F a (.lst vs)) H (rm μ a) ∧ Stp F H μ (upd F a (.lst vs)) H (rm μ a) ∧ RepS K (upd F a (.lst vs)) (.lst xs) (.ref a) := by
  obtain ⟨hF, o, hH, r⟩ := R.mus a _ h
  cases r with
  | lst r =>
    rename_i vs
    have ex : Ext F (upd F a (.lst vs)) := Ext.new hF
    refine ⟨vs, hH, r, ⟨fun b u e => ?_, fun b m e => ?_⟩, ⟨ex, fun b h1 h2 h3 => ?_⟩, .lst upd_same (r.mono ex)⟩
    · by_cases hb : b = a
      · subst hb; rw [upd_same] at e; cases e; exact hH
      · rw [upd_ne hb] at e; exact R.sub b u e
    · by_cases hb : b = a
      · subst hb; rw [rm_same] at e; cases e
      · rw [rm_ne hb] at e
        obtain ⟨z, u, q, r'⟩ := R.mus b m e
        exact ⟨by rw [upd_ne hb]; exact z, u, q, r'.mono ex⟩
    · have hb : b ≠ a := fun z => by subst z; rw [h] at h3; cases h3
      exact ⟨rfl, by rw [upd_ne hb]; exact h2, by rw [rm_ne hb]; exact h3⟩
theorem HReal.freezeD (R : HReal K F H μ) {xs : List (Key × SD)} (h : μ a = some (.dic xs)) : ∃ vs, H a = some (.dK vs) ∧ HReal K (upd F a (.dK vs)) H (rm μ a) ∧ Stp F H μ (upd F a (.dK vs)) H (rm μ a) ∧ RepS K (upd F a (.dK vs)) (.dic xs) (.ref a) := by
  obtain ⟨hF, o, hH, r⟩ := R.mus a _ h
  cases r with
  | dic q r =>
    rename_i vs
    have ex : Ext F (upd F a (.dK vs)) := Ext.new hF
    refine ⟨vs, hH, ⟨fun b u e => ?_, fun b m e => ?_⟩, ⟨ex, fun b h1 h2 h3 => ?_⟩, .dic (.inl upd_same) q (r.mono ex)⟩
    · by_cases hb : b = a
      · subst hb; rw [upd_same] at e; cases e; exact hH
      · rw [upd_ne hb] at e; exact R.sub b u e
    · by_cases hb : b = a
      · subst hb; rw [rm_same] at e; cases e
      · rw [rm_ne hb] at e
        obtain ⟨z, u, q, r'⟩ := R.mus b m e
        exact ⟨by rw [upd_ne hb]; exact z, u, q, r'.mono ex⟩
    · have hb : b ≠ a := fun z => by subst z; rw [h] at h3; cases h3
      exact ⟨rfl, by rw [upd_ne hb]; exact h2, by rw [rm_ne hb]; exact h3⟩
end

abbrev Rho := List (Option SD)
/-- the slots: where ρ knows a datum, σ has it -/
structure Slots (K : PySem.W.Frag) (F : Hp) (σ : L2.St) (ρ : Rho) : Prop where
  len : σ.length = ρ.length
  at_ : ∀ (i : Nat) (d : SD), ρ[i]? = some (some d) → ∃ v, σ[i]? = some (some v) ∧ RepS K F d v
section
variable {K : PySem.W.Frag} {F F' : Hp} {σ : L2.St} {ρ : Rho}
theorem Slots.mono (e : Ext F F') (h : Slots K F σ ρ) : Slots K F' σ ρ := ⟨h.len, fun i d q => let ⟨v, a, b⟩ := h.at_ i d q; ⟨v, a, b.mono e⟩⟩
theorem Slots.set {d : SD} {v : V} (h : Slots K F σ ρ) (i : Nat) (r : RepS K F d v) : Slots K F (σ.set i (some v)) (ρ.set i (some d)) := by
  refine ⟨by simp [h.len], fun j e q => ?_⟩
  by_cases hj : j = i
  · subst hj
    by_cases hl : j < ρ.length
    · rw [List.getElem?_set_self hl] at q
      cases q
      exact ⟨v, List.getElem?_set_self (by rw [h.len]; exact hl), r⟩
    · rw [List.getElem?_eq_none (by simpa using Nat.le_of_not_lt hl)] at q; cases q
  · rw [List.getElem?_set_ne (Ne.symm hj)] at q ⊢
    exact h.at_ j e q
end

abbrev DTE := Rho → Mu → (SD → Mu → Prop) → Prop
abbrev DTT := Rho → Mu → (Bool → Mu → Prop) → Prop
abbrev DTA := Rho → Mu → (List SD → Mu → Prop) → Prop
/-- what an exception's reading may speak of: the class, its attributes -/
abbrev DXK := Addr → List (Str × SD) → Mu → Prop
structure DEnds where
  nx : Rho → Mu → Prop
  rt : SD → Mu → Prop
  bk : Rho → Mu → Prop := fun _ _ => False
  ct : Rho → Mu → Prop := fun _ _ => False
abbrev DTS := DEnds → Rho → Mu → Prop
abbrev DTG := SD → Rho → Mu → (Rho → Mu → Prop) → Prop
abbrev DTGs := List SD → Rho → Mu → (Rho → Mu → Prop) → Prop

/-- the state is (F, H, μ) with the slots; behind it Q' is to hold of the datum -/
def LE (K : PySem.W.Frag) (t : DTE) : TE := fun σ H Q => ∃ F ρ μ Q', HReal K F H μ ∧ Slots K F σ ρ ∧ t ρ μ Q' ∧
  ∀ d μ', Q' d μ' → ∀ F' H' v, Stp F H μ F' H' μ' → HReal K F' H' μ' → RepS K F' d v → Q v H'
def LT (K : PySem.W.Frag) (t : DTT) : TT := fun σ H Q => ∃ F ρ μ Q', HReal K F H μ ∧ Slots K F σ ρ ∧ t ρ μ Q' ∧
  ∀ b μ', Q' b μ' → ∀ F' H', Stp F H μ F' H' μ' → HReal K F' H' μ' → Q b H'
def LA (K : PySem.W.Frag) (t : DTA) : TA := fun σ H Q => ∃ F ρ μ Q', HReal K F H μ ∧ Slots K F σ ρ ∧ t ρ μ Q' ∧
  ∀ ds μ', Q' ds μ' → ∀ F' H' vs, Stp F H μ F' H' μ' → HReal K F' H' μ' → RepL K F' ds vs → Q vs H'
def LG (K : PySem.W.Frag) (t : DTG) : TG := fun v σ H Q => ∃ F ρ μ d Q', HReal K F H μ ∧ Slots K F σ ρ ∧ RepS K F d v ∧ t d ρ μ Q' ∧
  ∀ ρ' μ', Q' ρ' μ' → ∀ F' H' σ', Stp F H μ F' H' μ' → HReal K F' H' μ' → Slots K F' σ' ρ' → Q σ' H'
def LGs (K : PySem.W.Frag) (t : DTGs) : TGs := fun vs σ H Q => ∃ F ρ μ ds Q', HReal K F H μ ∧ Slots K F σ ρ ∧ RepL K F ds vs ∧ t ds ρ μ Q' ∧
  ∀ ρ' μ', Q' ρ' μ' → ∀ F' H' σ', Stp F H μ F' H' μ' → HReal K F' H' μ' → Slots K F' σ' ρ' → Q σ' H'
def LS (K : PySem.W.Frag) (t : DTS) : TS := fun D σ H => ∃ F ρ μ D', HReal K F H μ ∧ Slots K F σ ρ ∧ t D' ρ μ ∧
  (∀ ρ' μ', D'.nx ρ' μ' → ∀ F' H' σ', Stp F H μ F' H' μ' → HReal K F' H' μ' → Slots K F' σ' ρ' → D.nx σ' H') ∧
  (∀ d μ', D'.rt d μ' → ∀ F' H' v, Stp F H μ F' H' μ' → HReal K F' H' μ' → RepS K F' d v → D.rt v H') ∧
  (∀ ρ' μ', D'.bk ρ' μ' → ∀ F' H' σ', Stp F H μ F' H' μ' → HReal K F' H' μ' → Slots K F' σ' ρ' → D.bk σ' H') ∧
  (∀ ρ' μ', D'.ct ρ' μ' → ∀ F' H' σ', Stp F H μ F' H' μ' → HReal K F' H' μ' → Slots K F' σ' ρ' → D.ct σ' H')

abbrev DE (X : Cx) (e : Expr) (t : DTE) : Prop := PE X e (LE X.K t)
abbrev DT (X : Cx) (e : Expr) (t : DTT) : Prop := PT X e (LT X.K t)
abbrev DW (X : Cx) (e : Expr) (t : DTT) : Prop := PW X e (LT X.K t)
abbrev DA (X : Cx) (es : List Expr) (t : DTA) : Prop := PA X es (LA X.K t)
abbrev DG (X : Cx) (e : Expr) (t : DTG) : Prop := PG X e (LG X.K t)
abbrev DGs (X : Cx) (es : List Expr) (t : DTGs) : Prop := PGs X es (LGs X.K t)
abbrev DS_ (X : Cx) (s : Stmt) (t : DTS) : Prop := PS X s (LS X.K t)
abbrev DSs (X : Cx) (s : List Stmt) (t : DTS) : Prop := PSs X s (LS X.K t)

theorem weakE {X : Cx} {e : Expr} {t t' : TE} (h : PE X e t) (w : ∀ σ H Q, t' σ H Q → t σ H Q) : PE X e t' := ⟨fun pins s σ H Q I q => h.run pins s σ H Q I (w σ H Q q)⟩
theorem weakT {X : Cx} {e : Expr} {t t' : TT} (h : PT X e t) (w : ∀ σ H Q, t' σ H Q → t σ H Q) : PT X e t' := ⟨fun pins s σ H Q I q => h.run pins s σ H Q I (w σ H Q q)⟩
theorem weakW {X : Cx} {e : Expr} {t t' : TT} (h : PW X e t) (w : ∀ σ H Q, t' σ H Q → t σ H Q) : PW X e t' := ⟨fun wh pins s σ H Q I q => h.run wh pins s σ H Q I (w σ H Q q)⟩
theorem weakA {X : Cx} {e : List Expr} {t t' : TA} (h : PA X e t) (w : ∀ σ H Q, t' σ H Q → t σ H Q) : PA X e t' := ⟨fun ps pins s σ H Q I q => h.run ps pins s σ H Q I (w σ H Q q)⟩
theorem weakS {X : Cx} {e : Stmt} {t t' : TS} (h : PS X e t) (w : ∀ D σ H, t' D σ H → t D σ H) : PS X e t' := ⟨fun pins s σ H D I q => h.run pins s σ H D I (w D σ H q)⟩
theorem weakSs {X : Cx} {e : List Stmt} {t t' : TS} (h : PSs X e t) (w : ∀ D σ H, t' D σ H → t D σ H) : PSs X e t' := ⟨fun pins s σ H D I q => h.run pins s σ H D I (w D σ H q)⟩
theorem weakG {X : Cx} {e : Expr} {t t' : TG} (h : PG X e t) (w : ∀ v σ H Q, t' v σ H Q → t v σ H Q) : PG X e t' := ⟨fun pins s σ H v u Q I r q => h.run pins s σ H v u Q I r (w v σ H Q q)⟩
theorem weakGs {X : Cx} {e : List Expr} {t t' : TGs} (h : PGs X e t) (w : ∀ v σ H Q, t' v σ H Q → t v σ H Q) : PGs X e t' := ⟨fun pins s σ H v u Q I r q => h.run pins s σ H v u Q I r (w v σ H Q q)⟩

section
variable {X : Cx} {pos p : Pos} {a b c e o : Expr} {es : List Expr} {x : Str}
def dVar (i : Nat) : DTE := fun ρ μ Q => match ρ[i]? with
  | some (some d) => Q d μ
  | _ => False
theorem de_var {i : Nat} (hN : X.N[i]? = some x) (hv : Vis X.env.scope x) (hd : (x == ("__debug__" : Str)) = false := by decide) (hcd : (x == ("__classdict__" : Str)) = false := by decide) : DE X (.Name x pos) (dVar i) :=
  weakE (pe_var hN hv hd hcd) fun σ H Q h => by
    obtain ⟨F, ρ, μ, Q', R, S, t, k⟩ := h
    unfold dVar at t
    split at t
    · rename_i d e
      obtain ⟨v, h1, h2⟩ := S.at_ _ _ e
      exact ⟨v, h1, k d μ t F H v (Stp.refl F H μ) R h2⟩
    · exact t.elim
abbrev dC (d : SD) : DTE := fun _ μ Q => Q d μ
/-- a datum whose value is plain -/
def plain : SD → Option V
  | .non => some .non
  | .bl b => some (.bl b)
  | .int i => some (.int i)
  | .str x => some (.str x)
  | .ref a => some (.ref a)
  | .ty n => some (.ty n)
  | _ => none
theorem RepS.plain {K : PySem.W.Frag} {F : Hp} {d : SD} {v : V} (h : plain d = some v) : RepS K F d v := by
  cases d <;> simp [DS.plain] at h <;> subst h <;> constructor
theorem RepS.isPlain {K : PySem.W.Frag} {F : Hp} {d : SD} {v w : V} (h : RepS K F d v) (p : DS.plain d = some w) : v = w := by
  cases h <;> simp [DS.plain] at p <;> exact p
theorem liftC {t : TE} {d : SD} {v : V} (h : PE X e (tC v)) (p : plain d = some v) : DE X e (dC d) :=
  weakE h fun σ H Q h => by
    obtain ⟨F, ρ, μ, Q', R, S, t, k⟩ := h
    exact k d μ t F H v (Stp.refl F H μ) R (RepS.plain p)
theorem de_int {i : Int} {j} : DE X (.Constant (.int i) j pos) (dC (.int i)) := liftC (t := tC (.int i)) pe_int rfl
theorem de_bl {i : Bool} {j} : DE X (.Constant (.bool i) j pos) (dC (.bl i)) := liftC (t := tC (.bl i)) pe_bl rfl
theorem de_non {j} : DE X (.Constant .none j pos) (dC .non) := liftC (t := tC .non) pe_non rfl
theorem de_str {y : Str} {j} : DE X (.Constant (.str y) j pos) (dC (.str y)) := liftC (t := tC (.str y)) pe_str rfl
theorem de_glob {d : SD} {v : V} {u : Value} (hg : Gl X x) (hm : X.mg x = some u) (r : RelV v u) (pl : plain d = some v) (hd : (x == ("__debug__" : Str)) = false := by decide) : DE X (.Name x pos) (dC d) := liftC (t := tC v) (pe_glob hg hm r hd) pl

/-- two operands -/
abbrev DR2 := SD → SD → Mu → (SD → Mu → Prop) → Prop
def LR2 (K : PySem.W.Frag) (dr : DR2) (r : R2) : Prop := ∀ F H μ x y dx dy Q' Q, HReal K F H μ → RepS K F dx x → RepS K F dy y → dr dx dy μ Q' →
  (∀ d μ', Q' d μ' → ∀ F' H' v, Stp F H μ F' H' μ' → HReal K F' H' μ' → RepS K F' d v → Q v H') → r x y H Q
abbrev dOp (dr : DR2) (ta tb : DTE) : DTE := fun ρ μ Q => ta ρ μ fun x μ1 => tb ρ μ1 fun y μ2 => dr x y μ2 Q
theorem lift2 {K : PySem.W.Frag} {dr : DR2} {r : R2} {ta tb : DTE} (hl : LR2 K dr r) : ∀ σ H Q, LE K (dOp dr ta tb) σ H Q → tOp r (LE K ta) (LE K tb) σ H Q := fun σ H Q h => by
  obtain ⟨F, ρ, μ, Q', R, S, t, k⟩ := h
  refine ⟨F, ρ, μ, _, R, S, t, fun d1 μ1 t1 F1 H1 v1 s1 R1 r1 => ?_⟩
  refine ⟨F1, ρ, μ1, _, R1, S.mono s1.ext, t1, fun d2 μ2 t2 F2 H2 v2 s2 R2 r2 => ?_⟩
  exact hl F2 H2 μ2 v1 v2 d1 d2 Q' Q R2 (r1.mono s2.ext) r2 t2 fun d μ' q F' H' v s R' r' => k d μ' q F' H' v ((s1.trans s2).trans s) R' r'
theorem de_op {op : Operator} {r : R2} {dr : DR2} {ta tb : DTE} (ho : OpR X (binaryOp op) r) (hl : LR2 X.K dr r) (ha : DE X a ta) (hb : DE X b tb) : DE X (.BinOp a op b pos) (dOp dr ta tb) :=
  weakE (pe_op ho ha hb) (lift2 hl)
theorem de_cmp {op : CmpOp} {r : R2} {dr : DR2} {ta tb : DTE} (ho : OpR X (compareOp op) r) (hl : LR2 X.K dr r) (ha : DE X a ta) (hb : DE X b tb) (hm : behindInMarks op b = false) : DE X (.Compare a [op] [b] pos) (dOp dr ta tb) :=
  weakE (pe_cmpR ho ha hb hm) (lift2 hl)
abbrev dTest (t : DTE) : DTT := fun ρ μ Q => t ρ μ fun d μ1 => match d with
  | .bl b => Q b μ1
  | _ => False
theorem dt_cmp {op : CmpOp} {r : R2} {dr : DR2} {ta tb : DTE} (ho : OpR X (compareOp op) r) (hl : LR2 X.K dr r) (ha : DE X a ta) (hb : DE X b tb) (hm : behindInMarks op b = false) : DT X (.Compare a [op] [b] pos) (dTest (dOp dr ta tb)) :=
  weakT (pt_cmpR ho ha hb hm) fun σ H Q h => by
    obtain ⟨F, ρ, μ, Q', R, S, t, k⟩ := h
    refine lift2 hl σ H _ ⟨F, ρ, μ, _, R, S, t, fun d μ' q F' H' v s R' r' => ?_⟩
    cases r' with
    | bl b => exact ⟨b, rfl, k b μ' q F' H' s R'⟩
    | _ => exact q.elim
/-- an expression that gives True or False, as a test -/
theorem dt_val {t : DTE} (h : DE X e t) (he : ∀ whole, isTrue e X.env whole = (do let v ← whole; standAt e.pos; holding [v] (truthy v)) := by intro _; rfl) : DT X e (dTest t) :=
  weakT (pt_val h he) fun σ H Q h => by
    obtain ⟨F, ρ, μ, Q', R, S, t, k⟩ := h
    refine ⟨F, ρ, μ, _, R, S, t, fun d μ' q F' H' v s R' r' => ?_⟩
    cases r' with
    | bl b => exact ⟨b, rfl, k b μ' q F' H' s R'⟩
    | _ => exact q.elim
abbrev dAnd (t u : DTT) : DTT := fun ρ μ Q => t ρ μ fun c μ1 => if c = true then u ρ μ1 Q else Q false μ1
abbrev dOr (t u : DTT) : DTT := fun ρ μ Q => t ρ μ fun c μ1 => if c = true then Q true μ1 else u ρ μ1 Q
abbrev dNot (t : DTT) : DTT := fun ρ μ Q => t ρ μ fun c μ1 => Q (!c) μ1
section
variable {K : PySem.W.Frag} {t u : DTT}
theorem lift_and : ∀ σ H Q, LT K (dAnd t u) σ H Q → tAnd (LT K t) (LT K u) σ H Q := fun σ H Q h => by
  obtain ⟨F, ρ, μ, Q', R, S, t, k⟩ := h
  refine ⟨F, ρ, μ, _, R, S, t, fun c μ1 t1 F1 H1 s1 R1 => ?_⟩
  cases c with
  | true => exact ⟨F1, ρ, μ1, Q', R1, S.mono s1.ext, t1, fun b μ' q F' H' s R' => k b μ' q F' H' (s1.trans s) R'⟩
  | false => exact k false μ1 t1 F1 H1 s1 R1
theorem lift_or : ∀ σ H Q, LT K (dOr t u) σ H Q → tOr (LT K t) (LT K u) σ H Q := fun σ H Q h => by
  obtain ⟨F, ρ, μ, Q', R, S, t, k⟩ := h
  refine ⟨F, ρ, μ, _, R, S, t, fun c μ1 t1 F1 H1 s1 R1 => ?_⟩
  cases c with
  | false => exact ⟨F1, ρ, μ1, Q', R1, S.mono s1.ext, t1, fun b μ' q F' H' s R' => k b μ' q F' H' (s1.trans s) R'⟩
  | true => exact k true μ1 t1 F1 H1 s1 R1
end
theorem dw_and1 {t : DTT} (ha : DT X a t) : DW X (.BoolOp .And [a] pos) t := pw_and1 ha
theorem dw_or1 {t : DTT} (ha : DT X a t) : DW X (.BoolOp .Or [a] pos) t := pw_or1 ha
theorem dw_and {t u : DTT} {rest : List Expr} (ha : DT X a t) (hb : DW X (.BoolOp .And (b :: rest) pos) u) : DW X (.BoolOp .And (a :: b :: rest) pos) (dAnd t u) := weakW (pw_and ha hb) lift_and
theorem dw_or {t u : DTT} {rest : List Expr} (ha : DT X a t) (hb : DW X (.BoolOp .Or (b :: rest) pos) u) : DW X (.BoolOp .Or (a :: b :: rest) pos) (dOr t u) := weakW (pw_or ha hb) lift_or
theorem dt_not {t : DTT} (ha : DT X a t) : DT X (.UnaryOp .Not a pos) (dNot t) := weakT (pt_not ha) fun σ H Q h => by
  obtain ⟨F, ρ, μ, Q', R, S, t, k⟩ := h
  exact ⟨F, ρ, μ, _, R, S, t, fun c μ1 t1 F1 H1 s1 R1 => k (!c) μ1 t1 F1 H1 s1 R1⟩
abbrev dOrV (ta tb : DTE) : DTE := fun ρ μ Q => ta ρ μ fun x μ1 => match x with
  | .bl true => Q (.bl true) μ1
  | .bl false => tb ρ μ1 Q
  | _ => False
theorem de_one {op} {t : DTE} (h : DE X a t) : DE X (.BoolOp op [a] pos) t := pe_one h
theorem de_or {ta tb : DTE} {rest : List Expr} (ha : DE X a ta) (hb : DE X (.BoolOp .Or (b :: rest) pos) tb) : DE X (.BoolOp .Or (a :: b :: rest) pos) (dOrV ta tb) := weakE (pe_or ha hb) fun σ H Q h => by
  obtain ⟨F, ρ, μ, Q', R, S, t, k⟩ := h
  refine ⟨F, ρ, μ, _, R, S, t, fun d μ1 t1 F1 H1 v s1 R1 r1 => ?_⟩
  cases r1 with
  | bl c =>
    refine ⟨c, rfl, ?_⟩
    cases c with
    | false => exact ⟨F1, ρ, μ1, Q', R1, S.mono s1.ext, t1, fun b μ' q F' H' v s R' r' => k b μ' q F' H' v (s1.trans s) R' r'⟩
    | true => exact k _ μ1 t1 F1 H1 _ s1 R1 (.bl true)
  | _ => exact t1.elim
abbrev dIf (t : DTT) (ta tb : DTE) : DTE := fun ρ μ Q => t ρ μ fun c μ1 => if c = true then ta ρ μ1 Q else tb ρ μ1 Q
theorem de_ifExp {t : DTT} {ta tb : DTE} (hc : DT X c t) (ha : DE X a ta) (hb : DE X b tb) : DE X (.IfExp c a b pos) (dIf t ta tb) := weakE (pe_ifExp hc ha hb) fun σ H Q h => by
  obtain ⟨F, ρ, μ, Q', R, S, t, k⟩ := h
  refine ⟨F, ρ, μ, _, R, S, t, fun d μ1 t1 F1 H1 s1 R1 => ?_⟩
  cases d with
  | true => exact ⟨F1, ρ, μ1, Q', R1, S.mono s1.ext, t1, fun b μ' q F' H' v s R' r' => k b μ' q F' H' v (s1.trans s) R' r'⟩
  | false => exact ⟨F1, ρ, μ1, Q', R1, S.mono s1.ext, t1, fun b μ' q F' H' v s R' r' => k b μ' q F' H' v (s1.trans s) R' r'⟩
abbrev dNil : DTA := fun _ μ Q => Q [] μ
abbrev dCons (te : DTE) (t : DTA) : DTA := fun ρ μ Q => te ρ μ fun x μ1 => t ρ μ1 fun xs μ2 => Q (x :: xs) μ2
theorem da_nil : DA X [] dNil := weakA pa_nil fun σ H Q h => by
  obtain ⟨F, ρ, μ, Q', R, S, t, k⟩ := h
  exact k [] μ t F H [] (Stp.refl F H μ) R .nil
theorem da_cons {te : DTE} {t : DTA} (ha : DE X e te) (hr : DA X es t) (hs : starEach (e :: es) X.env = (false, eval e X.env) :: starEach es X.env := by rfl) : DA X (e :: es) (dCons te t) :=
  weakA (pa_cons ha hr hs) fun σ H Q h => by
    obtain ⟨F, ρ, μ, Q', R, S, t, k⟩ := h
    refine ⟨F, ρ, μ, _, R, S, t, fun d1 μ1 t1 F1 H1 v1 s1 R1 r1 => ?_⟩
    exact ⟨F1, ρ, μ1, _, R1, S.mono s1.ext, t1, fun ds μ2 t2 F2 H2 vs s2 R2 r2 => k _ μ2 t2 F2 H2 _ (s1.trans s2) R2 (.cons (r1.mono s2.ext) r2)⟩
abbrev dTup (t : DTA) : DTE := fun ρ μ Q => t ρ μ fun xs μ1 => xs.length ≤ sizeLine ∧ Q (.tup xs) μ1
abbrev dLst (t : DTA) : DTE := fun ρ μ Q => t ρ μ fun xs μ1 => xs.length ≤ sizeLine ∧ Q (.lst xs) μ1
/-- a list that may change -/
abbrev dLstM (t : DTA) : DTE := fun ρ μ Q => t ρ μ fun xs μ1 => xs.length ≤ sizeLine ∧ ∀ p, μ1 p = none → Q (.ref p) (up μ1 p (.lst xs))
theorem de_tup {t : DTA} {x1} (h : DA X es t) : DE X (.Tuple es x1 pos) (dTup t) := weakE (pe_tup h) fun σ H Q h => by
  obtain ⟨F, ρ, μ, Q', R, S, t, k⟩ := h
  refine ⟨F, ρ, μ, _, R, S, t, fun ds μ1 t1 F1 H1 vs s1 R1 r1 => ⟨by rw [← r1.length]; exact t1.1, fun p hp => ?_⟩⟩
  exact k _ μ1 t1.2 _ _ _ (s1.trans (Stp.newS R1 hp)) (R1.newS hp) (.tup (.inl (.inl upd_same)) (r1.mono (Ext.new (R1.freeF hp))))
theorem de_lst {t : DTA} (h : DA X es t) : DE X (.List es pos) (dLst t) := weakE (pe_lst h) fun σ H Q h => by
  obtain ⟨F, ρ, μ, Q', R, S, t, k⟩ := h
  refine ⟨F, ρ, μ, _, R, S, t, fun ds μ1 t1 F1 H1 vs s1 R1 r1 => ⟨by rw [← r1.length]; exact t1.1, fun p hp => ?_⟩⟩
  exact k _ μ1 t1.2 _ _ _ (s1.trans (Stp.newS R1 hp)) (R1.newS hp) (.lst upd_same (r1.mono (Ext.new (R1.freeF hp))))
theorem de_lstM {t : DTA} (h : DA X es t) : DE X (.List es pos) (dLstM t) := weakE (pe_lst h) fun σ H Q h => by
  obtain ⟨F, ρ, μ, Q', R, S, t, k⟩ := h
  refine ⟨F, ρ, μ, _, R, S, t, fun ds μ1 t1 F1 H1 vs s1 R1 r1 => ⟨by rw [← r1.length]; exact t1.1, fun p hp => ?_⟩⟩
  exact k _ _ (t1.2 p (R1.freeM hp)) _ _ _ (s1.trans (Stp.newM R1 hp)) (R1.newM hp (.lst r1)) (.ref p)
end

section
variable {X : Cx} {pos p : Pos} {a b c e o : Expr} {es : List Expr} {x : Str} {st : Stmt} {rest : List Stmt}
abbrev dNext : DTS := fun D ρ μ => D.nx ρ μ
abbrev dSeq (t u : DTS) : DTS := fun D ρ μ => t { D with nx := u D } ρ μ
theorem dss_nil : DSs X [] dNext := weakSs pss_nil fun D σ H h => by
  obtain ⟨F, ρ, μ, D', R, S, t, k, _⟩ := h
  exact k ρ μ t F H σ (Stp.refl F H μ) R S
theorem dss_cons {t u : DTS} (h1 : DS_ X st t) (h2 : DSs X rest u) : DSs X (st :: rest) (dSeq t u) := weakSs (pss_cons h1 h2) fun D σ H h => by
  obtain ⟨F, ρ, μ, D', R, S, t, k, k2, k3, k4⟩ := h
  exact ⟨F, ρ, μ, _, R, S, t, fun ρ1 μ1 t1 F1 H1 σ1 s1 R1 S1 => ⟨F1, ρ1, μ1, D', R1, S1, t1, fun ρ' μ' q F' H' σ' s => k ρ' μ' q F' H' σ' (s1.trans s), fun d μ' q F' H' v s => k2 d μ' q F' H' v (s1.trans s),
    fun ρ' μ' q F' H' σ' s => k3 ρ' μ' q F' H' σ' (s1.trans s), fun ρ' μ' q F' H' σ' s => k4 ρ' μ' q F' H' σ' (s1.trans s)⟩, k2, k3, k4⟩
theorem dss_one {t : DTS} (h1 : DS_ X st t) : DSs X [st] t := pss_one h1
abbrev dDrop (te : DTE) : DTS := fun D ρ μ => te ρ μ fun _ μ1 => D.nx ρ μ1
theorem ds_expr {te : DTE} (he : DE X e te) (hs : swapsWith e none pos.line X.env = pure false := by rfl) : DS_ X (.Expr e pos) (dDrop te) := weakS (ps_expr he hs) fun D σ H h => by
  obtain ⟨F, ρ, μ, D', R, S, t, k, _⟩ := h
  exact ⟨F, ρ, μ, _, R, S, t, fun d μ1 t1 F1 H1 v s1 R1 r1 => k ρ μ1 t1 F1 H1 σ s1 R1 (S.mono s1.ext)⟩
abbrev dRet (te : DTE) : DTS := fun D ρ μ => te ρ μ D.rt
theorem ds_ret {te : DTE} (he : DE X e te) : DS_ X (.Return (some e) pos) (dRet te) := weakS (ps_ret he) fun D σ H h => by
  obtain ⟨F, ρ, μ, D', R, S, t, _, k, _⟩ := h
  exact ⟨F, ρ, μ, _, R, S, t, k⟩
/-- return of a list that has been filled: from then on it does not change -/
def frz : (SD → Mu → Prop) → SD → Mu → Prop := fun Q d μ => match d with
  | .ref a => match μ a with
    | some (.lst xs) => Q (.lst xs) (rm μ a)
    | some (.dic xs) => Q (.dic xs) (rm μ a)
    | _ => False
  | _ => False
abbrev dRetF (te : DTE) : DTS := fun D ρ μ => te ρ μ (frz D.rt)
theorem ds_retF {te : DTE} (he : DE X e te) : DS_ X (.Return (some e) pos) (dRetF te) := weakS (ps_ret he) fun D σ H h => by
  obtain ⟨F, ρ, μ, D', R, S, t, _, k, _⟩ := h
  refine ⟨F, ρ, μ, _, R, S, t, fun d μ1 t1 F1 H1 v s1 R1 r1 => ?_⟩
  cases r1 with
  | ref z =>
    unfold frz at t1
    simp only at t1
    split at t1
    · rename_i xs hx
      obtain ⟨vs, h1, h2, R2, s2, r2⟩ := R1.freeze hx
      exact k _ _ t1 _ _ _ (s1.trans s2) R2 r2
    · rename_i xs hx
      obtain ⟨vs, h1, R2, s2, r2⟩ := R1.freezeD hx
      exact k _ _ t1 _ _ _ (s1.trans s2) R2 r2
    · exact t1.elim
  | _ => exact t1.elim
abbrev dIfS (c : DTT) (t u : DTS) : DTS := fun D ρ μ => c ρ μ fun b μ1 => if b = true then t D ρ μ1 else u D ρ μ1
theorem ds_if {ss uu : List Stmt} {tc : DTT} {t u : DTS} (hc : DT X c tc) (ha : DSs X ss t) (hb : DSs X uu u) : DS_ X (.If c ss uu pos) (dIfS tc t u) := weakS (ps_if hc ha hb) fun D σ H h => by
  obtain ⟨F, ρ, μ, D', R, S, t, k, k2, k3, k4⟩ := h
  refine ⟨F, ρ, μ, _, R, S, t, fun d μ1 t1 F1 H1 s1 R1 => ?_⟩
  cases d with
  | true => exact ⟨F1, ρ, μ1, D', R1, S.mono s1.ext, t1, fun ρ' μ' q F' H' σ' s => k ρ' μ' q F' H' σ' (s1.trans s), fun d μ' q F' H' v s => k2 d μ' q F' H' v (s1.trans s),
    fun ρ' μ' q F' H' σ' s => k3 ρ' μ' q F' H' σ' (s1.trans s), fun ρ' μ' q F' H' σ' s => k4 ρ' μ' q F' H' σ' (s1.trans s)⟩
  | false => exact ⟨F1, ρ, μ1, D', R1, S.mono s1.ext, t1, fun ρ' μ' q F' H' σ' s => k ρ' μ' q F' H' σ' (s1.trans s), fun d μ' q F' H' v s => k2 d μ' q F' H' v (s1.trans s),
    fun ρ' μ' q F' H' σ' s => k3 ρ' μ' q F' H' σ' (s1.trans s), fun ρ' μ' q F' H' σ' s => k4 ρ' μ' q F' H' σ' (s1.trans s)⟩
abbrev hName (i : Nat) : DTG := fun d ρ μ Q => Q (ρ.set i (some d)) μ
theorem dg_name {i : Nat} (hN : X.N.Nodup) (hi : X.N[i]? = some x) (hx : Loc X.env.scope x) (hf : X.fn x = true ∨ X.env.scope.names.lookup x = some .local := by first | exact .inl rfl | exact .inr rfl | assumption) : DG X (.Name x pos) (hName i) :=
  weakG (pg_name hN hi hx hf) fun v σ H Q h => by
    obtain ⟨F, ρ, μ, d, Q', R, S, r, t, k⟩ := h
    exact k _ μ t F H _ (Stp.refl F H μ) R (S.set i r)
abbrev hNil : DTGs := fun vs ρ μ Q => vs = [] ∧ Q ρ μ
abbrev hCons (t : DTG) (u : DTGs) : DTGs := fun vs ρ μ Q => match vs with
  | v :: r => t v ρ μ fun ρ' μ' => u r ρ' μ' Q
  | [] => False
theorem dgs_nil : DGs X [] hNil := weakGs pgs_nil fun v σ H Q h => by
  obtain ⟨F, ρ, μ, ds, Q', R, S, r, ⟨e, t⟩, k⟩ := h
  subst e
  cases r
  exact ⟨rfl, k ρ μ t F H σ (Stp.refl F H μ) R S⟩
theorem dgs_cons {t : DTG} {u : DTGs} (h1 : DG X e t) (h2 : DGs X es u) (hs : (assignEach (e :: es) X.env).map (·.2) = assign e X.env :: (assignEach es X.env).map (·.2) := by rfl) : DGs X (e :: es) (hCons t u) :=
  weakGs (pgs_cons h1 h2 hs) fun v σ H Q h => by
    obtain ⟨F, ρ, μ, ds, Q', R, S, r, t, k⟩ := h
    cases r with
    | nil => exact t.elim
    | cons r rr =>
      refine ⟨_, _, rfl, F, ρ, μ, _, _, R, S, r, t, fun ρ1 μ1 t1 F1 H1 σ1 s1 R1 S1 => ?_⟩
      exact ⟨F1, ρ1, μ1, _, Q', R1, S1, rr.mono s1.ext, t1, fun ρ' μ' q F' H' σ' s => k ρ' μ' q F' H' σ' (s1.trans s)⟩
abbrev hTup (n : Nat) (t : DTGs) : DTG := fun d ρ μ Q => match d with
  | .tup xs => xs.length = n ∧ t xs ρ μ Q
  | _ => False
theorem dg_tup {k : Nat} {t : DTGs} {n : Nat} (hc : X.calm = true) (h : DGs X es t) (hn : (assignEach es X.env).length = n := by rfl) (hst : (assignEach es X.env).findIdx? (·.1) = none := by rfl) : DG X (.Tuple es k pos) (hTup n t) :=
  weakG (pg_tup hc h hn hst) fun v σ H Q h => by
    obtain ⟨F, ρ, μ, d, Q', R, S, r, t, k⟩ := h
    cases r with
    | tup h r => exact ⟨_, _, rfl, R.ext.sqT h, by rw [← r.length]; exact t.1, F, ρ, μ, _, Q', R, S, r, t.2, k⟩
    | _ => exact t.elim
abbrev dAsg (te : DTE) (g : DTG) : DTS := fun D ρ μ => te ρ μ fun x μ1 => g x ρ μ1 D.nx
theorem liftAsg {K : PySem.W.Frag} {te : DTE} {g : DTG} : ∀ D σ H, LS K (dAsg te g) D σ H → tAsg (LE K te) (LG K g) D σ H := fun D σ H h => by
  obtain ⟨F, ρ, μ, D', R, S, t, k, _⟩ := h
  exact ⟨F, ρ, μ, _, R, S, t, fun d μ1 t1 F1 H1 v s1 R1 r1 => ⟨F1, ρ, μ1, d, _, R1, S.mono s1.ext, r1, t1, fun ρ' μ' q F' H' σ' s => k ρ' μ' q F' H' σ' (s1.trans s)⟩⟩
theorem ds_asg {tg : Expr} {te : DTE} {g : DTG} (he : DE X e te) (hg : DG X tg g) (hs : swapsWithSole [tg] e pos.line X.env = pure false := by rfl) (hw : swappedStores [tg] e X.env = pure none := by rfl)
    (h1 : (assignEach [tg] X.env).map (·.2) = [assign tg X.env] := by rfl) : DS_ X (.Assign [tg] e pos) (dAsg te g) := weakS (ps_asg he hg hs hw h1) liftAsg
abbrev dSet (te : DTE) (i : Nat) : DTS := fun D ρ μ => te ρ μ fun x μ1 => D.nx (ρ.set i (some x)) μ1
theorem ds_set {i : Nat} {te : DTE} {pos' : Pos} (hN : X.N.Nodup) (hi : X.N[i]? = some x) (hx : Loc X.env.scope x) (he : DE X e te) (hs : swapsWith e (some (.Name x pos')) pos.line X.env = pure false := by rfl) (hf : X.fn x = true ∨ X.env.scope.names.lookup x = some .local := by first | exact .inl rfl | exact .inr rfl | assumption) :
    DS_ X (.Assign [.Name x pos'] e pos) (dSet te i) := weakS (ps_set hN hi hx he hs hf) fun D σ H h => by
  obtain ⟨F, ρ, μ, D', R, S, t, k, _⟩ := h
  exact ⟨F, ρ, μ, _, R, S, t, fun d μ1 t1 F1 H1 v s1 R1 r1 => k _ μ1 t1 F1 H1 _ s1 R1 ((S.mono s1.ext).set i r1)⟩
abbrev dPar (i j : Nat) (ta : DTA) : DTS := fun D ρ μ => ta ρ μ fun vs μ1 => match vs with
  | [v, w] => D.nx ((ρ.set i (some v)).set j (some w)) μ1
  | _ => False
theorem ds_par {i j : Nat} {x y : Str} {ta : DTA} {px py pt : Pos} {kt k2 pt2} (hc : X.calm = true) (hN : X.N.Nodup) (hi : X.N[i]? = some x) (hj : X.N[j]? = some y) (hij : i ≠ j)
    (hx : X.env.scope.names.lookup x = some .local) (hy : X.env.scope.names.lookup y = some .local) (ha : DA X [a, b] ta)
    (hw : swappedStores [.Tuple [.Name x px, .Name y py] kt pt] (.Tuple [a, b] k2 pt2) X.env = pure (some [x, y]))
    (hs : swapsWithSole [.Tuple [.Name x px, .Name y py] kt pt] (.Tuple [a, b] k2 pt2) pos.line X.env = pure false := by rfl) :
    DS_ X (.Assign [.Tuple [.Name x px, .Name y py] kt pt] (.Tuple [a, b] k2 pt2) pos) (dPar i j ta) := weakS (ps_par hc hN hi hj hij hx hy ha hw hs) fun D σ H h => by
  obtain ⟨F, ρ, μ, D', R, S, t, k, _⟩ := h
  refine ⟨F, ρ, μ, _, R, S, t, fun ds μ1 t1 F1 H1 vs s1 R1 r1 => ?_⟩
  cases r1 with
  | nil => exact t1.elim
  | cons r1 r2 => cases r2 with
    | nil => exact t1.elim
    | cons r2 r3 => cases r3 with
      | cons _ _ => exact t1.elim
      | nil => exact ⟨_, _, rfl, k _ μ1 t1 F1 H1 _ s1 R1 (((S.mono s1.ext).set i r1).set j r2)⟩
abbrev dPar3 (i j l : Nat) (ta : DTA) : DTS := fun D ρ μ => ta ρ μ fun vs μ1 => match vs with
  | [u, v, w] => D.nx (((ρ.set i (some u)).set j (some v)).set l (some w)) μ1
  | _ => False
theorem ds_par3 {i j l : Nat} {x y z : Str} {ta : DTA} {px py pz pt : Pos} {kt k2 pt2} (hc : X.calm = true) (hN : X.N.Nodup) (hi : X.N[i]? = some x) (hj : X.N[j]? = some y) (hl : X.N[l]? = some z) (hij : i ≠ j) (hil : i ≠ l) (hjl : j ≠ l)
    (hx : X.env.scope.names.lookup x = some .local) (hy : X.env.scope.names.lookup y = some .local) (hz : X.env.scope.names.lookup z = some .local) (ha : DA X [a, b, c] ta)
    (hw : swappedStores [.Tuple [.Name x px, .Name y py, .Name z pz] kt pt] (.Tuple [a, b, c] k2 pt2) X.env = pure (some [x, y, z]))
    (hs : swapsWithSole [.Tuple [.Name x px, .Name y py, .Name z pz] kt pt] (.Tuple [a, b, c] k2 pt2) pos.line X.env = pure false := by rfl) :
    DS_ X (.Assign [.Tuple [.Name x px, .Name y py, .Name z pz] kt pt] (.Tuple [a, b, c] k2 pt2) pos) (dPar3 i j l ta) := weakS (ps_par3 hc hN hi hj hl hij hil hjl hx hy hz ha hw hs) fun D σ H h => by
  obtain ⟨F, ρ, μ, D', R, S, t, k, _⟩ := h
  refine ⟨F, ρ, μ, _, R, S, t, fun ds μ1 t1 F1 H1 vs s1 R1 r1 => ?_⟩
  cases r1 with
  | nil => exact t1.elim
  | cons r1 r2 => cases r2 with
    | nil => exact t1.elim
    | cons r2 r3 => cases r3 with
      | nil => exact t1.elim
      | cons r3 r4 => cases r4 with
        | cons _ _ => exact t1.elim
        | nil => exact ⟨_, _, _, rfl, k _ μ1 t1 F1 H1 _ s1 R1 ((((S.mono s1.ext).set i r1).set j r2).set l r3)⟩
end
end DS
namespace DS
open PySem PySem.Spec PyProof.Rows L2

def lstD (μ : Mu) : SD → Option (List SD)
  | .lst xs => some xs
  | .ref a => match μ a with
    | some (.lst xs) => some xs
    | _ => none
  | _ => none
def seqD (μ : Mu) : SD → Option (List SD)
  | .tup xs => some xs
  | .rol xs => some xs
  | .lst xs => some xs
  | .ref a => match μ a with
    | some (.lst xs) => some xs
    | _ => none
  | _ => none
def isTup : SD → Bool
  | .tup _ => true
  | _ => false
section
variable {K : PySem.W.Frag} {F H : Hp} {μ : Mu} {d : SD} {v : V} {xs : List SD}
theorem HReal.lst (R : HReal K F H μ) (r : RepS K F d v) (e : lstD μ d = some xs) : ∃ a vs, v = .ref a ∧ H a = some (.lst vs) ∧ RepL K F xs vs := by
  cases r with
  | lst h q => cases e; exact ⟨_, _, rfl, R.sub _ _ h, q⟩
  | ref a =>
    unfold lstD at e
    simp only at e
    split at e
    · rename_i ys hy
      cases e
      obtain ⟨_, o, h, q⟩ := R.mus a _ hy
      cases q with
      | lst q => exact ⟨a, _, rfl, h, q⟩
    · cases e
  | _ => cases e
theorem HReal.seq (R : HReal K F H μ) (r : RepS K F d v) (e : seqD μ d = some xs) : ∃ a vs, v = .ref a ∧ RepL K F xs vs ∧ ((isTup d = false ∧ SqL K H a vs) ∨ (isTup d = true ∧ SqT K H a vs)) := by
  cases r with
  | lst h q => cases e; exact ⟨_, _, rfl, q, .inl ⟨rfl, SqL.of (R.sub _ _ h)⟩⟩
  | rol h q => cases e; exact ⟨_, _, rfl, q, .inl ⟨rfl, R.ext.sqL h⟩⟩
  | tup h q => cases e; exact ⟨_, _, rfl, q, .inr ⟨rfl, R.ext.sqT h⟩⟩
  | ref a =>
    unfold seqD at e
    simp only at e
    split at e
    · rename_i ys hy
      cases e
      obtain ⟨_, o, h, q⟩ := R.mus a _ hy
      cases q with
      | lst q => exact ⟨a, _, rfl, q, .inl ⟨rfl, SqL.of h⟩⟩
    · cases e
  | _ => cases e
theorem HReal.seq' (R : HReal K F H μ) (r : RepS K F d v) (e : seqD μ d = some xs) : ∃ a vs, v = .ref a ∧ RepL K F xs vs ∧ (SqL K H a vs ∨ SqT K H a vs) := by
  obtain ⟨a, vs, h1, h2, h3⟩ := R.seq r e
  exact ⟨a, vs, h1, h2, h3.imp And.right And.right⟩
end

def dWhile (c : DTT) (tb : DTS) : DTS := fun D ρ μ => ∃ W : Nat → Rho → Mu → Prop, (∃ m, W m ρ μ) ∧ ∀ m ρ μ, W m ρ μ →
  c ρ μ fun b μ1 => if b = true then ∃ N : Rho → Mu → Prop, (∀ ρ' μ', N ρ' μ' → ∃ m', m' < m ∧ W m' ρ' μ') ∧ tb { D with nx := N, ct := N, bk := D.nx } ρ μ1 else D.nx ρ μ1
section
variable {X : Cx} {pos p : Pos} {a b c e o iter tg : Expr} {es : List Expr} {x : Str} {st : Stmt} {rest body : List Stmt}
theorem ds_while {tc : DTT} {tb : DTS} (hp : PassesOwn (model X.prog X.w) X.A X.env X.xe) (hc : DT X c tc) (hb : DSs X body tb) : DS_ X (.While c body [] pos) (dWhile tc tb) := weakS (ps_while hp hc hb) fun D σ H h => by
  obtain ⟨F0, ρ0, μ0, D', R0, S0, ⟨W, ⟨m0, w0⟩, turn⟩, k, k2, k3, k4⟩ := h
  refine ⟨fun m σ1 H1 => ∃ F ρ μ, Stp F0 H μ0 F H1 μ ∧ HReal X.K F H1 μ ∧ Slots X.K F σ1 ρ ∧ W m ρ μ, ⟨m0, F0, ρ0, μ0, Stp.refl _ _ _, R0, S0, w0⟩, ?_⟩
  rintro m σ1 H1 ⟨F, ρ, μ, s, R, S, w⟩
  refine ⟨F, ρ, μ, _, R, S, turn m ρ μ w, fun b μ1 t1 F1 H2 s1 R1 => ?_⟩
  cases b with
  | false => exact k ρ μ1 t1 F1 H2 σ1 (s.trans s1) R1 (S.mono s1.ext)
  | true =>
    obtain ⟨N, hN, t2⟩ := (show ∃ N : Rho → Mu → Prop, _ from t1)
    refine ⟨fun σ' H' => ∃ F ρ μ, Stp F0 H μ0 F H' μ ∧ HReal X.K F H' μ ∧ Slots X.K F σ' ρ ∧ N ρ μ, ?_, ?_⟩
    · rintro σ' H' ⟨F', ρ', μ', s', R', S', n⟩
      obtain ⟨m', hm, w'⟩ := hN ρ' μ' n
      exact ⟨m', hm, F', ρ', μ', s', R', S', w'⟩
    · refine ⟨F1, ρ, μ1, _, R1, S.mono s1.ext, t2, ?_, ?_, ?_, ?_⟩
      · exact fun ρ' μ' q F' H' σ' s' R' S' => ⟨F', ρ', μ', (s.trans s1).trans s', R', S', q⟩
      · exact fun d μ' q F' H' v s' R' r' => k2 d μ' q F' H' v ((s.trans s1).trans s') R' r'
      · exact fun ρ' μ' q F' H' σ' s' R' S' => k ρ' μ' q F' H' σ' ((s.trans s1).trans s') R' S'
      · exact fun ρ' μ' q F' H' σ' s' R' S' => ⟨F', ρ', μ', (s.trans s1).trans s', R', S', q⟩

structure Src (K : PySem.W.Frag) (F0 H0 : Hp) (μ0 : Mu) (J : It) (ds : List SD) (ok : Mu → Prop) : Prop where
  go : ∀ (i : Nat) (F H : Hp) (μ : Mu), Stp F0 H0 μ0 F H μ → HReal K F H μ → ok μ → i < ds.length → J.go i H
  stop : ∀ (F H : Hp) (μ : Mu), Stp F0 H0 μ0 F H μ → HReal K F H μ → ok μ → J.stop ds.length H
  yld : ∀ (i : Nat) (F H : Hp) (μ : Mu) (x : V) (H' : Hp), Stp F0 H0 μ0 F H μ → HReal K F H μ → ok μ → J.yld i H x H' → ∀ d, ds[i]? = some d → ∃ F', Stp F H μ F' H' μ ∧ HReal K F' H' μ ∧ RepS K F' d x
abbrev DTI := Rho → Mu → (List SD → (Mu → Prop) → Mu → Prop) → Prop
def LI (K : PySem.W.Frag) (t : DTI) : TI := fun σ H R => ∃ F ρ μ Q', HReal K F H μ ∧ Slots K F σ ρ ∧ t ρ μ Q' ∧
  ∀ ds ok μ', Q' ds ok μ' → ∀ F' H' J, Stp F H μ F' H' μ' → HReal K F' H' μ' → Src K F' H' μ' J ds ok → R J H'
abbrev DI (X : Cx) (tg iter : Expr) (t : DTI) : Prop := PI X tg iter (LI X.K t)
theorem weakI {t t' : TI} (h : PI X tg iter t) (w : ∀ σ H R, t' σ H R → t σ H R) : PI X tg iter t' := ⟨fun pins s σ H R I q => h.run pins s σ H R I (w σ H R q)⟩

theorem src_list {K : PySem.W.Frag} {F0 H0 : Hp} {μ0 : Mu} {a : Addr} {ds : List SD} {ok : Mu → Prop} (h : ∀ (F H : Hp) (μ : Mu), Stp F0 H0 μ0 F H μ → HReal K F H μ → ok μ → ∃ vs, SqL K H a vs ∧ RepL K F ds vs) : Src K F0 H0 μ0 (Itl K a) ds ok where
  go := fun i F H μ e R k hi => by
    obtain ⟨vs, h1, h2⟩ := h F H μ e R k
    exact ⟨vs, vs[i]'(by rw [← h2.length]; exact hi), h1, List.getElem?_eq_getElem _⟩
  stop := fun F H μ e R k => by
    obtain ⟨vs, h1, h2⟩ := h F H μ e R k
    exact ⟨vs, h1, by rw [h2.length]; exact Nat.le_refl _⟩
  yld := fun i F H μ x H' e R k y d hd => by
    obtain ⟨vs, h1, h2⟩ := h F H μ e R k
    obtain ⟨rfl, y⟩ := y
    obtain ⟨v, h3, h4⟩ := h2.get hd
    have := y vs h1
    rw [h3] at this; cases this
    exact ⟨F, Stp.refl _ _ _, R, h4⟩
theorem src_tup {K : PySem.W.Frag} {F0 H0 : Hp} {μ0 : Mu} {a : Addr} {ds : List SD} {ok : Mu → Prop} (h : ∀ (F H : Hp) (μ : Mu), Stp F0 H0 μ0 F H μ → HReal K F H μ → ok μ → ∃ vs, SqT K H a vs ∧ RepL K F ds vs) : Src K F0 H0 μ0 (Itt K a) ds ok where
  go := fun i F H μ e R k hi => by
    obtain ⟨vs, h1, h2⟩ := h F H μ e R k
    exact ⟨vs, vs[i]'(by rw [← h2.length]; exact hi), h1, List.getElem?_eq_getElem _⟩
  stop := fun F H μ e R k => by
    obtain ⟨vs, h1, h2⟩ := h F H μ e R k
    exact ⟨vs, h1, by rw [h2.length]; exact Nat.le_refl _⟩
  yld := fun i F H μ x H' e R k y d hd => by
    obtain ⟨vs, h1, h2⟩ := h F H μ e R k
    obtain ⟨rfl, y⟩ := y
    obtain ⟨v, h3, h4⟩ := h2.get hd
    have := y vs h1
    rw [h3] at this; cases this
    exact ⟨F, Stp.refl _ _ _, R, h4⟩
/-- list, tuple or text, whichever it is -/
def iSeq (K : PySem.W.Frag) (tl : TE) : TI := fun σ H R => tl σ H fun x H1 => (∃ a, x = .ref a ∧ (∃ xs, SqL K H1 a xs) ∧ R (Itl K a) H1) ∨ (∃ a, x = .ref a ∧ (∃ xs, SqT K H1 a xs) ∧ R (Itt K a) H1) ∨ ∃ y, x = .str y ∧ R (Its y) H1
theorem pi_seq {l : Expr} {tl : TE} (hl : PE X l tl) : PI X tg l (iSeq X.K tl) := by
  refine ⟨fun pins s σ H R I h => ?_⟩
  refine thn (hl.run pins s σ H _ I h) fun v s1 ⟨x, H1, I1, r1, q1⟩ => ?_
  rcases q1 with ⟨a, e, ⟨xs, hq⟩, q⟩ | ⟨a, e, ⟨xs, hq⟩, q⟩ | ⟨y, e, q⟩
  · subst e
    cases r1
    obtain ⟨its, rv, p, hz⟩ := I1.list hq
    refine wpAny_pyIter_list p.isList ?_
    refine ⟨s1.heap.objs.size, [s1.heap.objs.size], _, _, H1, rfl, I1.kept (t' := s1.toks) fun b o e => Heap.get?_push_of_some _ e, turn_list a _, ⟨_, Heap.get?_push_size _ rfl, rfl, rfl⟩, fun b hb => ?_, q⟩
    have e : b = s1.heap.objs.size := by simpa using hb
    subst e
    exact I1.fpOk (Nat.le_refl _) (I1.hok.fresh (Nat.le_refl _))
  · subst e
    cases r1
    obtain ⟨its, rv, p, hz⟩ := I1.tuple hq
    refine wpAny_pyIter_tuple (show s1.heap.IsTuple a its.toArray from p) ?_
    refine ⟨s1.heap.objs.size, [s1.heap.objs.size], _, _, H1, rfl, I1.kept (t' := s1.toks) fun b o e => Heap.get?_push_of_some _ e, turn_tuple a _, ⟨_, Heap.get?_push_size _ rfl, rfl, rfl⟩, fun b hb => ?_, q⟩
    have e : b = s1.heap.objs.size := by simpa using hb
    subst e
    exact I1.fpOk (Nat.le_refl _) (I1.hok.fresh (Nat.le_refl _))
  · subst e
    obtain ⟨t, rfl⟩ := r1
    cases ha : y.cps.all (· < 128)
    · exact wpAny_pyIter_wide ha (pi_one (tk := s1.toks) I1 _ (turn_str _ y t "str_iterator" (.inr rfl)) ⟨_, Heap.get?_push_size _ rfl, rfl, rfl⟩ q)
    · exact wpAny_pyIter_ascii ha (pi_one (tk := s1.toks) I1 _ (turn_str _ y t "str_ascii_iterator" (.inl rfl)) ⟨_, Heap.get?_push_size _ rfl, rfl, rfl⟩ q)
def chars (y : Str) : List SD := y.cps.toList.map fun c => .str ⟨#[c]⟩
abbrev jSeq (t : DTE) : DTI := fun ρ μ Q => t ρ μ fun d μ1 => match d with
  | .str y => Q (chars y) (fun _ => True) μ1
  | d => match seqD μ1 d with
    | some xs => Q xs (fun μ' => seqD μ' d = some xs) μ1
    | none => False
theorem src_seq {K : PySem.W.Frag} {F H : Hp} {μ : Mu} {d : SD} {v : V} {xs : List SD} (R : HReal K F H μ) (r : RepS K F d v) (e : seqD μ d = some xs) :
    ∃ a, v = .ref a ∧ ((∃ vs, SqL K H a vs) ∧ Src K F H μ (Itl K a) xs (fun μ' => seqD μ' d = some xs) ∨ (∃ vs, SqT K H a vs) ∧ Src K F H μ (Itt K a) xs (fun μ' => seqD μ' d = some xs)) := by
  obtain ⟨a, vs, h1, h2, h3⟩ := R.seq r e
  refine ⟨a, h1, ?_⟩
  subst h1
  rcases h3 with ⟨z, h3⟩ | ⟨z, h3⟩
  · refine .inl ⟨⟨vs, h3⟩, src_list fun F' H' μ' ex R' k => ?_⟩
    obtain ⟨b, ws, q1, q2, q3⟩ := R'.seq (r.mono ex.ext) k
    cases q1
    rcases q3 with ⟨_, q3⟩ | ⟨q, _⟩
    · exact ⟨ws, q3, q2⟩
    · rw [z] at q; cases q
  · refine .inr ⟨⟨vs, h3⟩, src_tup fun F' H' μ' ex R' k => ?_⟩
    obtain ⟨b, ws, q1, q2, q3⟩ := R'.seq (r.mono ex.ext) k
    cases q1
    rcases q3 with ⟨q, _⟩ | ⟨_, q3⟩
    · rw [z] at q; cases q
    · exact ⟨ws, q3, q2⟩
theorem src_str {K : PySem.W.Frag} {F H0 : Hp} {μ0 : Mu} (y : Str) : Src K F H0 μ0 (Its y) (chars y) fun _ => True where
  go := fun i F H μ e R k hi => by
    show i < y.cps.size
    simpa [chars] using hi
  stop := fun F H μ e R k => by
    show y.cps.size ≤ (chars y).length
    simp [chars]
  yld := fun i F H μ x H' e R k yy d hd => by
    obtain ⟨rfl, c, h1, rfl⟩ := yy
    have : (chars y)[i]? = some (.str ⟨#[c]⟩) := by simp [chars, h1]
    rw [this] at hd; cases hd
    exact ⟨F, Stp.refl _ _ _, R, .str _⟩
theorem di_seq {l : Expr} {tl : DTE} (hl : DE X l tl) : DI X tg l (jSeq tl) := weakI (pi_seq hl) fun σ H R h => by
  obtain ⟨F, ρ, μ, Q', R0, S, t, k⟩ := h
  refine ⟨F, ρ, μ, _, R0, S, t, fun d μ1 t1 F1 H1 v s1 R1 r1 => ?_⟩
  have seqCase : ∀ xs, seqD μ1 d = some xs → Q' xs (fun μ' => seqD μ' d = some xs) μ1 → ((∃ a, v = .ref a ∧ (∃ xs, SqL X.K H1 a xs) ∧ R (Itl X.K a) H1) ∨ (∃ a, v = .ref a ∧ (∃ xs, SqT X.K H1 a xs) ∧ R (Itt X.K a) H1) ∨ ∃ y, v = .str y ∧ R (Its y) H1) := fun xs e q => by
    obtain ⟨a, e1, h | h⟩ := src_seq R1 r1 e
    · exact .inl ⟨a, e1, h.1, k _ _ _ q F1 H1 _ s1 R1 h.2⟩
    · exact .inr (.inl ⟨a, e1, h.1, k _ _ _ q F1 H1 _ s1 R1 h.2⟩)
  cases r1 with
  | str y => exact .inr (.inr ⟨y, rfl, k _ _ _ t1 F1 H1 _ s1 R1 (src_str y)⟩)
  | lst h q => exact seqCase _ rfl t1
  | tup h q => exact seqCase _ rfl t1
  | rol h q => exact seqCase _ rfl t1
  | ref b =>
    simp only at t1
    cases e : seqD μ1 (.ref b) with
    | none => rw [e] at t1; exact t1.elim
    | some xs => rw [e] at t1; exact seqCase xs e t1
  | _ => exact t1.elim
abbrev jRng1 (ta : DTA) : DTI := fun ρ μ Q => ta ρ μ fun vs μ1 => match vs with
  | [.int j] => (-(2 ^ 62) ≤ j ∧ j < 2 ^ 62) ∧ Q ((List.range j.toNat).map fun i => .int (i : Nat)) (fun _ => True) μ1
  | _ => False
theorem src_rng {K : PySem.W.Frag} {F H0 : Hp} {μ0 : Mu} (lo : Int) (n : Nat) : Src K F H0 μ0 (Itr lo n) ((List.range n).map fun i => .int (lo + (i : Nat))) fun _ => True where
  go := fun i F H μ e R k hi => by
    show i < n
    simpa using hi
  stop := fun F H μ e R k => by
    show n ≤ _
    simp
  yld := fun i F H μ x H' e R k yy d hd => by
    obtain ⟨rfl, rfl⟩ := yy
    rw [List.getElem?_map] at hd
    by_cases hi : i < n
    · rw [List.getElem?_range hi] at hd
      cases hd
      exact ⟨F, Stp.refl _ _ _, R, .int _⟩
    · rw [List.getElem?_eq_none (by simpa using Nat.le_of_not_lt hi)] at hd; cases hd
theorem di_range1 {ta : DTA} (hg : Gl X "range") (hm : X.mg "range" = none) (ha : DA X [a] ta) (hs : starEach [a] X.env = [(false, eval a X.env)] := by rfl) : DI X tg (.Call (.Name "range" p) [a] [] pos) (jRng1 ta) := weakI (pi_range1 hg hm ha hs) fun σ H R h => by
  obtain ⟨F, ρ, μ, Q', R0, S, t, k⟩ := h
  refine ⟨F, ρ, μ, _, R0, S, t, fun ds μ1 t1 F1 H1 vs s1 R1 r1 => ?_⟩
  cases r1 with
  | nil => exact t1.elim
  | cons r1 r2 => cases r2 with
    | cons _ _ => cases r1 <;> exact t1.elim
    | nil => cases r1 with
      | int j =>
        refine ⟨j, rfl, t1.1.1, t1.1.2, ?_⟩
        have hS := src_rng (K := X.K) (F := F1) (H0 := H1) (μ0 := μ1) 0 j.toNat
        simp only [Int.zero_add] at hS
        exact k _ _ _ t1.2 F1 H1 _ s1 R1 hS
      | _ => exact t1.elim
abbrev jRng2 (ta : DTA) : DTI := fun ρ μ Q => ta ρ μ fun vs μ1 => match vs with
  | [.int i, .int j] => (-(2 ^ 62) ≤ i ∧ i < 2 ^ 62 ∧ -(2 ^ 62) ≤ j ∧ j < 2 ^ 62) ∧ Q ((List.range (j - i).toNat).map fun k => .int (i + (k : Nat))) (fun _ => True) μ1
  | _ => False
theorem di_range2 {ta : DTA} (hg : Gl X "range") (hm : X.mg "range" = none) (ha : DA X [a, b] ta) (hs : starEach [a, b] X.env = [(false, eval a X.env), (false, eval b X.env)] := by rfl) (hs2 : starEach [b] X.env = [(false, eval b X.env)] := by rfl) : DI X tg (.Call (.Name "range" p) [a, b] [] pos) (jRng2 ta) := weakI (pi_range2 hg hm ha hs hs2) fun σ H R h => by
  obtain ⟨F, ρ, μ, Q', R0, S, t, k⟩ := h
  refine ⟨F, ρ, μ, _, R0, S, t, fun ds μ1 t1 F1 H1 vs s1 R1 r1 => ?_⟩
  cases r1 with
  | nil => exact t1.elim
  | cons r1 r2 => cases r2 with
    | nil => cases r1 <;> exact t1.elim
    | cons r2 r3 => cases r3 with
      | cons _ _ => cases r1 <;> cases r2 <;> exact t1.elim
      | nil => cases r1 with
        | int i => cases r2 with
          | int j => exact ⟨i, j, rfl, t1.1, k _ _ _ t1.2 F1 H1 _ s1 R1 (src_rng _ _)⟩
          | _ => exact t1.elim
        | _ => cases r2 <;> exact t1.elim
/-- zip of two lists or two tuples -/
def zips (xs ys : List SD) : List SD := List.zipWith (fun x y => SD.tup [x, y]) xs ys
def jZip (ta : DTA) : DTI := fun ρ μ Q => ta ρ μ fun vs μ1 => match vs with
  | [d, f] => isTup d = isTup f ∧ match seqD μ1 d, seqD μ1 f with
    | some xs, some ys => Q (zips xs ys) (fun μ' => seqD μ' d = some xs ∧ seqD μ' f = some ys) μ1
    | _, _ => False
  | _ => False

def dFor (wi : DTI) (g : DTG) (tb : DTS) : DTS := fun D ρ μ => wi ρ μ fun ds ok μ1 => ∃ W : Nat → Rho → Mu → Prop, W 0 ρ μ1 ∧ (∀ i ρ μ, i ≤ ds.length → W i ρ μ → ok μ) ∧
  (∀ i d ρ μ, ds[i]? = some d → W i ρ μ → g d ρ μ fun ρ2 μ2 => tb { D with nx := W (i + 1), ct := W (i + 1), bk := D.nx } ρ2 μ2) ∧ ∀ ρ μ, W ds.length ρ μ → D.nx ρ μ
theorem ds_for {wi : DTI} {g : DTG} {tb : DTS} (hp : PassesOwn (model X.prog X.w) X.A X.env X.xe) (hc : X.calm = true) (hi : DI X tg iter wi) (hg : DG X tg g) (hb : DSs X body tb)
    (hs : ∀ x, foldedSetIterable iter X.env x = pure x := by intro _; rfl) : DS_ X (.For tg iter body [] pos) (dFor wi g tb) := weakS (ps_for hp hc hi hg hb hs) fun D σ H h => by
  obtain ⟨F0, ρ0, μ0, D', R0, S0, t, k, k2, k3, k4⟩ := h
  refine ⟨F0, ρ0, μ0, _, R0, S0, t, fun ds ok μ1 t1 F1 H1 J s1 R1 src => ?_⟩
  obtain ⟨W, w0, hok, turn, fin⟩ := t1
  refine ⟨fun i m σ' H' => i + m = ds.length ∧ ∃ F ρ μ, Stp F1 H1 μ1 F H' μ ∧ HReal X.K F H' μ ∧ Slots X.K F σ' ρ ∧ W i ρ μ, ⟨ds.length, by omega, F1, ρ0, μ1, Stp.refl _ _ _, R1, S0.mono s1.ext, w0⟩, ?_⟩
  rintro i m σ' H' ⟨him, F, ρ, μ, s, R, S, w⟩
  have hle : i ≤ ds.length := by omega
  by_cases hi : i < ds.length
  · refine .inr ⟨src.go i F H' μ s R (hok i ρ μ hle w) hi, fun σ2 H2 => ∃ F ρ μ, Stp F1 H1 μ1 F H2 μ ∧ HReal X.K F H2 μ ∧ Slots X.K F σ2 ρ ∧ W (i + 1) ρ μ, ?_, ?_⟩
    · rintro σ2 H2 ⟨F', ρ', μ', s', R', S', w'⟩
      exact ⟨ds.length - (i + 1), by omega, by omega, F', ρ', μ', s', R', S', w'⟩
    · intro x H2 y
      obtain ⟨F', s', R', r'⟩ := src.yld i F H' μ x H2 s R (hok i ρ μ hle w) y _ (List.getElem?_eq_getElem hi)
      refine ⟨F', ρ, μ, _, _, R', S.mono s'.ext, r', turn i _ ρ μ (List.getElem?_eq_getElem hi) w, fun ρ2 μ2 t2 F2 H3 σ2 s2 R2 S2 => ?_⟩
      refine ⟨F2, ρ2, μ2, _, R2, S2, t2, ?_, ?_, ?_, ?_⟩
      · exact fun ρ' μ' q F'' H'' σ'' s'' R'' S'' => ⟨F'', ρ', μ', ((s.trans s').trans s2).trans s'', R'', S'', q⟩
      · exact fun d μ' q F'' H'' v s'' R'' r'' => k2 d μ' q F'' H'' v (s1.trans (((s.trans s').trans s2).trans s'')) R'' r''
      · exact fun ρ' μ' q F'' H'' σ'' s'' R'' S'' => k ρ' μ' q F'' H'' σ'' (s1.trans (((s.trans s').trans s2).trans s'')) R'' S''
      · exact fun ρ' μ' q F'' H'' σ'' s'' R'' S'' => ⟨F'', ρ', μ', ((s.trans s').trans s2).trans s'', R'', S'', q⟩
  · have e : i = ds.length := by omega
    subst e
    exact .inl ⟨src.stop F H' μ s R (hok _ ρ μ hle w), k ρ μ (fin ρ μ w) F H' σ' (s1.trans s) R S⟩

def wipeR (ρ : Rho) : List Nat → Rho
  | [] => ρ
  | v :: vs => (wipeR ρ vs).set v none
theorem Slots.setN {K : PySem.W.Frag} {F : Hp} {σ : L2.St} {ρ : Rho} (h : Slots K F σ ρ) (i : Nat) : Slots K F (σ.set i none) (ρ.set i none) := by
  refine ⟨by simp [h.len], fun j e q => ?_⟩
  by_cases hj : j = i
  · subst hj
    by_cases hl : j < ρ.length
    · rw [List.getElem?_set_self hl] at q; cases q
    · rw [List.getElem?_eq_none (by simpa using Nat.le_of_not_lt hl)] at q; cases q
  · rw [List.getElem?_set_ne (Ne.symm hj)] at q ⊢
    exact h.at_ j e q
theorem Slots.wipe {K : PySem.W.Frag} {F : Hp} {σ : L2.St} {ρ : Rho} (h : Slots K F σ ρ) : ∀ vs : List Nat, Slots K F (wipe σ vs) (wipeR ρ vs)
  | [] => h
  | v :: vs => (Slots.wipe h vs).setN v
theorem wipe_set (σ : L2.St) (v : Option V) : ∀ {vs : List Nat} {i : Nat}, i ∈ vs → wipe (σ.set i v) vs = wipe σ vs
  | w :: vs, i, h => by
    by_cases e : i ∈ vs
    · show (wipe (σ.set i v) vs).set w none = (wipe σ vs).set w none
      rw [wipe_set σ v e]
    · have e2 : i = w := by
        rcases List.mem_cons.mp h with z | z
        · exact z
        · exact absurd z e
      subst e2
      show (wipe (σ.set i v) vs).set i none = (wipe σ vs).set i none
      have : ∀ ws : List Nat, i ∉ ws → wipe (σ.set i v) ws = (wipe σ ws).set i v := by
        intro ws
        induction ws with
        | nil => intro _; rfl
        | cons a r ih =>
          intro hn
          have ha : i ≠ a := fun z => hn (by rw [z]; exact List.mem_cons_self)
          show (wipe (σ.set i v) r).set a none = ((wipe σ r).set a none).set i v
          rw [ih (fun z => hn (List.mem_cons_of_mem _ z)), List.set_comm _ _ ha]
      rw [this vs e, List.set_set]
end
end DS
namespace DS
open PySem PySem.Spec PyProof.Rows L2

/-- nothing that guards itself against going round runs -/
abbrev Quiet (A : Around) : Prop := A.guards = some []
/-- a def's promise, asked only where it is quiet -/
structure FnG (P : Program) (w : World) (K : PySem.W.Frag) (mg : Str → Option Value) (base : Heap) (CX : CXT) (k : Nat) (f : Addr) (fd : FuncData) (ps : List Str) (sp : Sp) : Prop where
  len : ∀ vs H Q E, sp vs H Q E → vs.length = ps.length
  go : ∀ (A : Around) (outer : List Env) (s : Shared) (H : Hp) (args : Args) (us : List Value) (vs : List V) (Q : VK) (E : XK), Quiet A → Room k A → Env0 P w K mg base A outer s H → BindsTo s fd args (ps.zip us) → Vals vs us → sp vs H Q E →
    codeAny (model P w) A (.call (.ref f) args) (CR CX outer P w H s Q E) s
section
variable {P : Program} {w : World} {K : PySem.W.Frag} {mg : Str → Option Value} {base : Heap} {CX : CXT} {j k : Nat} {f C : Addr} {fd : FuncData} {ps : List Str} {sp : Sp}
theorem FnG.of (F : FnOk P w K mg base CX k f fd ps sp) : FnG P w K mg base CX k f fd ps sp := ⟨F.len, fun A outer s H args us vs Q E _ => F.run A outer s H args us vs Q E⟩
theorem FnG.mono (F : FnG P w K mg base CX j f fd ps sp) (h : j ≤ k) : FnG P w K mg base CX k f fd ps sp := ⟨F.len, fun A outer s H args us vs Q E g r => F.go A outer s H args us vs Q E g (r.mono h)⟩
theorem FnG.imp {sp' : Sp} (F : FnG P w K mg base CX k f fd ps sp) (h : ∀ vs H Q E, sp' vs H Q E → sp vs H Q E) : FnG P w K mg base CX k f fd ps sp' :=
  ⟨fun vs H Q E q => F.len vs H Q E (h vs H Q E q), fun A outer s H args us vs Q E g r e b v q => F.go A outer s H args us vs Q E g r e b v (h vs H Q E q)⟩
/-- a promise that holds nowhere costs nothing: for induction on levels -/
theorem FnG.no (f : Addr) (fd : FuncData) (ps : List Str) : FnG P w K mg base CX k f fd ps (fun _ _ _ _ => False) := ⟨fun _ _ _ _ h => False.elim h, fun _ _ _ _ _ _ _ _ _ _ _ _ _ _ h => False.elim h⟩
end
theorem quiet_make {A : Around} (h : Quiet A) (C : Addr) (us : List Value) (kw : List (Str × Value)) : Quiet (A.under (.builtin "type.__call__" ⟨.ref C :: us, kw⟩)) := by
  have e : (Code.builtin "type.__call__" ⟨.ref C :: us, kw⟩).guards = [] := by
    unfold Code.guards
    rw [if_neg]
    simp [Code.isGuard, guardIds]
  show pushGuards (Code.builtin "type.__call__" ⟨.ref C :: us, kw⟩).guards A.guards = some []
  rw [e]
  exact h

section
variable {CX : CXT} {P : Program} {w : World} {K : PySem.W.Frag} {mg : Str → Option Value} {base : Heap}
/-- the def's body, walked where it is quiet -/
theorem fnG_of {k : Nat} {f : Addr} {name qual : Str} {params : Arguments} {body : List Stmt} {scope : Scope} {dV kV doc pm cdv ct oc : Value} {an od : Option Addr} {osl : Array (Option Value)} {N ps : List Str} {sp : Sp}
    (lk : K.lookup f = some ⟨oc, od, .func (PySem.W.fnOf name qual params body scope dV kV doc pm an cdv ct), osl⟩) (hcd : PySem.W.codeIn K cdv qual = true) (S : FnScope N ps scope) (len : ∀ vs H Q E, sp vs H Q E → vs.length = ps.length)
    (walk : ∀ (A : Around) (outer : List Env) (s : Shared) (H : Hp) (vs : List V) (Q : VK) (E : XK), Quiet A → Room k (A.deeper (envOfC qual scope s.heap.objs.size f cdv)) → sp vs H Q E →
      ∃ t, PSs (cxOf CX P w K mg base N qual scope f cdv A outer s H E) body t ∧ t { nx := fun _ H' => Q .non H', rt := Q } (L2.start N vs) H) :
    FnG P w K mg base CX (k + 1) f (PySem.W.fnOf name qual params body scope dV kV doc pm an cdv ct) ps sp where
  len := len
  go := fun A outer s H args us vs Q E quiet room e0 binds rel want => by
    have count := len vs H Q E want
    have old := fun b o e => (e0.bs b o e).1
    have here : K.In s.heap := e0.mod.kin.keeps old
    have kinds : ∀ y ∈ ps.zip us, scope.names.lookup y.1 = some .local ∨ (scope.names.lookup y.1 = some .cell ∧ ((cellsFrom (s.heap.objs.size + 1) scope.names []).lookup y.1).isSome = true) := by
      rintro ⟨n, v⟩ hy
      exact (S.par n (List.of_mem_zip hy).1).imp id fun z => ⟨z, PySem.W.cellsFrom_some _ _ _ (.inl z)⟩
    refine codeAny_call_function room.depth (here _ _ lk) rfl S.co S.gen rfl (PySem.W.codeRec_of here hcd) (binds _ _ _ _ ?_)
    refine wpAny_newFunctionEnv_cells S.kind kinds fun env he s1 within => ?_
    subst he
    refine ⟨(e0.mod.nolimit.keeps old).keeps within.toInCall.keep, codeAny_func ?_⟩
    obtain ⟨t, walked, read⟩ := walk A outer s H vs Q E quiet (room.deeper _) want
    have I := inv_start (CX := CX) (E := E) S room.hd e0 count rel within
    refine wpAny_mono (walked.run [] s1 (start N vs) H _ I read) (fun out s' got => ?_) fun _ _ z => z
    have done : ∀ {σ' : L2.St} {H' : Hp} {v : V} {u : Value}, Inv (cxOf CX P w K mg base N qual scope f cdv A outer s H E) [] σ' H' s' → RelV v u → Q v H' → CE outer P w H s Q u s' :=
      fun {_ H' v _} J rv q => ⟨v, H', J.os, J.bare, J.base, J.hok, rv, q⟩
    match out, got with
    | .ret u, ⟨v, _, _, J, rv, q⟩ => exact done J rv q
    | .next, ⟨_, _, J, q⟩ => exact done (v := V.non) (u := Value.none) J rfl q
    | .brk, ⟨_, _, _, q⟩ => exact False.elim q
    | .cont, ⟨_, _, _, q⟩ => exact False.elim q
end

section
variable {X : Cx} {CX : CXT} {k : Nat} {f C : Addr} {fd : FuncData} {ps ks : List Str} {sp : Sp} {dvs : List V} {ds : List Value} {E : XK} {x m : Str} {p pos apos : Pos} {e o : Expr} {es : List Expr} {kws : List Keyword} {ta : TE} {t tk : TA}
def GEnd (X : Cx) (pins : List (Addr × Obj)) (σ : L2.St) (Q : VK) : Result → Shared → Prop
  | .ok (.ret u), s' => EP X pins σ Q u s'
  | .ok _, _ => False
  | .error u, s' => X.xe u s'
theorem run_g {pins : List (Addr × Obj)} {σ : L2.St} {H : Hp} {s : Shared} {Q : VK} {us : List Value} {vs : List V} {args : Args} (F : FnG X.prog X.w X.K X.mg X.base CX k f fd ps sp) (hq : Quiet X.A) (hr : Room k X.A) (hx : Passes CX X E)
    (I : Inv X pins σ H s) (hb : BindsTo s fd args (ps.zip us)) (r : Vals vs us) (h : sp vs H Q E) : codeAny (model X.prog X.w) X.A (.call (.ref f) args) (GEnd X pins σ Q) s := by
  refine codeAny_mono (F.go X.A X.stack s H args us vs Q E hq hr I.env0 hb r h) fun out s' z => ?_
  match out, z with
  | .error u, z => exact hx pins σ H s u s' I z
  | .ok (.ret u), z => exact I.after z
  | .ok .next, z => exact False.elim z
  | .ok .brk, z => exact False.elim z
  | .ok .cont, z => exact False.elim z
theorem call_g {pins : List (Addr × Obj)} {σ : L2.St} {H : Hp} {s : Shared} {Q : VK} {us : List Value} {vs : List V} (F : FnG X.prog X.w X.K X.mg X.base CX k f fd ps sp) (hq : Quiet X.A) (hr : Room k X.A) (hb : Binds X.K fd ps ds) (hd : Vals dvs ds) (hx : Passes CX X E)
    (I : Inv X pins σ H s) (r : Vals vs us) (h : sp (vs ++ dvs) H Q E) : wpAny (model X.prog X.w) X.A (call (.ref f) us) (EP X pins σ Q) X.xe s := by
  have r2 := r.append hd
  have count : (us ++ ds).length = ps.length := r2.length.symm.trans (F.len _ _ _ _ h)
  refine wpAny_call (codeAny_mono (run_g (args := ⟨us, []⟩) F hq hr hx I (hb s us I.kIn count) r2 h) fun out s' z => ?_)
  match out, z with
  | .error _, z => exact z
  | .ok (.ret _), z => exact z
  | .ok .next, z => exact False.elim z
  | .ok .brk, z => exact False.elim z
  | .ok .cont, z => exact False.elim z
/-- f(e, ..) -/
theorem pe_g (F : FnG X.prog X.w X.K X.mg X.base CX k f fd ps sp) (hq : Quiet X.A) (hr : Room k X.A) (hg : Gl X x) (hm : X.mg x = some (.ref f)) (hk : PySem.W.keepIn X.K (.ref f) = true) (hb : Binds X.K fd ps ds) (hd : Vals dvs ds) (hx : Passes CX X E)
    (ha : PA X (e :: es) t) (hdb : (x == ("__debug__" : Str)) = false := by decide) (he : starEach (e :: es) X.env = (false, eval e X.env) :: starEach es X.env := by rfl) (hpl : (backTo pos (starEach es X.env)).any (·.1) = false := by rfl) :
    PE X (.Call (.Name x p) (e :: es) [] pos) (tCall sp dvs E t) :=
  ⟨fun pins s σ H Q I h => wpAny_Call_Name_kw (ld_glob I hg hm (PySem.W.callWith_K (h₀ := X.base) I.ok.mod.kin hk (thn (ha.run pos pins s σ H _ I h) fun _ _ ⟨_, _, I1, r, q⟩ => ⟨I1.kIn, call_g F hq hr hb hd hx I1 r q⟩) he hpl) hdb)⟩
end

abbrev DSp := List SD → Mu → (SD → Mu → Prop) → DXK → Prop
/-- the own dict of an exception, by what it holds -/
def XRep (K : PySem.W.Frag) (F H : Hp) (od : Option Addr) (fs : List (Str × SD)) : Prop :=
  (od = none ∧ fs = []) ∨ ∃ d vs, od = some d ∧ H d = some (.xd vs) ∧ vs.map (·.1) = fs.map (·.1) ∧ RepL K F (fs.map (·.2)) (vs.map (·.2))
def LSp (K : PySem.W.Frag) (sp : DSp) : Sp := fun vs H Q E => ∃ F μ ds Q' E', HReal K F H μ ∧ RepL K F ds vs ∧ sp ds μ Q' E' ∧
  (∀ d μ', Q' d μ' → ∀ F' H' v, Stp F H μ F' H' μ' → HReal K F' H' μ' → RepS K F' d v → Q v H') ∧
  (∀ C fs μ', E' C fs μ' → ∀ F' H' od, Stp F H μ F' H' μ' → HReal K F' H' μ' → XRep K F' H' od fs → E (.ref C) od H')
abbrev dCall (sp : DSp) (dvs : List SD) (t : DTA) : DTE := fun ρ μ Q => t ρ μ fun ds μ1 => sp (ds ++ dvs) μ1 Q fun _ _ _ => False
section
variable {X : Cx} {k : Nat} {f C : Addr} {fd : FuncData} {ps ks : List Str} {sp : DSp} {dvs : List SD} {dvV : List V} {dv : List Value} {x m : Str} {p pos apos : Pos} {a e o : Expr} {es : List Expr} {kws : List Keyword} {ta : DTE} {t tk : DTA}
theorem RepL.plain {K : PySem.W.Frag} {F : Hp} : ∀ {ds : List SD} {vs : List V}, Paired (fun d v => plain d = some v) ds vs → RepL K F ds vs
  | _, _, .nil => .nil
  | _, _, .cons h r => .cons (RepS.plain h) (RepL.plain r)
/-- a call of a def that lets nothing out -/
theorem de_call {CX : CXT} (F : FnG X.prog X.w X.K X.mg X.base CX k f fd ps (LSp X.K sp)) (hq : Quiet X.A) (hr : Room k X.A) (hg : Gl X x) (hm : X.mg x = some (.ref f)) (hk : PySem.W.keepIn X.K (.ref f) = true) (hb : Binds X.K fd ps []) (hx : Passes CX X E0)
    (ha : DA X (e :: es) t) (hdb : (x == ("__debug__" : Str)) = false := by decide) (he : starEach (e :: es) X.env = (false, eval e X.env) :: starEach es X.env := by rfl) (hpl : (backTo pos (starEach es X.env)).any (·.1) = false := by rfl) :
    DE X (.Call (.Name x p) (e :: es) [] pos) (dCall sp [] t) := weakE (pe_g (E := E0) F hq hr hg hm hk hb .nil hx ha hdb he hpl) fun σ H Q h => by
  obtain ⟨F, ρ, μ, Q', R, S, t, k⟩ := h
  refine ⟨F, ρ, μ, _, R, S, t, fun ds μ1 t1 F1 H1 vs s1 R1 r1 => ?_⟩
  refine ⟨F1, μ1, ds, Q', _, R1, by rw [List.append_nil]; exact r1, by rw [List.append_nil] at t1; exact t1, fun d μ' q F' H' v s R' r' => k d μ' q F' H' v (s1.trans s) R' r', fun _ _ _ q => False.elim q⟩
end

/-- the slots at a def's entry -/
def begin_ (N : List Str) (ds : List SD) : Rho := ds.map some ++ List.replicate (N.length - ds.length) none
theorem slots_begin {K : PySem.W.Frag} {F : Hp} {N : List Str} {ds : List SD} {vs : List V} (r : RepL K F ds vs) : Slots K F (L2.start N vs) (begin_ N ds) := by
  have hl := r.length
  refine ⟨by simp [L2.start, begin_, hl], fun i d e => ?_⟩
  unfold begin_ at e
  by_cases hi : i < ds.length
  · rw [List.getElem?_append_left (by simpa using hi), List.getElem?_map] at e
    cases q : ds[i]? with
    | none => rw [q] at e; cases e
    | some d' =>
      rw [q] at e
      cases e
      obtain ⟨v, h1, h2⟩ := r.get q
      refine ⟨v, ?_, h2⟩
      unfold L2.start
      rw [List.getElem?_append_left (by simpa [← hl] using hi), List.getElem?_map, h1]
      rfl
  · rw [List.getElem?_append_right (by simpa using Nat.le_of_not_lt hi), List.getElem?_replicate] at e
    split at e <;> cases e
section
variable {P : Program} {w : World} {K : PySem.W.Frag} {mg : Str → Option Value} {base : Heap}
/-- a def that lets nothing out -/
theorem def_ok {x qual : Str} {st : Stmt} {f : Addr} {fd : FuncData} {N ps : List Str} {k : Nat} {sp : DSp} (F : Fun K x qual st f fd) (S : FnScope N ps (defScope st)) (t : DTS) (len : ∀ ds μ Q E, sp ds μ Q E → ds.length = ps.length)
    (walk : ∀ (cdv : Value) (A : Around) (outer : List Env) (s : Shared) (H : Hp) (E : XK), Quiet A → Room k (A.deeper (envOfC qual (defScope st) s.heap.objs.size f cdv)) →
      DSs (cxOf CX0 P w K mg base N qual (defScope st) f cdv A outer s H E).nox (defBody st) t)
    (read : ∀ ds μ Q E, sp ds μ Q E → t { nx := fun _ μ' => Q .non μ', rt := Q } (begin_ N ds) μ) : FnG P w K mg base CX0 (k + 1) f fd ps (LSp K sp) := by
  obtain ⟨oc, od, kV, doc, pm, an, cdv, ct, osl, rfl, lk, hcd⟩ := F.ex
  refine fnG_of lk hcd S (fun vs H Q E h => ?_) fun A outer s H vs Q E quiet room want => ?_
  · obtain ⟨F, μ, ds, Q', E', _, r, q, _⟩ := h
    rw [← r.length]; exact len ds μ Q' E' q
  · obtain ⟨F, μ, ds, Q', E', R, r, q, k1, _⟩ := want
    refine ⟨_, (walk cdv A outer s H E quiet room).nox, F, begin_ N ds, μ, _, R, slots_begin r, read ds μ Q' E' q, ?_, k1, fun _ _ z => False.elim z, fun _ _ z => False.elim z⟩
    exact fun ρ' μ' q F' H' σ' s' R' _ => k1 .non μ' q F' H' .non s' R' .non
end
end DS
namespace DS
open PySem PySem.Spec PyProof.Rows L2

section
variable {K : PySem.W.Frag} {F H : Hp} {μ : Mu} {p : Addr}
theorem HReal.aside (R : HReal K F H μ) {o : HO} (hF : F p = none) (hM : μ p = none) : HReal K F (upd H p o) μ :=
  ⟨fun a u e => by rw [upd_ne (ne_of_none e hF)]; exact R.sub a u e, fun a m e => by
    obtain ⟨z, u, q, r⟩ := R.mus a m e
    exact ⟨z, u, by rw [upd_ne (mu_ne e hM)]; exact q, r⟩⟩
theorem HReal.adopt (R : HReal K F H μ) {o : HO} (hF : F p = none) (hM : μ p = none) (hH : H p = some o) : HReal K (upd F p o) H μ :=
  ⟨fun a u e => by
    by_cases ha : a = p
    · subst ha; rw [upd_same] at e; cases e; exact hH
    · rw [upd_ne ha] at e; exact R.sub a u e, fun a m e => by
    obtain ⟨z, u, q, r⟩ := R.mus a m e
    exact ⟨by rw [upd_ne (mu_ne e hM)]; exact z, u, q, r.mono (Ext.new hF)⟩⟩
theorem HReal.adoptM (R : HReal K F H μ) {o : HO} {m : MO} (hF : F p = none) (hH : H p = some o) (r : RepO K F m o) : HReal K F H (up μ p m) :=
  ⟨R.sub, fun a n e => by
    by_cases ha : a = p
    · subst ha; rw [up_same] at e; cases e; exact ⟨hF, o, hH, r⟩
    · rw [up_ne ha] at e; exact R.mus a n e⟩
end

/-- a target that touches own slots alone, with its datum's reading -/
structure OwnG (K : PySem.W.Frag) (g : TG) (dg : DTG) (vs : List Nat) : Prop where
  lift : ∀ v σ H Q F ρ μ d Q', HReal K F H μ → Slots K F σ ρ → RepS K F d v → dg d ρ μ Q' →
    (∀ ρ' μ', Q' ρ' μ' → ∀ F' H' σ', Stp F H μ F' H' μ' → HReal K F' H' μ' → Slots K F' σ' ρ' → wipe σ' vs = wipe σ vs → Q σ' H') → g v σ H Q
theorem own_name {K : PySem.W.Frag} {i : Nat} {vs : List Nat} (h : i ∈ vs) : OwnG K (gName i) (hName i) vs :=
  ⟨fun v σ H Q F ρ μ d Q' R S r t k => k _ μ t F H _ (Stp.refl F H μ) R (S.set i r) (wipe_set σ _ h)⟩
def hNames : List Nat → DTGs
  | [] => hNil
  | i :: r => hCons (hName i) (hNames r)
def gNames : List Nat → TGs
  | [] => gNil
  | i :: r => gCons (gName i) (gNames r)
theorem own_names {K : PySem.W.Frag} {F H : Hp} {μ : Mu} {vs : List Nat} (R : HReal K F H μ) : ∀ (is : List Nat), (∀ i ∈ is, i ∈ vs) → ∀ (xs : List V) (ds : List SD) (σ : L2.St) (ρ : Rho) (Q : L2.St → Hp → Prop) (Q' : Rho → Mu → Prop),
    Slots K F σ ρ → RepL K F ds xs → hNames is ds ρ μ Q' → (∀ ρ' μ', Q' ρ' μ' → ∀ F' H' σ', Stp F H μ F' H' μ' → HReal K F' H' μ' → Slots K F' σ' ρ' → wipe σ' vs = wipe σ vs → Q σ' H') → gNames is xs σ H Q
  | [], _, xs, ds, σ, ρ, Q, Q', S, r, t, k => by
    obtain ⟨rfl, t⟩ := t
    cases r
    exact ⟨rfl, k ρ μ t F H σ (Stp.refl F H μ) R S rfl⟩
  | i :: is, h, xs, ds, σ, ρ, Q, Q', S, r, t, k => by
    cases r with
    | nil => exact False.elim t
    | cons r rr =>
      refine ⟨_, _, rfl, own_names R is (fun j hj => h j (List.mem_cons_of_mem _ hj)) _ _ _ _ Q Q' (S.set i r) rr t fun ρ' μ' q F' H' σ' s R' S' e => ?_⟩
      exact k ρ' μ' q F' H' σ' s R' S' (e.trans (wipe_set σ _ (h i List.mem_cons_self)))
theorem own_tup {K : PySem.W.Frag} {n : Nat} {is vs : List Nat} (h : ∀ i ∈ is, i ∈ vs) : OwnG K (gTup K n (gNames is)) (hTup n (hNames is)) vs :=
  ⟨fun v σ H Q F ρ μ d Q' R S r t k => by
    cases r with
    | tup hh r => exact ⟨_, _, rfl, R.ext.sqT hh, by rw [← r.length]; exact t.1, own_names R is h _ _ σ ρ Q Q' S r t.2 k⟩
    | _ => exact False.elim t⟩
def dLc (wi : DTI) (g : DTG) (tt : DTT) (te : DTE) (vs : List Nat) : Rho → Mu → (List SD → Mu → Prop) → Prop := fun ρ μ Q => wi ρ μ fun ds ok μ1 => ds.length ≤ sizeLine ∧ ∃ W : Nat → List SD → Mu → Prop, W 0 [] μ1 ∧
  (∀ i acc μ, i ≤ ds.length → W i acc μ → ok μ) ∧ (∀ i d acc μ, ds[i]? = some d → W i acc μ → g d (wipeR ρ vs) μ fun ρ2 μ2 => tt ρ2 μ2 fun b μ3 => if b = true then te ρ2 μ3 fun y μ4 => W (i + 1) (acc ++ [y]) μ4 else W (i + 1) acc μ3) ∧
  ∀ acc μ, W ds.length acc μ → Q acc μ
/-- the new list will not change | may change -/
def dLcS (wi : DTI) (g : DTG) (tt : DTT) (te : DTE) (vs : List Nat) : DTE := fun ρ μ Q => dLc wi g tt te vs ρ μ fun acc μ' => Q (.lst acc) μ'
def dLcM (wi : DTI) (g : DTG) (tt : DTT) (te : DTE) (vs : List Nat) : DTE := fun ρ μ Q => dLc wi g tt te vs ρ μ fun acc μ' => ∀ p, μ' p = none → Q (.ref p) (up μ' p (.lst acc))
theorem liftLc {K : PySem.W.Frag} {wi : DTI} {g : TG} {dg : DTG} {tt : DTT} {te : DTE} {vs : List Nat} (og : OwnG K g dg vs) {σ : L2.St} {H F : Hp} {ρ : Rho} {μ : Mu} {Q : VK} {Q' : List SD → Mu → Prop} (R : HReal K F H μ) (S : Slots K F σ ρ) (t : dLc wi dg tt te vs ρ μ Q')
    (k : ∀ acc μ', Q' acc μ' → ∀ F' H' p ws, Stp F H μ F' H' μ' → HReal K F' H' μ' → F' p = none → μ' p = none → H' p = some (.lst ws) → RepL K F' acc ws → (∀ a, H a ≠ none → F a = none → μ a = none → a ≠ p) → Q (.ref p) H') : tLc (LI K wi) g (LT K tt) (LE K te) vs σ H Q := by
  refine ⟨F, ρ, μ, _, R, S, t, fun ds ok μ1 t1 F1 H1 J s1 R1 src D hD => ?_⟩
  obtain ⟨hlen, W, w0, hok, turn, fin⟩ := t1
  have hDF := R1.freeF hD
  have hDM := R1.freeM hD
  refine ⟨fun i m H' => i + m = ds.length ∧ ∃ F μ acc ws, Stp F1 H1 μ1 F H' μ ∧ HReal K F H' μ ∧ F D = none ∧ μ D = none ∧ H' D = some (.lst ws) ∧ RepL K F acc ws ∧ acc.length ≤ i ∧ W i acc μ, ⟨ds.length, by omega, F1, μ1, [], [], ?_, R1.aside hDF hDM, hDF, hDM, upd_same, .nil, Nat.le_refl _, w0⟩, ?_⟩
  · exact ⟨Ext.refl _, fun a h1 h2 h3 => ⟨upd_ne (fun z => by subst z; exact h1 hD), h2, h3⟩⟩
  rintro i m H' ⟨him, F2, μ2, acc, ws, s2, R2, f2, m2, hH2, r2, hacc, w2⟩
  have hle : i ≤ ds.length := by omega
  by_cases hi : i < ds.length
  · refine .inr ⟨src.go i F2 H' μ2 s2 R2 (hok i acc μ2 hle w2) hi, fun H3 => ∃ F μ acc ws, Stp F1 H1 μ1 F H3 μ ∧ HReal K F H3 μ ∧ F D = none ∧ μ D = none ∧ H3 D = some (.lst ws) ∧ RepL K F acc ws ∧ acc.length ≤ i + 1 ∧ W (i + 1) acc μ, ?_, ?_⟩
    · rintro H3 ⟨F3, μ3, acc3, ws3, z⟩
      exact ⟨ds.length - (i + 1), by omega, by omega, F3, μ3, acc3, ws3, z⟩
    · intro x H3 y
      obtain ⟨F3, s3, R3, r3⟩ := src.yld i F2 H' μ2 x H3 s2 R2 (hok i acc μ2 hle w2) y _ (List.getElem?_eq_getElem hi)
      obtain ⟨e3, f3, m3⟩ := s3.fr D (by rw [hH2]; exact fun z => nomatch z) f2 m2
      have S3 : Slots K F3 (wipe σ vs) (wipeR ρ vs) := ((S.mono (s1.ext.trans s2.ext)).mono s3.ext).wipe vs
      refine og.lift x _ H3 _ F3 _ μ2 _ _ R3 S3 r3 (turn i _ acc μ2 (List.getElem?_eq_getElem hi) w2) fun ρ4 μ4 t4 F4 H4 σ4 s4 R4 S4 e4 => ⟨e4.trans ?_, ?_⟩
      · have idem : ∀ (τ : L2.St) (us : List Nat), (∀ i ∈ us, τ[i]? = none ∨ τ[i]? = some none) → wipe τ us = τ := by
          intro τ us
          induction us with
          | nil => intro _; rfl
          | cons a r ih =>
            intro hz
            show (wipe τ r).set a none = τ
            rw [ih fun i hi => hz i (List.mem_cons_of_mem _ hi)]
            rcases hz a List.mem_cons_self with q | q
            · exact List.set_eq_of_length_le (List.getElem?_eq_none_iff.mp q)
            · apply List.ext_getElem?
              intro j
              by_cases hj : j = a
              · subst hj
                obtain ⟨hl, _⟩ := List.getElem?_eq_some_iff.mp q
                rw [List.getElem?_set_self hl, q]
              · rw [List.getElem?_set_ne (Ne.symm hj)]
        refine idem _ _ fun i hi => ?_
        have done : ∀ (us : List Nat), i ∈ us → (wipe σ us)[i]? = none ∨ (wipe σ us)[i]? = some none := by
          intro us
          induction us with
          | nil => intro h; cases h
          | cons a r ih =>
            intro h
            show ((wipe σ r).set a none)[i]? = none ∨ ((wipe σ r).set a none)[i]? = some none
            by_cases e : a = i
            · subst e
              by_cases hl : a < (wipe σ r).length
              · exact .inr (List.getElem?_set_self hl)
              · exact .inl (List.getElem?_eq_none (by simpa using Nat.le_of_not_lt hl))
            · rw [List.getElem?_set_ne e]
              exact ih ((List.mem_cons.mp h).resolve_left (fun z => e z.symm))
        exact done vs hi
      · obtain ⟨e5, f5, m5⟩ := s4.fr D (by rw [e3, hH2]; exact fun z => nomatch z) f3 m3
        refine ⟨F4, ρ4, μ4, _, R4, S4, t4, fun b μ6 t6 F6 H6 s6 R6 => ?_⟩
        obtain ⟨e7, f7, m7⟩ := s6.fr D (by rw [e5, e3, hH2]; exact fun z => nomatch z) f5 m5
        have at6 : H6 D = some (.lst ws) := by rw [e7, e5, e3, hH2]
        have st6 := ((s2.trans s3).trans s4).trans s6
        have ext6 : Ext F2 F6 := (s3.ext.trans s4.ext).trans s6.ext
        cases b with
        | false => exact ⟨F6, μ6, acc, ws, st6, R6, f7, m7, at6, r2.mono ext6, Nat.le_succ_of_le hacc, t6⟩
        | true =>
          refine ⟨F6, ρ4, μ6, _, R6, S4.mono s6.ext, t6, fun d μ8 t8 F8 H8 v s8 R8 r8 => ?_⟩
          obtain ⟨e9, f9, m9⟩ := s8.fr D (by rw [at6]; exact fun z => nomatch z) f7 m7
          have at8 : H8 D = some (.lst ws) := e9.trans at6
          have ra : RepL K F8 acc ws := r2.mono (ext6.trans s8.ext)
          refine ⟨ws, at8, by rw [← ra.length]; exact Nat.lt_of_le_of_lt hacc (Nat.lt_of_lt_of_le hi hlen), F8, μ8, acc ++ [d], ws ++ [v], ?_, R8.aside f9 m9, f9, m9, upd_same, ra.append (.one r8), ?_, t8⟩
          · refine ⟨(st6.trans s8).ext, fun a h1 h2 h3 => ?_⟩
            have ha : a ≠ D := fun z => by subst z; exact h1 hD
            obtain ⟨q1, q2, q3⟩ := (st6.trans s8).fr a h1 h2 h3
            exact ⟨(upd_ne ha).trans q1, q2, q3⟩
          · rw [List.length_append]; exact Nat.succ_le_succ hacc
  · have e : i = ds.length := by omega
    subst e
    refine .inl ⟨src.stop F2 H' μ2 s2 R2 (hok _ acc μ2 hle w2), ?_⟩
    refine k acc μ2 (fin acc μ2 w2) F2 H' D ws (s1.trans s2) R2 f2 m2 hH2 r2 fun a ha hb hc z => ?_
    subst z
    exact ha ((s1.fr a ha hb hc).1.symm.trans hD)
end DS
namespace DS
open PySem PySem.Spec PyProof.Rows L2
section
variable {X : Cx} {pos p spos py : Pos} {a b c e o iter tg elt : Expr} {es ifs : List Expr} {x y : Str} {scope : Scope} {own : List (Str × Nat)} {wi : DTI} {g : TG} {dg : DTG} {tt : DTT} {te : DTE}
abbrev DTs (X : Cx) (ifs : List Expr) (t : DTT) : Prop := PTs X ifs (LT X.K t)
abbrev dYes : DTT := fun _ μ Q => Q true μ
theorem dts_nil : DTs X [] dYes := ⟨fun pins s σ H Q I h => by
  obtain ⟨F, ρ, μ, Q', R, S, t, k⟩ := h
  exact pts_nil.run pins s σ H Q I (k true μ t F H (Stp.refl F H μ) R)⟩
theorem dts_one {t : DTT} (h : DT X c t) : DTs X [c] t := pts_one h
theorem lcS {K : PySem.W.Frag} {vs : List Nat} (og : OwnG K g dg vs) : ∀ σ H Q, LE K (dLcS wi dg tt te vs) σ H Q → tLc (LI K wi) g (LT K tt) (LE K te) vs σ H Q := fun σ H Q h => by
  obtain ⟨F, ρ, μ, Q', R, S, t, k⟩ := h
  refine liftLc og R S t fun acc μ' q F' H' p ws s R' f m hp r ne => ?_
  have ex : Ext F' (upd F' p (.lst ws)) := Ext.new f
  refine k (.lst acc) μ' q (upd F' p (.lst ws)) H' (.ref p) ⟨s.ext.trans ex, fun a h1 h2 h3 => ?_⟩ (R'.adopt f m hp) (.lst upd_same (r.mono ex))
  obtain ⟨q1, q2, q3⟩ := s.fr a h1 h2 h3
  exact ⟨q1, by rw [upd_ne (ne a h1 h2 h3)]; exact q2, q3⟩
theorem lcM {K : PySem.W.Frag} {vs : List Nat} (og : OwnG K g dg vs) : ∀ σ H Q, LE K (dLcM wi dg tt te vs) σ H Q → tLc (LI K wi) g (LT K tt) (LE K te) vs σ H Q := fun σ H Q h => by
  obtain ⟨F, ρ, μ, Q', R, S, t, k⟩ := h
  refine liftLc og R S t fun acc μ' q F' H' p ws s R' f m hp r ne => ?_
  refine k (.ref p) _ (q p m) F' H' (.ref p) ⟨s.ext, fun a h1 h2 h3 => ?_⟩ (R'.adoptM f hp (.lst r)) (.ref p)
  obtain ⟨q1, q2, q3⟩ := s.fr a h1 h2 h3
  exact ⟨q1, q2, by rw [up_ne (ne a h1 h2 h3)]; exact q3⟩
variable (hc : X.calm = true) (hN : X.N.Nodup) (ok : BlkOk X.N X.env.scope scope own) (og : OwnG X.K g dg (own.map (·.2))) (hi : DI X tg iter wi)
  (hg : ∀ (s : Shared) (H : Hp) (C : Addr) (cl : List (Str × Addr)) (fp : List Addr), PG (X.blk s H scope (compEnvC scope cl C X.env) fp) tg g)
  (ht : ∀ (s : Shared) (H : Hp) (C : Addr) (cl : List (Str × Addr)) (fp : List Addr), DTs (X.blk s H scope (compEnvC scope cl C X.env) fp) ifs tt)
  (he : ∀ (s : Shared) (H : Hp) (C : Addr) (cl : List (Str × Addr)) (fp : List Addr), DE (X.blk s H scope (compEnvC scope cl C X.env) fp) elt te)
include hc hN ok og hi hg ht he
theorem de_lc (hs : ∀ x, foldedSetIterable iter X.env x = pure x := by intro _; rfl) : DE X (.ListComp elt [⟨tg, iter, ifs, 0⟩] scope pos) (dLcS wi dg tt te (own.map (·.2))) := weakE (pe_lc hc hN hi ok hg ht he hs) (lcS og)
theorem ds_setLc {i : Nat} (hy : X.N[i]? = some y) (hyl : X.env.scope.names.lookup y = some .local) (hsw : swapsWith (.ListComp elt [⟨tg, iter, ifs, 0⟩] scope pos) (some (.Name y py)) spos.line X.env = pure true) (hs : ∀ x, foldedSetIterable iter X.env x = pure x := by intro _; rfl) :
    DS_ X (.Assign [.Name y py] (.ListComp elt [⟨tg, iter, ifs, 0⟩] scope pos) spos) (dSet (dLcS wi dg tt te (own.map (·.2))) i) := weakS (ps_setLc hc hN hy hyl hsw hi ok hg ht he hs) fun D σ H h => by
  obtain ⟨F, ρ, μ, D', R, S, t, k, _⟩ := h
  exact lcS og σ H _ ⟨F, ρ, μ, _, R, S, t, fun d μ1 t1 F1 H1 v s1 R1 r1 => k _ μ1 t1 F1 H1 _ s1 R1 ((S.mono s1.ext).set i r1)⟩
theorem ds_setLcM {i : Nat} (hy : X.N[i]? = some y) (hyl : X.env.scope.names.lookup y = some .local) (hsw : swapsWith (.ListComp elt [⟨tg, iter, ifs, 0⟩] scope pos) (some (.Name y py)) spos.line X.env = pure true) (hs : ∀ x, foldedSetIterable iter X.env x = pure x := by intro _; rfl) :
    DS_ X (.Assign [.Name y py] (.ListComp elt [⟨tg, iter, ifs, 0⟩] scope pos) spos) (dSet (dLcM wi dg tt te (own.map (·.2))) i) := weakS (ps_setLc hc hN hy hyl hsw hi ok hg ht he hs) fun D σ H h => by
  obtain ⟨F, ρ, μ, D', R, S, t, k, _⟩ := h
  exact lcM og σ H _ ⟨F, ρ, μ, _, R, S, t, fun d μ1 t1 F1 H1 v s1 R1 r1 => k _ μ1 t1 F1 H1 _ s1 R1 ((S.mono s1.ext).set i r1)⟩
end

section
variable {X : Cx} {K : PySem.W.Frag}
def dAdd : DR2 := fun x y μ Q => match x with
  | .int i => match y with
    | .int j => Q (.int (i + j)) μ
    | _ => False
  | .str i => match y with
    | .str j => i.length + j.length ≤ sizeLine ∧ Q (.str (i ++ j)) μ
    | _ => False
  | .tup xs => match y with
    | .tup ys => xs.length + ys.length ≤ sizeLine ∧ Q (.tup (xs ++ ys)) μ
    | _ => False
  | x => match lstD μ x, lstD μ y with
    | some xs, some ys => xs.length + ys.length ≤ sizeLine ∧ Q (.lst (xs ++ ys)) μ
    | _, _ => False
def rAdd (K : PySem.W.Frag) : R2 := fun x y H Q => (∃ i j, x = .int i ∧ y = .int j ∧ Q (.int (i + j)) H) ∨ ((∃ i j, x = .str i ∧ y = .str j ∧ i.length + j.length ≤ sizeLine ∧ Q (.str (i ++ j)) H) ∨ (rCatA K x y H Q ∨ rCat x y H Q))
theorem opr_add : OpR X (binaryOp .Add) (rAdd X.K) := OpR.or op_add (OpR.or op_add_str (OpR.or op_catA op_cat))
theorem lr_add : LR2 K dAdd (rAdd K) := fun F H μ x y dx dy Q' Q R rx ry t k => by
  have lists : ∀ xs ys, lstD μ dx = some xs → lstD μ dy = some ys → xs.length + ys.length ≤ sizeLine ∧ Q' (.lst (xs ++ ys)) μ → rAdd K x y H Q := fun xs ys ex ey t => by
    obtain ⟨a, vs, rfl, ha, r1⟩ := R.lst rx ex
    obtain ⟨b, ws, rfl, hb, r2⟩ := R.lst ry ey
    refine .inr (.inr (.inr ⟨a, b, vs, ws, rfl, rfl, ha, hb, by rw [← r1.length, ← r2.length]; exact t.1, fun q hq => ?_⟩))
    exact k _ μ t.2 _ _ _ (Stp.newS R hq) (R.newS hq) (.lst upd_same ((r1.append r2).mono (Ext.new (R.freeF hq))))
  have fall : ∀ {b : Prop}, (match lstD μ dx, lstD μ dy with
    | some xs, some ys => xs.length + ys.length ≤ sizeLine ∧ Q' (.lst (xs ++ ys)) μ
    | _, _ => False) → rAdd K x y H Q := fun {b} t => by
    cases e1 : lstD μ dx with
    | none => rw [e1] at t; exact False.elim t
    | some xs => cases e2 : lstD μ dy with
      | none => rw [e1, e2] at t; exact False.elim t
      | some ys => rw [e1, e2] at t; exact lists xs ys e1 e2 t
  cases dx with
  | int i => cases dy with
    | int j => cases rx; cases ry; exact .inl ⟨i, j, rfl, rfl, k _ μ t F H _ (Stp.refl _ _ _) R (.int _)⟩
    | _ => exact False.elim t
  | str i => cases dy with
    | str j => cases rx; cases ry; exact .inr (.inl ⟨i, j, rfl, rfl, t.1, k _ μ t.2 F H _ (Stp.refl _ _ _) R (.str _)⟩)
    | _ => exact False.elim t
  | tup xs => cases dy with
    | tup ys =>
      cases rx with
      | tup h1 r1 => cases ry with
        | tup h2 r2 =>
          refine .inr (.inr (.inl ⟨_, _, _, _, rfl, rfl, R.ext.sqT h1, R.ext.sqT h2, by rw [← r1.length, ← r2.length]; exact t.1, fun z => ?_, fun _ z => ?_, fun _ _ q hq => ?_⟩))
          · have e := r1.nil_iff.mpr z
            subst e
            exact k _ μ t.2 F H _ (Stp.refl _ _ _) R (.tup h2 r2)
          · have e := r2.nil_iff.mpr z
            subst e
            have t2 := t.2
            rw [List.append_nil] at t2
            exact k _ μ t2 F H _ (Stp.refl _ _ _) R (.tup h1 r1)
          · exact k _ μ t.2 _ _ _ (Stp.newS R hq) (R.newS hq) (.tup (.inl (.inl upd_same)) ((r1.append r2).mono (Ext.new (R.freeF hq))))
    | _ => exact False.elim t
  | lst xs => exact fall (b := True) t
  | ref a => exact fall (b := True) t
  | _ => exact fall (b := True) t
def dSub : DR2 := fun x y μ Q => match x with
  | .int i => match y with
    | .int j => Q (.int (i - j)) μ
    | _ => False
  | _ => False
theorem lr_ints {dr : DR2} {C : Int → Int → Prop} {gg : Int → Int → V} {ff : Int → Int → SD} (hf : ∀ i j, plain (ff i j) = some (gg i j)) (h : ∀ x y μ Q, dr x y μ Q → ∃ i j, x = .int i ∧ y = .int j ∧ C i j ∧ Q (ff i j) μ) : LR2 K dr (rI C gg) := fun F H μ x y dx dy Q' Q R rx ry t k => by
  obtain ⟨i, j, rfl, rfl, hC, t2⟩ := h _ _ _ _ t
  cases rx; cases ry
  exact ⟨i, j, rfl, rfl, hC, k _ μ t2 F H _ (Stp.refl _ _ _) R (RepS.plain (hf i j))⟩
theorem lr_ints0 {dr : DR2} {gg : Int → Int → V} {ff : Int → Int → SD} (hf : ∀ i j, plain (ff i j) = some (gg i j)) (h : ∀ x y μ Q, dr x y μ Q → ∃ i j, x = .int i ∧ y = .int j ∧ Q (ff i j) μ) : LR2 K dr (rI0 gg) := fun F H μ x y dx dy Q' Q R rx ry t k => by
  obtain ⟨i, j, rfl, rfl, t2⟩ := h _ _ _ _ t
  cases rx; cases ry
  exact ⟨i, j, rfl, rfl, k _ μ t2 F H _ (Stp.refl _ _ _) R (RepS.plain (hf i j))⟩
theorem lr_sub : LR2 K dSub (rI0 fun i j => .int (i - j)) := lr_ints0 (ff := fun i j => .int (i - j)) (fun _ _ => rfl) fun x y μ Q t => by
  cases x <;> cases y <;> first | exact False.elim t | exact ⟨_, _, rfl, rfl, t⟩
/-- x * y: two ints; a text and an int; a list and an int -/
def repS (x : Str) (n : Nat) : Str := ⟨((List.replicate n x.cps.toList).flatten).toArray⟩
theorem foldl_app (a : Array Nat) : ∀ (n : Nat) (acc : Array Nat), (List.replicate n a).foldl (· ++ ·) acc = (acc.toList ++ (List.replicate n a.toList).flatten).toArray
  | 0, acc => by simp
  | n + 1, acc => by
    rw [List.replicate_succ, List.foldl_cons, foldl_app a n, List.replicate_succ, List.flatten_cons]
    simp
theorem repS_eq (x : Str) (n : Nat) : (⟨(List.replicate n x.cps).foldl (· ++ ·) #[]⟩ : Str) = repS x n := by
  unfold repS
  rw [foldl_app]
  simp
theorem repS_length (x : Str) (n : Nat) : (repS x n).length = x.length * n := by
  show ((List.replicate n x.cps.toList).flatten).toArray.size = x.cps.size * n
  simp [Nat.mul_comm]
theorem op_mulS : OpR X (binaryOp .Mult) (fun x y H Q => ∃ s j, x = .str s ∧ y = .int j ∧ (0 ≤ j ∧ j ≤ 1000000 ∧ s.length * j.toNat ≤ sizeLine) ∧ Q (.str (repS s j.toNat)) H) := by
  intro pins st σ H x y v u Q I rx ry h
  obtain ⟨s, j, rfl, rfl, ⟨h0, h1, h2⟩, q⟩ := h
  obtain ⟨t, rfl⟩ := rx
  obtain ⟨t', rfl⟩ := ry
  refine P.mul_str ?_ (fun a b z => ?_) (fun a b => ?_) ?_
  · rw [decide_eq_false (by omega), decide_eq_false (by omega)]; rfl
  · have hl : (sizeLine : Int) ≤ (2 ^ 63 - 1) / 1000000 := by decide
    have hj : 0 < j := by omega
    have hs : (s.length : Int) * j ≤ sizeLine := by
      have e : ((s.length * j.toNat : Nat) : Int) = (s.length : Int) * j := by rw [Int.natCast_mul, Int.toNat_of_nonneg h0]
      rw [← e]; exact Int.ofNat_le.mpr h2
    have h3 : (s.length : Int) * 1 ≤ (s.length : Int) * j := Int.mul_le_mul_of_nonneg_left (by omega) (Int.natCast_nonneg _)
    have h5 : (2 ^ 63 - 1) / 1000000 ≤ (2 ^ 63 - 1) / j := by
      apply Int.le_ediv_of_mul_le hj
      have : ((2 ^ 63 - 1) / 1000000 : Int) * j ≤ ((2 ^ 63 - 1) / 1000000 : Int) * 1000000 := Int.mul_le_mul_of_nonneg_left h1 (by decide)
      exact Int.le_trans this (by decide)
    omega
  · unfold Builtin.Str.tooLong
    simpa using h2
  · split
    · rename_i hlt
      have e : j = 0 := by omega
      subst e
      exact ⟨by decide, ⟨.str _, H, I.tok _, ⟨_, rfl⟩, q⟩⟩
    · split
      · rename_i hn hy
        have e : repS s j.toNat = s := by
          simp only [Bool.or_eq_true, beq_iff_eq] at hy
          rcases hy with hy | hy
          · subst hy; unfold repS; simp
          · have : s.cps = #[] := by
              have : s.cps.size = 0 := hy
              exact Array.eq_empty_of_size_eq_zero this
            obtain ⟨c⟩ := s
            simp only at this
            subst this
            unfold repS; simp
        rw [e] at q
        exact ⟨.str _, H, I, ⟨_, rfl⟩, q⟩
      · rw [repS_eq]
        exact ⟨by rw [repS_length]; exact h2, ⟨.str _, H, I.tok _, ⟨_, rfl⟩, q⟩⟩
end
end DS
namespace DS
open PySem PySem.Spec PyProof.Rows L2
mutual
def pdS : SD → Option PyData
  | .non => some .none
  | .bl b => some (.bool b)
  | .int i => some (.int i)
  | .str s => some (.str s)
  | .ref _ => none
  | .ty _ => none
  | .exc _ _ => none
  | .ptp _ => none
  | .tup xs => match pdL xs with
    | some ds => some (.tuple ds)
    | none => none
  | .lst xs => match pdL xs with
    | some ds => some (.list ds)
    | none => none
  | .rol xs => match pdL xs with
    | some ds => some (.list ds)
    | none => none
  | .dic _ => none
def pdL : List SD → Option (List PyData)
  | [] => some []
  | d :: r => match pdS d, pdL r with
    | some x, some y => some (x :: y)
    | _, _ => none
end
/-- .. of a list that may change, too -/
def pd (μ : Mu) : SD → Option PyData
  | .ref a => match μ a with
    | some (.lst xs) => match pdL xs with
      | some ds => some (.list ds)
      | none => none
    | _ => none
  | d => pdS d
section
variable {K : PySem.W.Frag} {F H : Hp} {μ : Mu}
mutual
theorem RepS.dp (ex : Ext F H) (sub : ∀ a o, F a = some o → H a = some o) : ∀ {d : SD} {v : V} {p : PyData}, RepS K F d v → pdS d = some p → Dp K H v p
  | _, _, _, .non, e => by cases e; exact .non
  | _, _, _, .bl b, e => by cases e; exact .bl b
  | _, _, _, .int b, e => by cases e; exact .int b
  | _, _, _, .str b, e => by cases e; exact .str b
  | _, _, _, .ref _, e => by cases e
  | _, _, _, .ty _, e => by cases e
  | .tup ds, _, _, .tup h r, e => by
    unfold pdS at e
    cases q : pdL ds with
    | none => rw [q] at e; cases e
    | some ps => rw [q] at e; cases e; exact .tup (ex.sqT h) (RepL.dp ex sub r q)
  | .lst ds, _, _, .lst h r, e => by
    unfold pdS at e
    cases q : pdL ds with
    | none => rw [q] at e; cases e
    | some ps => rw [q] at e; cases e; exact .lst (SqL.of (sub _ _ h)) (RepL.dp ex sub r q)
  | .rol ds, _, _, .rol h r, e => by
    unfold pdS at e
    cases q : pdL ds with
    | none => rw [q] at e; cases e
    | some ps => rw [q] at e; cases e; exact .lst (ex.sqL h) (RepL.dp ex sub r q)
  | _, _, _, .dic _ _ _, e => by cases e
  | _, _, _, .exc0 _ _, e => by cases e
  | _, _, _, .exc _ _ _ _ _, e => by cases e
  | _, _, _, .ptp _ _ _, e => by cases e
theorem RepL.dp (ex : Ext F H) (sub : ∀ a o, F a = some o → H a = some o) : ∀ {ds : List SD} {vs : List V} {ps : List PyData}, RepL K F ds vs → pdL ds = some ps → DpAll K H vs ps
  | _, _, _, .nil, e => by cases e; exact .nil
  | d :: ds, _, _, .cons h r, e => by
    unfold pdL at e
    cases q : pdS d with
    | none => rw [q] at e; cases e
    | some x => cases q2 : pdL ds with
      | none => rw [q, q2] at e; cases e
      | some y => rw [q, q2] at e; cases e; exact .cons (RepS.dp ex sub h q) (RepL.dp ex sub r q2)
end
theorem HReal.dp (R : HReal K F H μ) {d : SD} {v : V} {p : PyData} (r : RepS K F d v) (e : pd μ d = some p) : Dp K H v p := by
  cases r with
  | ref a =>
    unfold pd at e
    simp only at e
    cases q : μ a with
    | none => rw [q] at e; cases e
    | some m =>
      rw [q] at e
      obtain ⟨_, o, h, ro⟩ := R.mus a m q
      cases ro with
      | lst r =>
        rename_i ds vs
        cases q2 : pdL ds with
        | none => simp only [q2] at e; cases e
        | some ps => simp only [q2] at e; cases e; exact .lst (SqL.of h) (RepL.dp R.ext R.sub r q2)
      | _ => cases e
  | non => exact RepS.dp R.ext R.sub .non e
  | bl b => exact RepS.dp R.ext R.sub (.bl b) e
  | int b => exact RepS.dp R.ext R.sub (.int b) e
  | str b => exact RepS.dp R.ext R.sub (.str b) e
  | ty b => cases e
  | tup h r => exact RepS.dp R.ext R.sub (.tup h r) e
  | lst h r => exact RepS.dp R.ext R.sub (.lst h r) e
  | rol h r => exact RepS.dp R.ext R.sub (.rol h r) e
  | dic h q r => cases e
  | exc0 _ _ => cases e
  | exc _ _ _ _ _ => cases e
  | ptp _ _ _ => cases e
end
/-- x == y: none where it is not known -/
def eqD (μ : Mu) (x y : SD) : Option Bool := match x, y with
  | .str s, .str t => some (decide (s = t))
  | .int i, .int j => some (decide (i = j))
  | .bl i, .bl j => some (decide (i = j))
  | .non, .non => some true
  | .non, .str _ => some false
  | .str _, .non => some false
  | x, y => match pd μ x, pd μ y with
    | some p, some q => if SeqAt.shaped p = true ∧ SeqAt.shaped q = true then some (PyData.eqv p q) else none
    | _, _ => none
def dEq (neg : Bool) : DR2 := fun x y μ Q => match eqD μ x y with
  | some b => Q (.bl (neg != b)) μ
  | none => False
section
variable {X : Cx} {K : PySem.W.Frag}
def rEqA (K : PySem.W.Frag) : R2 := fun x y H Q => rEq x y H Q ∨ rEqD K x y H Q
def rNeA (K : PySem.W.Frag) : R2 := fun x y H Q => rNe x y H Q ∨ rNeD K x y H Q
theorem opr_eq (hu : X.A.units + 64 < cLine) : OpR X (compareOp .Eq) (rEqA X.K) := op_eq.or (op_eqD hu)
theorem opr_ne (hu : X.A.units + 64 < cLine) : OpR X (compareOp .NotEq) (rNeA X.K) := op_ne.or (op_neD hu)
theorem eqD_cases {μ : Mu} {x y : SD} {b : Bool} (h : eqD μ x y = some b) : (∃ v w, plain x = some v ∧ plain y = some w ∧ scal v w = true ∧ b = decide (v = w)) ∨ ∃ p q, pd μ x = some p ∧ pd μ y = some q ∧ SeqAt.shaped p = true ∧ SeqAt.shaped q = true ∧ b = PyData.eqv p q := by
  unfold eqD at h
  split at h
  · cases h; exact .inl ⟨_, _, rfl, rfl, rfl, by simp⟩
  · cases h; exact .inl ⟨_, _, rfl, rfl, rfl, by simp⟩
  · cases h; exact .inl ⟨_, _, rfl, rfl, rfl, by simp⟩
  · cases h; exact .inl ⟨_, _, rfl, rfl, rfl, by simp⟩
  · cases h; exact .inl ⟨_, _, rfl, rfl, rfl, by simp⟩
  · cases h; exact .inl ⟨_, _, rfl, rfl, rfl, by simp⟩
  · split at h
    · rename_i p q e1 e2
      split at h
      · rename_i hs
        cases h
        exact .inr ⟨p, q, e1, e2, hs.1, hs.2, rfl⟩
      · cases h
    · cases h
theorem lr_eq : LR2 K (dEq false) (rEqA K) := fun F H μ x y dx dy Q' Q R rx ry t k => by
  unfold dEq at t
  cases e : eqD μ dx dy with
  | none => rw [e] at t; exact False.elim t
  | some b =>
    rw [e] at t
    have t : Q' (.bl b) μ := by simpa using t
    rcases eqD_cases e with ⟨v, w, h1, h2, h3, rfl⟩ | ⟨p, q, h1, h2, h3, h4, rfl⟩
    · obtain rfl := rx.isPlain h1
      obtain rfl := ry.isPlain h2
      exact .inl ⟨h3, k _ μ t F H _ (Stp.refl _ _ _) R (.bl _)⟩
    · exact .inr ⟨p, q, R.dp rx h1, R.dp ry h2, h3, h4, k _ μ t F H _ (Stp.refl _ _ _) R (.bl _)⟩
theorem lr_ne : LR2 K (dEq true) (rNeA K) := fun F H μ x y dx dy Q' Q R rx ry t k => by
  unfold dEq at t
  cases e : eqD μ dx dy with
  | none => rw [e] at t; exact False.elim t
  | some b =>
    rw [e] at t
    have t : Q' (.bl (!b)) μ := by simpa using t
    rcases eqD_cases e with ⟨v, w, h1, h2, h3, rfl⟩ | ⟨p, q, h1, h2, h3, h4, rfl⟩
    · obtain rfl := rx.isPlain h1
      obtain rfl := ry.isPlain h2
      exact .inl ⟨h3, k _ μ t F H _ (Stp.refl _ _ _) R (.bl _)⟩
    · exact .inr ⟨p, q, R.dp rx h1, R.dp ry h2, h3, h4, k _ μ t F H _ (Stp.refl _ _ _) R (.bl _)⟩

def dCmp (fi : Int → Int → Bool) (fs : List Nat → List Nat → Bool) : DR2 := fun x y μ Q => match x with
  | .int i => match y with
    | .int j => Q (.bl (fi i j)) μ
    | _ => False
  | .str s => match y with
    | .str t => Q (.bl (fs s.cps.toList t.cps.toList)) μ
    | _ => False
  | _ => False
def rCmp (fi : Int → Int → Bool) (fs : List Nat → List Nat → Bool) : R2 := fun x y H Q => (∃ i j, x = .int i ∧ y = .int j ∧ Q (.bl (fi i j)) H) ∨ ∃ i j : Str, x = .str i ∧ y = .str j ∧ Q (.bl (fs i.cps.toList j.cps.toList)) H
theorem lr_cmp {fi : Int → Int → Bool} {fs : List Nat → List Nat → Bool} : LR2 K (dCmp fi fs) (rCmp fi fs) := fun F H μ x y dx dy Q' Q R rx ry t k => by
  cases dx with
  | int i => cases dy with
    | int j => cases rx; cases ry; exact .inl ⟨i, j, rfl, rfl, k _ μ t F H _ (Stp.refl _ _ _) R (.bl _)⟩
    | _ => exact False.elim t
  | str i => cases dy with
    | str j => cases rx; cases ry; exact .inr ⟨i, j, rfl, rfl, k _ μ t F H _ (Stp.refl _ _ _) R (.bl _)⟩
    | _ => exact False.elim t
  | _ => exact False.elim t
abbrev dLt : DR2 := dCmp (fun i j => decide (i < j)) fun s t => decide (s < t)
theorem opr_lt : OpR X (compareOp .Lt) (rCmp (fun i j => decide (i < j)) fun s t => decide (s < t)) := op_lt.or op_lt_str
theorem lr_lt : LR2 K dLt (rCmp (fun i j => decide (i < j)) fun s t => decide (s < t)) := lr_cmp

def rMul : R2 := fun x y H Q => rI IntMulOk (fun i j => .int (i * j)) x y H Q ∨ ((∃ s j, x = .str s ∧ y = .int j ∧ (0 ≤ j ∧ j ≤ 1000000 ∧ s.length * j.toNat ≤ sizeLine) ∧ Q (.str (repS s j.toNat)) H) ∨ rRep x y H Q)
theorem op_mulG : OpR X (binaryOp .Mult) (rI IntMulOk fun i j => .int (i * j)) := opI fun _ _ _ _ _ _ _ hc q => mul_int q hc
theorem opr_mul : OpR X (binaryOp .Mult) rMul := op_mulG.or (op_mulS.or op_rep)
def dMul : DR2 := fun x y μ Q => match y with
  | .int j => match x with
    | .int i => IntMulOk i j ∧ Q (.int (i * j)) μ
    | .str s => (0 ≤ j ∧ j ≤ 1000000 ∧ s.length * j.toNat ≤ sizeLine) ∧ Q (.str (repS s j.toNat)) μ
    | x => match lstD μ x with
      | some xs => (-(2 ^ 63) ≤ j ∧ j < 2 ^ 63 ∧ xs.length * j.toNat ≤ sizeLine) ∧ Q (.lst (List.replicate j.toNat xs).flatten) μ
      | none => False
  | _ => False
theorem RepL.rep {F : Hp} {ds : List SD} {vs : List V} (h : RepL K F ds vs) : ∀ n : Nat, RepL K F (List.replicate n ds).flatten (List.replicate n vs).flatten
  | 0 => .nil
  | n + 1 => by rw [List.replicate_succ, List.replicate_succ, List.flatten_cons, List.flatten_cons]; exact h.append (RepL.rep h n)
theorem lr_mul : LR2 K dMul rMul := fun F H μ x y dx dy Q' Q R rx ry t k => by
  cases dy with
  | int j =>
    cases ry
    have fall : (match lstD μ dx with
      | some xs => (-(2 ^ 63) ≤ j ∧ j < 2 ^ 63 ∧ xs.length * j.toNat ≤ sizeLine) ∧ Q' (.lst (List.replicate j.toNat xs).flatten) μ
      | none => False) → rMul x (.int j) H Q := fun t => by
      cases e : lstD μ dx with
      | none => rw [e] at t; exact False.elim t
      | some xs =>
        rw [e] at t
        obtain ⟨⟨h1, h2, h3⟩, t⟩ := t
        obtain ⟨a, vs, rfl, ha, r⟩ := R.lst rx e
        refine .inr (.inr ⟨a, j, vs, rfl, rfl, ha, h1, h2, by rw [← r.length]; exact h3, fun q hq => ?_⟩)
        exact k _ μ t _ _ _ (Stp.newS R hq) (R.newS hq) (.lst upd_same ((r.rep _).mono (Ext.new (R.freeF hq))))
    cases dx with
    | int i => cases rx; exact .inl ⟨i, j, rfl, rfl, t.1, k _ μ t.2 F H _ (Stp.refl _ _ _) R (.int _)⟩
    | str s => cases rx; exact .inr (.inl ⟨s, j, rfl, rfl, t.1, k _ μ t.2 F H _ (Stp.refl _ _ _) R (.str _)⟩)
    | lst xs => exact fall t
    | ref a => exact fall t
    | _ => exact fall t
  | _ => exact False.elim t
def dI2 (C : Int → Int → Prop) (f : Int → Int → Int) : DR2 := fun x y μ Q => match x with
  | .int i => match y with
    | .int j => C i j ∧ Q (.int (f i j)) μ
    | _ => False
  | _ => False
theorem lr_i2 {C : Int → Int → Prop} {f : Int → Int → Int} : LR2 K (dI2 C f) (rI C fun i j => .int (f i j)) := lr_ints (ff := fun i j => .int (f i j)) (fun _ _ => rfl) fun x y μ Q t => by
  cases x <;> cases y <;> first | exact False.elim t | exact ⟨_, _, rfl, rfl, t.1, t.2⟩
abbrev dMod : DR2 := dI2 (fun _ j => 0 < j) fun i j => i % j
abbrev dDiv : DR2 := dI2 CDivW fun i j => i / j
def CPowW (i j : Int) : Prop := 0 ≤ j ∧ (Builtin.Int.intBits i : Int) * j ≤ 2 ^ 27
theorem op_powW : OpR X (binaryOp .Pow) (rI CPowW fun i j => .int (i ^ j.toNat)) := opI fun _ _ _ _ _ _ _ hc q => pow_int hc.1 hc.2 q
abbrev dPow : DR2 := dI2 CPowW fun i j => i ^ j.toNat
end
/-- one operand -/
abbrev dUnI (f : Int → Int) (ta : DTE) : DTE := fun ρ μ Q => ta ρ μ fun x μ1 => match x with
  | .int i => Q (.int (f i)) μ1
  | _ => False
theorem de_neg {X : Cx} {a : Expr} {pos : Pos} {ta : DTE} (ha : DE X a ta) : DE X (.UnaryOp .USub a pos) (dUnI (fun i => -i) ta) := weakE (pe_un un_neg ha) fun σ H Q h => by
  obtain ⟨F, ρ, μ, Q', R, S, t, k⟩ := h
  refine ⟨F, ρ, μ, _, R, S, t, fun d μ1 t1 F1 H1 v s1 R1 r1 => ?_⟩
  cases r1 with
  | int i => exact ⟨i, rfl, k _ μ1 t1 F1 H1 _ s1 R1 (.int _)⟩
  | _ => exact False.elim t1

def eqA (a b : SD) : Bool := match plain a, plain b with
  | some v, some w => eqV v w
  | _, _ => false
def flatD (d : SD) : Bool := match plain d with
  | some v => flatV v
  | none => false
section
variable {X : Cx} {K : PySem.W.Frag} {F : Hp}
theorem flatD_V {d : SD} {v : V} (r : RepS K F d v) (h : flatD d = true) : plain d = some v ∧ flatV v = true := by
  unfold flatD at h
  cases e : plain d with
  | none => rw [e] at h; cases h
  | some w =>
    rw [e] at h
    obtain rfl := r.isPlain e
    exact ⟨rfl, h⟩
theorem flatL_V : ∀ {ds : List SD} {vs : List V}, RepL K F ds vs → ds.all flatD = true → vs.all flatV = true ∧ ∀ {x : SD} {v : V}, plain x = some v → (ds.any fun y => eqA y x) = inV v vs
  | _, _, .nil, _ => ⟨rfl, fun _ => rfl⟩
  | d :: ds, _, .cons h r, e => by
    rw [List.all_cons, Bool.and_eq_true] at e
    obtain ⟨p, f⟩ := flatD_V h e.1
    obtain ⟨q1, q2⟩ := flatL_V r e.2
    refine ⟨by rw [List.all_cons, f, q1]; rfl, fun {x v} hx => ?_⟩
    show (eqA d x || (ds.any fun y => eqA y x)) = _
    rw [q2 hx]
    unfold eqA
    rw [p, hx]
    rfl
end

def dIx : DR2 := fun x y μ Q => match y with
  | .int i => match x with
    | .str z => z.length ≤ sizeLine ∧ match atI z.cps.toList i with
      | some c => Q (.str ⟨#[c]⟩) μ
      | none => False
    | x => match seqD μ x with
      | some xs => match atI xs i with
        | some d => Q d μ
        | none => False
      | none => False
  | _ => False
section
variable {X : Cx} {K : PySem.W.Frag} {a b e : Expr} {pos p2 : Pos} {ta tb te : DTE} {lo hi : Option Expr}
theorem atI_rep {F : Hp} {ds : List SD} {vs : List V} {i : Int} {d : SD} (r : RepL K F ds vs) (h : atI ds i = some d) : ∃ v, atI vs i = some v ∧ RepS K F d v := by
  unfold atI at h ⊢
  rw [← r.length]
  cases q : ixN ds.length i with
  | none => rw [q] at h; cases h
  | some j =>
    rw [q] at h
    obtain ⟨v, h1, h2⟩ := r.get h
    exact ⟨v, h1, h2⟩
theorem lr_ix : LR2 K dIx (rIx K) := fun F H μ x y dx dy Q' Q R rx ry t k => by
  cases dy with
  | int i =>
    cases ry
    have fall : (match seqD μ dx with
      | some xs => match atI xs i with
        | some d => Q' d μ
        | none => False
      | none => False) → rIx K x (.int i) H Q := fun t => by
      cases e : seqD μ dx with
      | none => rw [e] at t; exact False.elim t
      | some xs =>
        rw [e] at t
        simp only at t
        cases e2 : atI xs i with
        | none => rw [e2] at t; exact False.elim t
        | some d =>
          rw [e2] at t
          obtain ⟨a, vs, rfl, r, h3⟩ := R.seq' rx e
          obtain ⟨v, h1, h2⟩ := atI_rep r e2
          rcases h3 with h3 | h3
          · exact .inl ⟨a, vs, i, v, rfl, rfl, h3, h1, k _ μ t F H _ (Stp.refl _ _ _) R h2⟩
          · exact .inr (.inl ⟨a, vs, i, v, rfl, rfl, h3, h1, k _ μ t F H _ (Stp.refl _ _ _) R h2⟩)
    cases dx with
    | str z =>
      cases rx
      obtain ⟨hz, t⟩ := (show z.length ≤ sizeLine ∧ _ from t)
      cases e2 : atI z.cps.toList i with
      | none => rw [e2] at t; exact False.elim t
      | some c => rw [e2] at t; exact .inr (.inr ⟨z, i, c, rfl, rfl, hz, e2, k _ μ t F H _ (Stp.refl _ _ _) R (.str _)⟩)
    | _ => exact fall t
  | _ => exact False.elim t
theorem de_ix (ha : DE X a ta) (hb : DE X b tb) (hs : PlainIx b) : DE X (.Subscript a b pos) (dOp dIx ta tb) := weakE (pe_ix ix_seq ha hb hs) (lift2 lr_ix)
abbrev DTO := Rho → Mu → (Option Int → Mu → Prop) → Prop
def LO (K : PySem.W.Frag) (t : DTO) : TO := fun σ H Q => ∃ F ρ μ Q', HReal K F H μ ∧ Slots K F σ ρ ∧ t ρ μ Q' ∧ ∀ o μ', Q' o μ' → ∀ F' H', Stp F H μ F' H' μ' → HReal K F' H' μ' → Q o H'
abbrev DO (X : Cx) (e : Option Expr) (t : DTO) : Prop := PO X e (LO X.K t)
abbrev dNoPart : DTO := fun _ μ Q => Q none μ
abbrev dPart (t : DTE) : DTO := fun ρ μ Q => t ρ μ fun d μ1 => match d with
  | .int i => Q (some i) μ1
  | _ => False
theorem do_none : DO X none dNoPart := ⟨fun pins s σ H Q I h => by
  obtain ⟨F, ρ, μ, Q', R, S, t, k⟩ := h
  exact po_none.run pins s σ H Q I (k _ μ t F H (Stp.refl _ _ _) R)⟩
theorem do_some (he : DE X e te) : DO X (some e) (dPart te) := ⟨fun pins s σ H Q I h => (po_some he).run pins s σ H Q I (by
  obtain ⟨F, ρ, μ, Q', R, S, t, k⟩ := h
  refine ⟨F, ρ, μ, _, R, S, t, fun d μ1 t1 F1 H1 v s1 R1 r1 => ?_⟩
  cases r1 with
  | int i => exact ⟨i, rfl, k _ μ1 t1 F1 H1 s1 R1⟩
  | _ => exact False.elim t1)⟩
def cutL {α : Type} (xs : List α) (lo hi : Option Int) : List α := (xs.drop (HT.sIx xs.length 0 lo)).take (HT.sIx xs.length xs.length hi - HT.sIx xs.length 0 lo)
theorem RepL.cutL {F : Hp} {ds : List SD} {vs : List V} (r : RepL K F ds vs) (lo hi : Option Int) : RepL K F (DS.cutL ds lo hi) (cutV vs lo hi) := by
  unfold DS.cutL cutV
  rw [r.length]
  exact (r.drop _).take _
theorem cut_all {α : Type} {xs : List α} {lo hi : Option Int} (h : HT.sIx xs.length 0 lo = 0 ∧ HT.sIx xs.length xs.length hi = xs.length) : cutL xs lo hi = xs := by
  unfold cutL
  rw [h.1, h.2]
  simp
/-- x[lo:hi] -/
def drSl (x : SD) (l u : Option Int) (μ3 : Mu) (Q : SD → Mu → Prop) : Prop := match x with
  | .str z => z.length ≤ sizeLine ∧ Q (.str (cutS z l u)) μ3
  | .tup xs => Q (.tup (cutL xs l u)) μ3
  | x => match seqD μ3 x with
    | some xs => Q (.lst (cutL xs l u)) μ3
    | none => False
abbrev dSl (te : DTE) (tl th : DTO) : DTE := fun ρ μ Q => te ρ μ fun x μ1 => tl ρ μ1 fun l μ2 => th ρ μ2 fun u μ3 => drSl x l u μ3 Q
def rSlG (K : PySem.W.Frag) : V → Option Int → Option Int → Hp → VK → Prop := fun x lo hi H Q => rSlS x lo hi H Q ∨ (rSlA K x lo hi H Q ∨ rSlL K x lo hi H Q)
theorem slr : SlR X (rSlG X.K) := sl_str.or (sl_tupA.or sl_list)
theorem de_slice {tl th : DTO} (he : DE X e te) (hl : DO X lo tl) (hu : DO X hi th) : DE X (.Subscript e (.Slice lo hi none p2) pos) (dSl te tl th) := weakE (pe_slice slr he hl hu) fun σ H Q h => by
  obtain ⟨F, ρ, μ, Q', R, S, t, k⟩ := h
  refine ⟨F, ρ, μ, _, R, S, t, fun d μ1 t1 F1 H1 v s1 R1 r1 => ⟨F1, ρ, μ1, _, R1, S.mono s1.ext, t1, fun l μ2 t2 F2 H2 s2 R2 => ⟨F2, ρ, μ2, _, R2, (S.mono s1.ext).mono s2.ext, t2, fun u μ3 t3 F3 H3 s3 R3 => ?_⟩⟩⟩
  unfold drSl at t3
  have r3 := r1.mono (s2.trans s3).ext
  have s := (s1.trans s2).trans s3
  have fall : isTup d = false → (match seqD μ3 d with
    | some xs => Q' (.lst (cutL xs l u)) μ3
    | none => False) → rSlG X.K v l u H3 Q := fun ht t => by
    cases e : seqD μ3 d with
    | none => rw [e] at t; exact False.elim t
    | some xs =>
      rw [e] at t
      obtain ⟨a, vs, rfl, r, h3⟩ := R3.seq r3 e
      rcases h3 with ⟨_, h3⟩ | ⟨z, _⟩
      · exact .inr (.inr ⟨a, vs, rfl, h3, fun q hq => k _ μ3 t _ _ _ (s.trans (Stp.newS R3 hq)) (R3.newS hq) (.lst upd_same ((r.cutL l u).mono (Ext.new (R3.freeF hq))))⟩)
      · rw [ht] at z; cases z
  cases d with
  | str z => cases r3; exact .inl ⟨z, rfl, t3.1, k _ μ3 t3.2 F3 H3 _ s R3 (.str _)⟩
  | tup xs =>
    cases r3 with
    | tup h r =>
      refine .inr (.inl ⟨_, _, rfl, R3.ext.sqT h, fun hw => ?_, fun hw q hq => ?_⟩)
      · have t3' : Q' (.tup (cutL xs l u)) μ3 := t3
        rw [cut_all (by rw [r.length]; exact hw)] at t3'
        exact k _ μ3 t3' F3 H3 _ s R3 (.tup h r)
      · exact k _ μ3 t3 _ _ _ (s.trans (Stp.newS R3 hq)) (R3.newS hq) (.tup (.inl (.inl upd_same)) ((r.cutL l u).mono (Ext.new (R3.freeF hq))))
  | _ => exact fall rfl t3
end
end DS
namespace DS
open PySem PySem.Spec PyProof.Rows L2
abbrev DRc := List SD → Mu → (SD → Mu → Prop) → Prop
def LRc (K : PySem.W.Frag) (dr : DRc) (r : List V → Hp → VK → Prop) : Prop := ∀ F H μ xs ds Q' Q, HReal K F H μ → RepL K F ds xs → dr ds μ Q' →
  (∀ d μ', Q' d μ' → ∀ F' H' v, Stp F H μ F' H' μ' → HReal K F' H' μ' → RepS K F' d v → Q v H') → r xs H Q
abbrev dCB (dr : DRc) (t : DTA) : DTE := fun ρ μ Q => t ρ μ fun ds μ1 => dr ds μ1 Q
section
variable {X : Cx} {K : PySem.W.Frag} {x : Str} {p pos apos cpos : Pos} {e o : Expr} {es : List Expr} {t : DTA} {to : DTE} {dr : DRc} {r : List V → Hp → VK → Prop} {id T : String} {name : Str}
theorem liftCB (hl : LRc K dr r) : ∀ σ H Q, LE K (dCB dr t) σ H Q → tCB r (LA K t) σ H Q := fun σ H Q h => by
  obtain ⟨F, ρ, μ, Q', R, S, t, k⟩ := h
  exact ⟨F, ρ, μ, _, R, S, t, fun ds μ1 t1 F1 H1 vs s1 R1 r1 => hl F1 H1 μ1 vs ds Q' Q R1 r1 t1 fun d μ' q F' H' v s R' r' => k d μ' q F' H' v (s1.trans s) R' r'⟩
theorem de_callB (hc : CallR X (.builtin id) r) (hl : LRc X.K dr r) (hg : Gl X x) (hm : X.mg x = none) (hv : bootBuiltins x = some (.builtin id)) (ha : DA X (e :: es) t) (hn : x ≠ "__name__" := by decide) (hdb : (x == ("__debug__" : Str)) = false := by decide)
    (he : starEach (e :: es) X.env = (false, eval e X.env) :: starEach es X.env := by rfl) (hpl : (backTo pos (starEach es X.env)).any (·.1) = false := by rfl) : DE X (.Call (.Name x p) (e :: es) [] pos) (dCB dr t) :=
  weakE (pe_callB hc hg hm hv ha hn hdb he hpl) (liftCB hl)
theorem de_callT (hc : CallR X (.type T) r) (hl : LRc X.K dr r) (hg : Gl X x) (hm : X.mg x = none) (hv : bootBuiltins x = some (.type T)) (ha : DA X (e :: es) t) (hn : x ≠ "__name__" := by decide) (hdb : (x == ("__debug__" : Str)) = false := by decide)
    (he : starEach (e :: es) X.env = (false, eval e X.env) :: starEach es X.env := by rfl) (hpl : (backTo pos (starEach es X.env)).any (·.1) = false := by rfl) : DE X (.Call (.Name x p) (e :: es) [] pos) (dCB dr t) :=
  weakE (pe_callTy hc hg hm hv ha hn hdb he hpl) (liftCB hl)

def drLen : DRc := fun ds μ Q => match ds with
  | [d] => match d with
    | .str s => s.length ≤ sizeLine ∧ Q (.int s.length) μ
    | d => match seqD μ d with
      | some xs => Q (.int xs.length) μ
      | none => False
  | _ => False
def rLen (K : PySem.W.Frag) : List V → Hp → VK → Prop := fun xs H Q => (∃ p ys, xs = [.ref p] ∧ (SqL K H p ys ∨ SqT K H p ys) ∧ Q (.int ys.length) H) ∨ (∃ z, xs = [.str z] ∧ z.length ≤ sizeLine ∧ Q (.int z.length) H)
theorem cr_len : CallR X (.builtin "len") (rLen X.K) := call_len_seq.or call_len_str
theorem lc_len : LRc K drLen (rLen K) := fun F H μ xs ds Q' Q R r t k => by
  cases r with
  | nil => exact False.elim t
  | cons r1 r2 => cases r2 with
    | cons _ _ => exact False.elim t
    | nil =>
      rename_i d v
      have fall : (match seqD μ d with
        | some xs => Q' (.int xs.length) μ
        | none => False) → rLen K [v] H Q := fun t => by
        cases e : seqD μ d with
        | none => rw [e] at t; exact False.elim t
        | some xs =>
          rw [e] at t
          obtain ⟨a, vs, rfl, r, h3⟩ := R.seq' r1 e
          refine .inl ⟨a, vs, rfl, h3, ?_⟩
          rw [← r.length]
          exact k _ μ t F H _ (Stp.refl _ _ _) R (.int _)
      cases d with
      | str z => cases r1; exact .inr ⟨z, rfl, t.1, k _ μ t.2 F H _ (Stp.refl _ _ _) R (.int _)⟩
      | _ => exact fall t
def drTuple : DRc := fun ds μ Q => match ds with
  | [d] => match seqD μ d with
    | some xs => Q (.tup xs) μ
    | none => False
  | _ => False
def drListM : DRc := fun ds μ Q => match ds with
  | [d] => match seqD μ d with
    | some xs => ∀ p, μ p = none → Q (.ref p) (up μ p (.lst xs))
    | none => False
  | _ => False
theorem seq1 {dr : (SD → Mu → Prop) → List SD → SD → Mu → Prop} {rr : List V → Hp → VK → Prop}
    (h : ∀ F H μ d a vs xs Q' Q, HReal K F H μ → RepS K F d (.ref a) → RepL K F xs vs → ((isTup d = false ∧ SqL K H a vs) ∨ (isTup d = true ∧ SqT K H a vs)) → seqD μ d = some xs → dr Q' xs d μ →
      (∀ d μ', Q' d μ' → ∀ F' H' v, Stp F H μ F' H' μ' → HReal K F' H' μ' → RepS K F' d v → Q v H') → rr [.ref a] H Q) :
    LRc K (fun ds μ Q => match ds with
      | [d] => match seqD μ d with
        | some xs => dr Q xs d μ
        | none => False
      | _ => False) rr := fun F H μ xs ds Q' Q R r t k => by
  cases r with
  | nil => exact False.elim t
  | cons r1 r2 => cases r2 with
    | cons _ _ => exact False.elim t
    | nil =>
      rename_i d v
      cases e : seqD μ d with
      | none => simp only [e] at t
      | some xs =>
        simp only [e] at t
        obtain ⟨a, vs, rfl, r, h3⟩ := R.seq r1 e
        exact h F H μ d a vs xs Q' Q R r1 r h3 e t k
theorem lc_tuple : LRc K drTuple (fun xs H Q => ∃ p ys, xs = [.ref p] ∧ ((SqL K H p ys ∧ ∀ l, H l = none → Q (.ref l) (upd H l (.tup ys))) ∨ (SqT K H p ys ∧ Q (.ref p) H))) :=
  seq1 (dr := fun Q xs _ μ => Q (.tup xs) μ) fun F H μ d a vs xs Q' Q R rd r h3 e t k => by
    rcases h3 with ⟨_, h3⟩ | ⟨z, h3⟩
    · exact ⟨a, vs, rfl, .inl ⟨h3, fun q hq => k _ μ t _ _ _ (Stp.newS R hq) (R.newS hq) (.tup (.inl (.inl upd_same)) (r.mono (Ext.new (R.freeF hq))))⟩⟩
    · cases rd with
      | tup h q =>
        have e' : some xs = some _ := e.symm.trans rfl
        cases e
        exact ⟨a, _, rfl, .inr ⟨h3, k _ μ t F H _ (Stp.refl _ _ _) R (.tup h q)⟩⟩
      | _ => cases z
theorem lc_listM : LRc K drListM (fun xs H Q => ∃ p ys, xs = [.ref p] ∧ (SqL K H p ys ∨ SqT K H p ys) ∧ ∀ l, H l = none → Q (.ref l) (upd H l (.lst ys))) :=
  seq1 (dr := fun Q xs _ μ => ∀ p, μ p = none → Q (.ref p) (up μ p (.lst xs))) fun F H μ d a vs xs Q' Q R rd r h3 e t k =>
    ⟨a, vs, rfl, h3.imp And.right And.right, fun q hq => k _ _ (t q (R.freeM hq)) _ _ _ (Stp.newM R hq) (R.newM hq (.lst r)) (.ref q)⟩
def drI1 (f : Int → Int) : DRc := fun ds μ Q => match ds with
  | [.int i] => Q (.int (f i)) μ
  | _ => False
theorem lc_abs : LRc K (drI1 fun i => if i < 0 then -i else i) (fun xs H Q => ∃ i, xs = [.int i] ∧ Q (.int (if i < 0 then -i else i)) H) := fun F H μ xs ds Q' Q R r t k => by
  unfold drI1 at t
  split at t
  · cases r with
    | cons r1 r2 => cases r2; cases r1; exact ⟨_, rfl, k _ μ t F H _ (Stp.refl _ _ _) R (.int _)⟩
  · exact False.elim t
def drInt : DRc := fun ds μ Q => match ds with
  | [.int i] => Q (.int i) μ
  | [.bl b] => Q (.int (if b then 1 else 0)) μ
  | _ => False
theorem lc_int : LRc K drInt (fun xs H Q => (∃ i, xs = [.int i] ∧ Q (.int i) H) ∨ ∃ k, xs = [.bl k] ∧ Q (.int (if k then 1 else 0)) H) := fun F H μ xs ds Q' Q R r t k => by
  unfold drInt at t
  split at t
  · cases r with
    | cons r1 r2 => cases r2; cases r1; exact .inl ⟨_, rfl, k _ μ t F H _ (Stp.refl _ _ _) R (.int _)⟩
  · cases r with
    | cons r1 r2 => cases r2; cases r1; exact .inr ⟨_, rfl, k _ μ t F H _ (Stp.refl _ _ _) R (.int _)⟩
  · exact False.elim t
def drI2 (f : Int → Int → Int) : DRc := fun ds μ Q => match ds with
  | [.int i, .int j] => Q (.int (f i j)) μ
  | _ => False
theorem lc_i2 {f : Int → Int → Int} : LRc K (drI2 f) (fun xs H Q => ∃ i j, xs = [.int i, .int j] ∧ Q (.int (f i j)) H) := fun F H μ xs ds Q' Q R r t k => by
  unfold drI2 at t
  split at t
  · cases r with
    | cons r1 r2 => cases r1; cases r2 with
      | cons r2 r3 => cases r3; cases r2; exact ⟨_, _, rfl, k _ μ t F H _ (Stp.refl _ _ _) R (.int _)⟩
  · exact False.elim t
def blsOf : List SD → Option (List Bool)
  | [] => some []
  | .bl b :: r => match blsOf r with
    | some bs => some (b :: bs)
    | none => none
  | _ :: _ => none
theorem blsOf_rep : ∀ {F : Hp} {ds : List SD} {vs : List V} {bs : List Bool}, RepL K F ds vs → blsOf ds = some bs → vs = bs.map V.bl
  | _, _, _, _, .nil, e => by cases e; rfl
  | _, d :: ds, _, _, .cons h r, e => by
    cases h with
    | bl b =>
      unfold blsOf at e
      cases q : blsOf ds with
      | none => rw [q] at e; cases e
      | some bs => rw [q] at e; cases e; rw [blsOf_rep r q]; rfl
    | _ => cases e
theorem blsOf_map (bs : List Bool) : blsOf (bs.map SD.bl) = some bs := by
  induction bs with
  | nil => rfl
  | cons b r ih => show (match blsOf (r.map SD.bl) with | some bs => some (b :: bs) | none => none) = _; rw [ih]
def drBls (f : List Bool → Bool) : DRc := fun ds μ Q => match ds with
  | [d] => match lstD μ d with
    | some xs => match blsOf xs with
      | some bs => Q (.bl (f bs)) μ
      | none => False
    | none => False
  | _ => False
theorem lc_bls {f : List Bool → Bool} : LRc K (drBls f) (fun vs H Q => ∃ (a : Addr) (bs : List Bool), vs = [V.ref a] ∧ SqL K H a (bs.map V.bl) ∧ Q (.bl (f bs)) H) := fun F H μ xs ds Q' Q R r t k => by
  cases r with
  | nil => exact False.elim t
  | cons r1 r2 => cases r2 with
    | cons _ _ => exact False.elim t
    | nil =>
      rename_i d v
      cases e : lstD μ d with
      | none => simp only [drBls, e] at t
      | some xs =>
        simp only [drBls, e] at t
        cases e2 : blsOf xs with
        | none => rw [e2] at t; exact False.elim t
        | some bs =>
          rw [e2] at t
          obtain ⟨a, vs, rfl, ha, r⟩ := R.lst r1 e
          rw [blsOf_rep r e2] at ha
          exact ⟨a, bs, rfl, SqL.of ha, k _ μ t F H _ (Stp.refl _ _ _) R (.bl _)⟩
theorem lc_all : LRc K (drBls fun bs => bs.all _root_.id) (rAll K) := lc_bls
abbrev DRm := SD → List SD → Mu → (SD → Mu → Prop) → Prop
def LRm (K : PySem.W.Frag) (dr : DRm) (r : V → List V → Hp → VK → Prop) : Prop := ∀ F H μ x xs d ds Q' Q, HReal K F H μ → RepS K F d x → RepL K F ds xs → dr d ds μ Q' →
  (∀ d μ', Q' d μ' → ∀ F' H' v, Stp F H μ F' H' μ' → HReal K F' H' μ' → RepS K F' d v → Q v H') → r x xs H Q
/-- e.m(..) of a list -/
abbrev dLM (dr : DRm) (to : DTE) (t : DTA) : DTE := fun ρ μ Q => to ρ μ fun x μ1 => (lstD μ1 x).isSome = true ∧ t ρ μ1 fun xs μ2 => dr x xs μ2 Q
variable {rm : V → List V → Hp → VK → Prop} {drm : DRm}
theorem de_lm (pa : PlainAttrs "list") (slot : Slot "list" name id) (hty : typeOf (.builtin id) = pure (.type "method_descriptor")) (hm : MtR X id rm) (hl : LRm X.K drm rm) (ho : DE X o to) (ha : DA X (e :: es) t)
    (hbase : attributeBase o name X.env (eval o X.env) = eval o X.env := by rfl)
    (hfew : ((backTo cpos (starEach (e :: es) X.env)).all (fun x => !x.1) && (backToKw cpos (keywordEach [] X.env)).all (fun x => x.1.isSome)
      && decide ((e :: es).length + ([] : List Keyword).length + (if ([] : List Keyword).isEmpty then 0 else 1) < 30)) = true := by rfl)
    (hline : (apos.endLine == cpos.line) = true := by rfl) (hs : starEach (e :: es) X.env = (false, eval e X.env) :: starEach es X.env := by rfl) (hplain : (backTo cpos (starEach es X.env)).any (·.1) = false := by rfl) :
    DE X (.Call (.Attribute o name apos) (e :: es) [] cpos) (dLM drm to t) := weakE (pe_bm pa slot hty hm ho ha hbase hfew hline hs hplain) fun σ H Q h => by
  obtain ⟨F, ρ, μ, Q', R, S, t, k⟩ := h
  refine ⟨F, ρ, μ, _, R, S, t, fun d μ1 t1 F1 H1 v s1 R1 r1 => ?_⟩
  obtain ⟨h1, t1⟩ := t1
  obtain ⟨xs, hx⟩ := Option.isSome_iff_exists.mp h1
  obtain ⟨a, vs, rfl, ha, r⟩ := R1.lst r1 hx
  refine ⟨.inl ⟨rfl, vs, SqL.of ha⟩, F1, ρ, μ1, _, R1, S.mono s1.ext, t1, fun ds μ2 t2 F2 H2 ws s2 R2 r2 => ?_⟩
  exact hl F2 H2 μ2 _ ws d ds Q' Q R2 (r1.mono s2.ext) r2 t2 fun d μ' q F' H' v s R' r' => k d μ' q F' H' v ((s1.trans s2).trans s) R' r'
/-- the list at a, which may change -/
def mlst (μ : Mu) : SD → Option (Addr × List SD)
  | .ref a => match μ a with
    | some (.lst xs) => some (a, xs)
    | _ => none
  | _ => none
theorem HReal.mlst {F H : Hp} {μ : Mu} {d : SD} {v : V} {a : Addr} {xs : List SD} (R : HReal K F H μ) (r : RepS K F d v) (h : DS.mlst μ d = some (a, xs)) : v = .ref a ∧ μ a = some (.lst xs) ∧ ∃ vs, H a = some (.lst vs) ∧ RepL K F xs vs := by
  cases r with
  | ref b =>
    unfold DS.mlst at h
    simp only at h
    split at h
    · rename_i ys hy
      cases h
      obtain ⟨_, o, h, q⟩ := R.mus _ _ hy
      cases q with
      | lst q => exact ⟨rfl, hy, _, h, q⟩
    · cases h
  | _ => cases h
def dmAppend : DRm := fun d ds μ Q => match ds with
  | [y] => match mlst μ d with
    | some (a, xs) => xs.length < sizeLine ∧ Q .non (up μ a (.lst (xs ++ [y])))
    | none => False
  | _ => False
theorem lm_append : LRm K dmAppend rAppend := fun F H μ x xs d ds Q' Q R r rs t k => by
  cases rs with
  | nil => exact False.elim t
  | cons r1 r2 => cases r2 with
    | cons _ _ => exact False.elim t
    | nil =>
      rename_i y vy
      cases e : mlst μ d with
      | none => simp only [dmAppend, e] at t
      | some p =>
        obtain ⟨a, zs⟩ := p
        simp only [dmAppend, e] at t
        obtain ⟨rfl, hm, vs, ha, r⟩ := R.mlst r e
        exact ⟨a, vs, vy, rfl, rfl, ha, by rw [← r.length]; exact t.1, k _ _ t.2 F _ _ (Stp.put hm) (R.put hm (.lst (r.append (.one r1)))) .non⟩
/-- extend by a list or a tuple -/
def rExtA (K : PySem.W.Frag) : V → List V → Hp → VK → Prop := fun x vs H Q => ∃ l b xs zs, x = .ref l ∧ vs = [.ref b] ∧ H l = some (.lst xs) ∧ (H b = some (.lst zs) ∨ SqT K H b zs) ∧ xs.length + zs.length ≤ sizeLine ∧ Q .non (upd H l (.lst (xs ++ zs)))
def dmExtend : DRm := fun d ds μ Q => match ds with
  | [y] => match mlst μ d with
    | some (a, xs) => (match y with
      | .tup ys => xs.length + ys.length ≤ sizeLine ∧ Q .non (up μ a (.lst (xs ++ ys)))
      | y => match lstD μ y with
        | some ys => xs.length + ys.length ≤ sizeLine ∧ Q .non (up μ a (.lst (xs ++ ys)))
        | none => False)
    | none => False
  | _ => False
theorem lm_extend : LRm K dmExtend (rExtA K) := fun F H μ x xs d ds Q' Q R r rs t k => by
  cases rs with
  | nil => exact False.elim t
  | cons r1 r2 => cases r2 with
    | cons _ _ => exact False.elim t
    | nil =>
      rename_i y vy
      cases e : mlst μ d with
      | none => simp only [dmExtend, e] at t
      | some p =>
        obtain ⟨a, zs⟩ := p
        simp only [dmExtend, e] at t
        obtain ⟨rfl, hm, vs, ha, r⟩ := R.mlst r e
        have fall : (match lstD μ y with
          | some ys => zs.length + ys.length ≤ sizeLine ∧ Q' .non (up μ a (.lst (zs ++ ys)))
          | none => False) → rExtA K (.ref a) [vy] H Q := fun t => by
          cases e2 : lstD μ y with
          | none => rw [e2] at t; exact False.elim t
          | some ys =>
            rw [e2] at t
            obtain ⟨b, ws, rfl, hb, rb⟩ := R.lst r1 e2
            exact ⟨a, b, vs, ws, rfl, rfl, ha, .inl hb, by rw [← r.length, ← rb.length]; exact t.1, k _ _ t.2 F _ _ (Stp.put hm) (R.put hm (.lst (r.append rb))) .non⟩
        cases y with
        | tup ys =>
          cases r1 with
          | tup h rb => exact ⟨a, _, vs, _, rfl, rfl, ha, .inr (R.ext.sqT h), by rw [← r.length, ← rb.length]; exact t.1, k _ _ t.2 F _ _ (Stp.put hm) (R.put hm (.lst (r.append rb))) .non⟩
        | _ => exact fall t
def LSet (K : PySem.W.Frag) (ds : SD → SD → SD → Mu → (Mu → Prop) → Prop) (r : TSet) : Prop := ∀ F H μ o i v do_ di dv Q' Q, HReal K F H μ → RepS K F do_ o → RepS K F di i → RepS K F dv v → ds do_ di dv μ Q' →
  (∀ μ', Q' μ' → ∀ F' H', Stp F H μ F' H' μ' → HReal K F' H' μ' → Q H') → r o i v H Q
abbrev hSub (to ti : DTE) (t : SD → SD → SD → Mu → (Mu → Prop) → Prop) : DTG := fun v ρ μ Q => to ρ μ fun o μ1 => ti ρ μ1 fun i μ2 => t o i v μ2 fun μ3 => Q ρ μ3
theorem dg_sub {oe i : Expr} {to ti : DTE} {ts : SD → SD → SD → Mu → (Mu → Prop) → Prop} {rs : TSet} (ho : DE X oe to) (hi : DE X i ti) (hs : PSet X rs) (hl : LSet X.K ts rs)
    (ha : ∀ v, assign (.Subscript oe i pos) X.env v = (do
      let ov ← holding [v] (eval oe X.env)
      let iv ← holding [v, ov] (eval i X.env)
      standAt pos
      holding [v, ov, iv] (setItem ov iv v)
      release [v, ov, iv] []) := by intro _; rfl) : DG X (.Subscript oe i pos) (hSub to ti ts) := weakG (pg_sub ho hi hs ha) fun v σ H Q h => by
  obtain ⟨F, ρ, μ, d, Q', R, S, r, t, k⟩ := h
  refine ⟨F, ρ, μ, _, R, S, t, fun d1 μ1 t1 F1 H1 v1 s1 R1 r1 => ⟨F1, ρ, μ1, _, R1, S.mono s1.ext, t1, fun d2 μ2 t2 F2 H2 v2 s2 R2 r2 => ?_⟩⟩
  exact hl F2 H2 μ2 v1 v2 v d1 d2 d _ _ R2 (r1.mono s2.ext) r2 (r.mono (s1.trans s2).ext) t2 fun μ' q F' H' s R' => k ρ μ' q F' H' σ ((s1.trans s2).trans s) R' (S.mono ((s1.trans s2).trans s).ext)
def dsetL : SD → SD → SD → Mu → (Mu → Prop) → Prop := fun o i v μ Q => match i with
  | .int k => match mlst μ o with
    | some (a, xs) => match ixN xs.length k with
      | some j => Q (up μ a (.lst (xs.set j v)))
      | none => False
    | none => False
  | _ => False
theorem ls_list : LSet K dsetL rSetL := fun F H μ o i v do_ di dv Q' Q R ro ri rv t k => by
  cases di with
  | int n =>
    cases ri
    cases e : mlst μ do_ with
    | none => simp only [dsetL, e] at t
    | some p =>
      obtain ⟨a, xs⟩ := p
      simp only [dsetL, e] at t
      cases e2 : ixN xs.length n with
      | none => rw [e2] at t; exact False.elim t
      | some j =>
        rw [e2] at t
        obtain ⟨rfl, hm, vs, ha, r⟩ := R.mlst ro e
        exact ⟨a, vs, n, j, rfl, rfl, ha, by rw [← r.length]; exact e2, k _ t F _ (Stp.put hm) (R.put hm (.lst (r.set rv j)))⟩
  | _ => exact False.elim t
end

section
variable {X : Cx} {K : PySem.W.Frag}
theorem ext_tup {l : Addr} {items : Array Value} {n : Nat} {b : Addr} {items2 : Array Value} {n2 : Nat} {dd : Option Addr} {sl : Array (Option Value)} (hs0 : ¬(!items.isEmpty && Builtin.List.listTooLong (items.size + items2.size)) = true) (hs1 : items.size ≤ sizeLine) (hs2 : items.size + items2.size ≤ sizeLine + 1) :
    Meets (Builtin.«list.extend» ⟨[.ref l, .ref b], []⟩) (fun _ R s => s.heap.get? l = some { cls := .type "list", dict := none, data := .seq items n, slots := #[] } ∧ s.heap.get? b = some { cls := .type "tuple", dict := dd, data := .seq items2 n2, slots := sl } ∧ R (.ok (.ret Value.none)) { s with heap := s.heap.update l (Obj.mapSeq fun x => x ++ items2), toks := s.toks }) :=
  .of_wp fun prog w A R s h => by
    obtain ⟨hp, g, d, tk, os⟩ := s
    obtain ⟨hl, hb, h⟩ := h
    have f1 := AutoSeq1.idx_int
    have f2 := AutoSeq1.sub_tuple_tuple
    have f3 := AutoSeq1.sub_list_list
    have f4 := AutoSeq1.sub_tuple_list
    have f5 := AutoSeq1.sub_list_tuple
    have hz' : (items ++ items2).size ≤ sizeLine + 1 := by rw [Array.size_append]; exact hs2
    wp_walk using (wpAny_updateSeq hl rfl (hz := hs1) (_hz' := hz')), AutoSeq1.wpAny_loadPart' hl, AutoSeq1.wpAny_loadPart' hb
    exact ⟨_, rfl, h⟩
theorem mt_extT : MtR X "list.extend" (fun x vs H Q => ∃ l b xs zs, x = .ref l ∧ vs = [.ref b] ∧ H l = some (.lst xs) ∧ SqT X.K H b zs ∧ xs.length + zs.length ≤ sizeLine ∧ Q .non (upd H l (.lst (xs ++ zs)))) := by
  intro pins s σ H x vs v us Q I rx rv h
  obtain ⟨l, b, xs, zs, rfl, rfl, hH, hB, hz, q⟩ := h
  cases rx
  obtain ⟨u, rfl, ru⟩ := rv.one
  cases ru
  obtain ⟨z, its, n, r, hl, e⟩ := I.lstM hH
  obtain ⟨its2, r2, ht, _⟩ := I.tuple hB
  have hl2 := r2.length
  obtain ⟨⟨cls, dd, data, sl⟩, ho, hcls, n2, hdata⟩ := ht
  simp only at hcls hdata
  subst hcls hdata
  have fits : its.toArray.size + its2.toArray.size ≤ sizeLine := by simp only [List.size_toArray]; omega
  have short : ¬ (!its.toArray.isEmpty && Builtin.List.listTooLong (its.toArray.size + its2.toArray.size)) = true := by
    rw [notLongL fits, Bool.and_false]; exact Bool.false_ne_true
  refine call_meets F.slot_list_extend ⟨_, e, rfl⟩ F.entry_list_extend (F.args_list_extend_2 _ _) (ext_tup short (by simp only [List.size_toArray]; omega) (by omega)) ⟨e, ho, ?_⟩
  exact ⟨.non, _, I.lset (its' := its ++ its2) hH e (by simp) (r.append r2) (by rw [List.length_append]; omega), rfl, q⟩
theorem mt_extA : MtR X "list.extend" (rExtA X.K) := by
  intro pins s σ H x vs v us Q I rx rv h
  obtain ⟨l, b, xs, zs, e1, e2, hH, hB | hB, hz, q⟩ := h
  · exact mt_extend pins s σ H x vs v us Q I rx rv ⟨l, b, xs, zs, e1, e2, hH, hB, hz, q⟩
  · exact mt_extT pins s σ H x vs v us Q I rx rv ⟨l, b, xs, zs, e1, e2, hH, hB, hz, q⟩
end
end DS
namespace DS
open PySem PySem.Spec PyProof.Rows L2
section
variable {X : Cx} {K : PySem.W.Frag}
def drRepr : DRc := fun ds μ Q => match ds with
  | [d] => match pd μ d with
    | some p => (PyData.showable p = true ∧ p.shown.length ≤ sizeLine ∧ p.depth ≤ 64) ∧ Q (.str p.shown) μ
    | none => False
  | _ => False
end

def kwG {α : Type} (ix : List (Nat ⊕ Nat)) (np nk : Nat) (us ws : List α) : List α := if us.length = np ∧ ws.length = nk then ix.filterMap fun i => match i with
  | .inl i => us[i]?
  | .inr j => ws[j]?
  else []
theorem kwG_rel {α β : Type} {R : α → β → Prop} {ix : List (Nat ⊕ Nat)} {np nk : Nat} {us ws : List α} {us' ws' : List β} (h1 : Paired R us us') (h2 : Paired R ws ws')
    (get : ∀ {xs : List α} {ys : List β} (i : Nat), Paired R xs ys → (∃ a b, xs[i]? = some a ∧ ys[i]? = some b ∧ R a b) ∨ (xs[i]? = none ∧ ys[i]? = none)) : Paired R (kwG ix np nk us ws) (kwG ix np nk us' ws') := by
  unfold kwG
  rw [Paired.length h1, Paired.length h2]
  split
  · induction ix with
    | nil => exact .nil
    | cons i r ih =>
      simp only [List.filterMap_cons]
      cases i with
      | inl i =>
        rcases get i h1 with ⟨a, b, e1, e2, q⟩ | ⟨e1, e2⟩
        · simp only [e1, e2]; exact .cons q ih
        · simp only [e1, e2]; exact ih
      | inr i =>
        rcases get i h2 with ⟨a, b, e1, e2, q⟩ | ⟨e1, e2⟩
        · simp only [e1, e2]; exact .cons q ih
        · simp only [e1, e2]; exact ih
  · exact .nil
theorem paired_get {α β : Type} {R : α → β → Prop} : ∀ {xs : List α} {ys : List β} (i : Nat), Paired R xs ys → (∃ a b, xs[i]? = some a ∧ ys[i]? = some b ∧ R a b) ∨ (xs[i]? = none ∧ ys[i]? = none)
  | _, _, _, .nil => .inr ⟨by simp, by simp⟩
  | _, _, 0, .cons q _ => .inl ⟨_, _, rfl, rfl, q⟩
  | _, _, i + 1, .cons _ r => by
    have := paired_get i r
    simpa using this
theorem kbinds_of {K : PySem.W.Frag} {x qual : Str} {st : Stmt} {f : Addr} {fd : FuncData} {ps ks : List Str} {ix : List (Nat ⊕ Nat)} {np nk : Nat} (F : Fun K x qual st f fd)
    (h : ∀ (kV doc pm : Value) (an : Option Addr) (cdv ct : Value) (us ws : List Value), us.length = np → ws.length = nk → (kwG ix np nk us ws).length = ps.length →
      bindArgs (PySem.W.fnOf x qual (defArgs st) (defBody st) (defScope st) .none kV doc pm an cdv ct) ⟨us, ks.zip ws⟩ = pure (ps.zip (kwG ix np nk us ws))) (h0 : ps ≠ []) : KBinds K fd ps ks (kwG ix np nk) (kwG ix np nk) where
  to := fun s us ws X hl => by
    obtain ⟨oc, od, kV, doc, pm, an, cdv, ct, osl, rfl, _, _⟩ := F.ex
    by_cases hh : us.length = np ∧ ws.length = nk
    · exact .of_eq (h kV doc pm an cdv ct us ws hh.1 hh.2 hl)
    · exact absurd hl (by
        unfold kwG
        rw [if_neg hh]
        intro z
        exact h0 (List.eq_nil_of_length_eq_zero z.symm))
  rel := fun r1 r2 => kwG_rel r1 r2 paired_get
section
variable {α : Type}
def valD (kvs : List (Key × α)) (k : Key) : Option α := (kvs.find? fun kv => decide (kv.1 = k)).map (·.2)
def putD (kvs : List (Key × α)) (k : Key) (v : α) : List (Key × α) :=
  if (kvs.any fun kv => decide (kv.1 = k)) = true then kvs.map (fun kv => if kv.1 = k then (kv.1, v) else kv) else kvs ++ [(k, v)]
end
def dicD (μ : Mu) : SD → Option (List (Key × SD))
  | .dic kvs => some kvs
  | .ref a => match μ a with
    | some (.dic kvs) => some kvs
    | some (.fdic kvs _) => some kvs
    | _ => none
  | _ => none
def keyD : SD → Option Key
  | .int i => some (.inl i)
  | .str s => some (.inr s)
  | _ => none
section
variable {X : Cx} {K : PySem.W.Frag} {F H : Hp} {μ : Mu}
theorem keyD_rep {d : SD} {v : V} {k : Key} (r : RepS K F d v) (h : keyD d = some k) : v = kV k := by
  cases r <;> simp [keyD] at h <;> subst h <;> rfl
structure RepK (K : PySem.W.Frag) (F : Hp) (ds : List (Key × SD)) (vs : List (Key × V)) : Prop where
  keys : vs.map (·.1) = ds.map (·.1)
  vals : RepL K F (ds.map (·.2)) (vs.map (·.2))
theorem RepK.len {ds : List (Key × SD)} {vs : List (Key × V)} (r : RepK K F ds vs) : ds.length = vs.length := by simpa using r.vals.length
theorem RepK.val : ∀ {ds : List (Key × SD)} {vs : List (Key × V)} (k : Key), RepK K F ds vs → (∃ d v, valD ds k = some d ∧ valV vs k = some v ∧ RepS K F d v) ∨ (valD ds k = none ∧ valV vs k = none)
  | [], [], _, _ => .inr ⟨rfl, rfl⟩
  | [], _ :: _, _, r => by have := r.keys; simp at this
  | _ :: _, [], _, r => by have := r.keys; simp at this
  | (a, d) :: ds, (b, v) :: vs, k, r => by
    have h1 := r.keys
    simp only [List.map_cons, List.cons.injEq] at h1
    obtain ⟨rfl, h1⟩ := h1
    have h2 := r.vals
    simp only [List.map_cons] at h2
    cases h2 with
    | cons q1 q2 =>
      by_cases hk : b = k
      · subst hk
        exact .inl ⟨d, v, by simp [valD], by simp [valV], q1⟩
      · have := RepK.val k ⟨h1, q2⟩
        have e1 : valD ((b, d) :: ds) k = valD ds k := by simp [valD, hk]
        have e2 : valV ((b, v) :: vs) k = valV vs k := by simp [valV, hk]
        rw [e1, e2]; exact this
theorem RepK.put {ds : List (Key × SD)} {vs : List (Key × V)} {d : SD} {v : V} (k : Key) (r : RepK K F ds vs) (q : RepS K F d v) : RepK K F (putD ds k d) (putK vs k v) := by
  have hany : (ds.any fun kv => decide (kv.1 = k)) = (vs.any fun kv => decide (kv.1 = k)) := by
    have e1 : (ds.any fun kv => decide (kv.1 = k)) = ((ds.map (·.1)).any fun x => decide (x = k)) := by rw [List.any_map]; rfl
    have e2 : (vs.any fun kv => decide (kv.1 = k)) = ((vs.map (·.1)).any fun x => decide (x = k)) := by rw [List.any_map]; rfl
    rw [e1, e2, r.keys]
  unfold putD putK
  rw [hany]
  split
  · have aux : ∀ {ds : List (Key × SD)} {vs : List (Key × V)}, RepK K F ds vs → RepK K F (ds.map (fun kv => if kv.1 = k then (kv.1, d) else kv)) (vs.map (fun kv => if kv.1 = k then (kv.1, v) else kv)) := by
      intro ds
      induction ds with
      | nil =>
        intro vs r
        have := r.keys
        cases vs with
        | nil => exact ⟨rfl, .nil⟩
        | cons _ _ => simp at this
      | cons a ds ih =>
        intro vs r
        cases vs with
        | nil => have := r.keys; simp at this
        | cons b vs =>
          obtain ⟨a1, a2⟩ := a
          obtain ⟨b1, b2⟩ := b
          have h1 := r.keys
          simp only [List.map_cons, List.cons.injEq] at h1
          obtain ⟨rfl, h1⟩ := h1
          have h2 := r.vals
          simp only [List.map_cons] at h2
          cases h2 with
          | cons q1 q2 =>
            have rest := ih ⟨h1, q2⟩
            by_cases hk : b1 = k
            · simp only [List.map_cons, if_pos hk]
              exact ⟨by simp only [List.map_cons]; rw [rest.keys], .cons q rest.vals⟩
            · simp only [List.map_cons, if_neg hk]
              exact ⟨by simp only [List.map_cons]; rw [rest.keys], .cons q1 rest.vals⟩
    exact aux r
  · exact ⟨by simp [r.keys], by simp only [List.map_append, List.map_cons, List.map_nil]; exact r.vals.append (.one q)⟩
theorem HReal.dic (R : HReal K F H μ) {d : SD} {v : V} {kvs : List (Key × SD)} (r : RepS K F d v) (e : dicD μ d = some kvs) : ∃ a vs, v = .ref a ∧ Rd H a (.dK vs) ∧ RepK K F kvs vs := by
  cases r with
  | dic h q r => cases e; exact ⟨_, _, rfl, R.ext.rd _ _ h, ⟨q, r⟩⟩
  | ref a =>
    unfold dicD at e
    simp only at e
    split at e
    · rename_i ys hy
      cases e
      obtain ⟨_, o, h, q⟩ := R.mus a _ hy
      cases q with
      | dic q r => exact ⟨a, _, rfl, .inl h, ⟨q, r⟩⟩
    · rename_i ys oo hy
      cases e
      obtain ⟨_, o, h, q⟩ := R.mus a _ hy
      cases q with
      | fdic q r => exact ⟨a, _, rfl, .inr ⟨_, h⟩, ⟨q, r⟩⟩
    · cases e
  | _ => cases e
variable {o i e value : Expr} {pos pos' apos cpos : Pos} {td ty tv tx : DTE}
/-- d.get(k, x) -/
def drGet2 (x y z : SD) (μ3 : Mu) (Q : SD → Mu → Prop) : Prop := match dicD μ3 x, keyD y with
  | some kvs, some k => Q ((valD kvs k).getD z) μ3
  | _, _ => False
abbrev dDGet2 (td ty tx : DTE) : DTE := fun ρ μ Q => td ρ μ fun x μ1 => (dicD μ1 x).isSome = true ∧ ty ρ μ1 fun y μ2 => tx ρ μ2 fun z μ3 => drGet2 x y z μ3 Q
theorem de_dget2 (hu : X.A.units + 1 < cLine) (ho : DE X o td) (he : DE X i ty) (hf : DE X e tx) (m : M2 X o "get" apos i e cpos) : DE X (.Call (.Attribute o "get" apos) [i, e] [] cpos) (dDGet2 td ty tx) := weakE (pe_dget2 hu ho he hf m) fun σ H Q h => by
  obtain ⟨F, ρ, μ, Q', R, S, t, k⟩ := h
  refine ⟨F, ρ, μ, _, R, S, t, fun x μ1 t1 F1 H1 v1 s1 R1 r1 => ?_⟩
  obtain ⟨h1, t1⟩ := t1
  obtain ⟨kvs0, hk0⟩ := Option.isSome_iff_exists.mp h1
  obtain ⟨a, vs0, rfl, hd0, _⟩ := R1.dic r1 hk0
  refine ⟨a, rfl, .inl ⟨vs0, hd0⟩, F1, ρ, μ1, _, R1, S.mono s1.ext, t1, fun y μ2 t2 F2 H2 v2 s2 R2 r2 => ⟨F2, ρ, μ2, _, R2, (S.mono s1.ext).mono s2.ext, t2, fun z μ3 t3 F3 H3 v3 s3 R3 r3 => ?_⟩⟩
  unfold drGet2 at t3
  cases e1 : dicD μ3 x with
  | none => rw [e1] at t3; exact False.elim t3
  | some kvs => cases e2 : keyD y with
    | none => rw [e1, e2] at t3; exact False.elim t3
    | some key =>
      rw [e1, e2] at t3
      simp only at t3
      obtain ⟨a', vs, e3, hd, rk⟩ := R3.dic ((r1.mono s2.ext).mono s3.ext) e1
      cases e3
      have s := (s1.trans s2).trans s3
      rcases rk.val key with ⟨d, v, q1, q2, q3⟩ | ⟨q1, q2⟩
      · rw [q1] at t3
        exact ⟨some v, .inl ⟨vs, key, hd, keyD_rep (r2.mono s3.ext) e2, q2.symm⟩, k d μ3 t3 F3 H3 v s R3 q3⟩
      · rw [q1] at t3
        exact ⟨none, .inl ⟨vs, key, hd, keyD_rep (r2.mono s3.ext) e2, q2.symm⟩, k z μ3 t3 F3 H3 _ s R3 r3⟩
end
end DS
namespace DS
open PySem PySem.Spec PyProof.Rows L2
section
variable {X : Cx} {K : PySem.W.Frag} {e o i : Expr} {pos p1 p2 p3 : Pos} {te td : DTE} {k1 : Nat}
def mergeD (kvs more : List (Key × SD)) : List (Key × SD) := more.foldl (fun acc kv => putD acc kv.1 kv.2) kvs
theorem RepK.merge {F : Hp} : ∀ {more : List (Key × SD)} {mv : List (Key × V)} {kvs : List (Key × SD)} {vs : List (Key × V)}, RepK K F kvs vs → RepK K F more mv → RepK K F (mergeD kvs more) (mergeK vs mv)
  | [], [], _, _, r, _ => r
  | [], _ :: _, _, _, _, r => by have := r.keys; simp at this
  | _ :: _, [], _, _, _, r => by have := r.keys; simp at this
  | (a, d) :: more, (b, v) :: mv, kvs, vs, r, m => by
    have h1 := m.keys
    simp only [List.map_cons, List.cons.injEq] at h1
    obtain ⟨rfl, h1⟩ := h1
    have h2 := m.vals
    simp only [List.map_cons] at h2
    cases h2 with
    | cons q1 q2 =>
      show RepK K F (mergeD (putD kvs b d) more) (mergeK (putK vs b v) mv)
      exact RepK.merge (r.put b q1) ⟨h1, q2⟩
theorem RepK.get {F : Hp} {ds : List (Key × SD)} {vs : List (Key × V)} (r : RepK K F ds vs) {i : Nat} {k : Key} {v : V} (h : vs[i]? = some (k, v)) : ∃ d, ds[i]? = some (k, d) ∧ RepS K F d v := by
  have h1 : (vs.map (·.2))[i]? = some v := by rw [List.getElem?_map, h]; rfl
  obtain ⟨d, h2, h3⟩ := r.vals.getV h1
  have h4 : (ds.map (·.1))[i]? = some k := by rw [← r.keys, List.getElem?_map, h]; rfl
  rw [List.getElem?_map] at h2 h4
  cases e : ds[i]? with
  | none => rw [e] at h2; cases h2
  | some p =>
    rw [e] at h2 h4
    obtain ⟨a, b⟩ := p
    cases h2; cases h4
    exact ⟨_, rfl, h3⟩
end
end DS
namespace DS
open PySem PySem.Spec PyProof.Rows L2
def fz1 (μ : Mu) : SD → SD
  | .ref b => match μ b with
    | some (.lst xs) => .lst xs
    | _ => .ref b
  | d => d
def lstRefs (μ : Mu) (ds : List SD) : List Addr := ds.filterMap fun d => match d with
  | .ref b => match μ b with
    | some (.lst _) => some b
    | _ => none
  | _ => none
def rmL (μ : Mu) (bs : List Addr) : Mu := fun b => if b ∈ bs then none else μ b
def fzD (μ : Mu) (kvs : List (Key × SD)) : List (Key × SD) := kvs.map fun kv => (kv.1, fz1 μ kv.2)
def frzD : (SD → Mu → Prop) → SD → Mu → Prop := fun Q d μ => match d with
  | .ref a => match μ a with
    | some (.dic kvs) => Q (.dic (fzD μ kvs)) (rm (rmL μ (lstRefs μ (kvs.map (·.2)))) a)
    | _ => False
  | _ => False
end DS
namespace DS
open PySem PySem.Spec PyProof.Rows L2
section
variable {X : Cx} {K : PySem.W.Frag} {a : Expr} {pos pos' : Pos} {j : Nat} {ta : DTE}
def isNon : SD → Bool
  | .non => true
  | _ => false
theorem isNon_rep {F : Hp} {d : SD} {v : V} (r : RepS K F d v) : decide (v = .non) = isNon d := by
  cases r <;> simp [isNon]
abbrev dIsN (ta : DTE) : DTE := fun ρ μ Q => ta ρ μ fun x μ1 => Q (.bl (isNon x)) μ1
theorem dt_isN {j pos'} (ha : DE X a ta) : DT X (.Compare a [.Is] [.Constant .none j pos'] pos) (dTest (dIsN ta)) := weakT (pt_cmp (pc_isN ha) rfl) fun σ H Q h => by
  obtain ⟨F, ρ, μ, Q', R, S, t, k⟩ := h
  exact ⟨F, ρ, μ, _, R, S, t, fun d μ1 t1 F1 H1 v s1 R1 r1 => ⟨_, by rw [isNon_rep r1], k _ μ1 t1 F1 H1 s1 R1⟩⟩
abbrev dGt : DR2 := dCmp (fun i j => decide (j < i)) fun s t => decide (t < s)
theorem opr_gt : OpR X (compareOp .Gt) (rCmp (fun i j => decide (j < i)) fun s t => decide (t < s)) := op_gt.or op_gt_str
abbrev dLe : DR2 := dCmp (fun i j => decide (i ≤ j)) fun s t => !decide (t < s)
theorem opr_le : OpR X (compareOp .LtE) (rCmp (fun i j => decide (i ≤ j)) fun s t => !decide (t < s)) := op_le.or op_le_str
abbrev dGe : DR2 := dCmp (fun i j => decide (j ≤ i)) fun s t => !decide (s < t)
theorem opr_ge : OpR X (compareOp .GtE) (rCmp (fun i j => decide (j ≤ i)) fun s t => !decide (s < t)) := op_ge.or op_ge_str
def tyD (μ : Mu) : SD → Option String
  | .non => some "NoneType"
  | .bl _ => some "bool"
  | .int _ => some "int"
  | .str _ => some "str"
  | .tup _ => some "tuple"
  | .lst _ => some "list"
  | .rol _ => some "list"
  | .dic _ => some "dict"
  | .ref a => match μ a with
    | some (.lst _) => some "list"
    | some (.dic _) => some "dict"
    | _ => none
  | .ty _ => none
  | .exc _ _ => none
  | .ptp _ => none
theorem HReal.ty {F H : Hp} {μ : Mu} (R : HReal K F H μ) {d : SD} {v : V} {t : String} (r : RepS K F d v) (h : tyD μ d = some t) : TyX K H v (.type t) := by
  cases r with
  | non => cases h; exact .base .non
  | bl b => cases h; exact .base (.bl b)
  | int i => cases h; exact .base (.int i)
  | str x => cases h; exact .base (.str x)
  | ty n => cases h
  | tup q _ =>
    cases h
    rcases R.ext.sqT q with (q | ⟨o, q⟩) | ⟨o, its, n, q, c, _⟩
    · exact .base (.tup q)
    · exact .fTuple q
    · exact .kTuple q c
  | lst q _ => cases h; exact .base (.lst (R.ext.ls _ _ q))
  | rol q _ =>
    cases h
    rcases R.ext.sqL q with (q | ⟨o, q⟩) | ⟨o, its, n, q, c, _⟩
    · exact .base (.lst q)
    · exact .base (.frz q)
    · exact .kList q c
  | dic q _ _ =>
    cases h
    rcases R.ext.rd _ _ q with q | ⟨o, q⟩
    · exact .base (.dK q)
    · exact .fDict q
  | ref a =>
    simp only [tyD] at h
    split at h
    · rename_i xs e
      cases h
      obtain ⟨_, o, q, ro⟩ := R.mus a _ e
      cases ro; exact .base (.lst q)
    · rename_i xs e
      cases h
      obtain ⟨_, o, q, ro⟩ := R.mus a _ e
      cases ro; exact .base (.dK q)
    · cases h
  | exc0 _ _ => cases h
  | exc _ _ _ _ _ => cases h
  | ptp _ _ _ => cases h
def isiB (μ : Mu) (d : SD) (n : String) : Option Bool := match tyD μ d with
  | some t => kitB t n
  | none => none
def drIsi : DRc := fun ds μ Q => match ds with
  | [d, .ty n] => match isiB μ d n with
    | some b => Q (.bl b) μ
    | none => False
  | _ => False
theorem lc_isi : LRc K drIsi (rIsi K) := fun F H μ xs ds Q' Q R r t k => by
  unfold drIsi at t
  split at t
  · rename_i d n
    cases r with
    | cons r1 r2 => cases r2 with
      | cons r2 r3 =>
        cases r2; cases r3
        split at t
        · rename_i b e
          unfold isiB at e
          split at e
          · rename_i T eT
            exact ⟨_, _, _, _, b, rfl, .ty n, R.ty r1 eT, kit_ty e, k _ _ t _ _ _ (Stp.refl _ _ _) R (.bl b)⟩
          · cases e
        · exact t.elim
  · exact t.elim
/-- the name of a built-in type -/
theorem de_ty {x : Str} {T : String} {p : Pos} (hg : Gl X x) (hm : X.mg x = none) (hv : bootBuiltins x = some (.type T)) (hn : x ≠ "__name__" := by decide) (hd : (x == ("__debug__" : Str)) = false := by decide) : DE X (.Name x p) (dC (.ty T)) :=
  liftC (t := tC (.ty T)) (pe_bltn hg hm hv (show RelV (.ty T) (Value.type T) from rfl) hn hd) rfl
end
/-- a def that stands in the written part -/
structure Def (K : PySem.W.Frag) (mg : Str → Option Value) (x : Str) (st : Stmt) (ps : List Str) where
  f : Addr
  fd : FuncData
  F : Fun K x x st f fd
  m : mg x = some (.ref f)
  b : Binds K fd ps []
section
variable {X : Cx} {k n : Nat} {x : Str} {st : Stmt} {ps ks : List Str} {sp : DSp} {p pos : Pos} {e : Expr} {es : List Expr} {kws : List Keyword} {t tk : DTA}
abbrev FnD (P : Program) (w : World) (base : Heap) {K : PySem.W.Frag} {mg : Str → Option Value} {x : Str} {st : Stmt} {ps : List Str} (D : Def K mg x st ps) (k : Nat) (sp : DSp) : Prop := FnG P w K mg base CX0 k D.f D.fd ps (LSp K sp)
theorem Room.le {A : Around} (h : Room n A) (hk : k ≤ n) : Room k A := h.mono hk
theorem de_def {D : Def X.K X.mg x st ps} (F : FnD X.prog X.w X.base D k sp) (hq : Quiet X.A) (hr : Room n X.A) (ha : DA X (e :: es) t) (hk : k ≤ n := by omega) (hg : Gl X x := by rfl)
    (hdb : (x == ("__debug__" : Str)) = false := by decide) (he : starEach (e :: es) X.env = (false, eval e X.env) :: starEach es X.env := by rfl) (hpl : (backTo pos (starEach es X.env)).any (·.1) = false := by rfl) :
    DE X (.Call (.Name x p) (e :: es) [] pos) (dCall sp [] t) := de_call F hq (hr.mono hk) hg D.m D.F.kp D.b pass0 ha hdb he hpl
theorem dv (i : Nat) {x : Str} {pos : Pos} (hN : X.N[i]? = some x := by rfl) (hv : Vis X.env.scope x := by first | exact Or.inl rfl | exact Or.inr (Or.inl rfl) | exact Or.inr (Or.inr rfl)) (hd : (x == ("__debug__" : Str)) = false := by decide)
    (hcd : (x == ("__classdict__" : Str)) = false := by decide) : DE X (.Name x pos) (dVar i) := de_var hN hv hd hcd
end
theorem bt_len : bootBuiltins "len" = some (.builtin "len") := by decide +kernel
theorem bt_repr : bootBuiltins "repr" = some (.builtin "repr") := by decide +kernel
theorem bt_abs : bootBuiltins "abs" = some (.builtin "abs") := by decide +kernel
theorem bt_min : bootBuiltins "min" = some (.builtin "min") := by decide +kernel
theorem bt_max : bootBuiltins "max" = some (.builtin "max") := by decide +kernel
theorem bt_all : bootBuiltins "all" = some (.builtin "all") := by decide +kernel
theorem bt_isinstance : bootBuiltins "isinstance" = some (.builtin "isinstance") := by decide +kernel
theorem bt_sorted : bootBuiltins "sorted" = some (.builtin "sorted") := by decide +kernel
theorem bt_sum : bootBuiltins "sum" = some (.builtin "sum") := by decide +kernel
theorem bt_int : bootBuiltins "int" = some (.type "int") := by decide +kernel
theorem bt_list : bootBuiltins "list" = some (.type "list") := by decide +kernel
theorem bt_dict : bootBuiltins "dict" = some (.type "dict") := by decide +kernel
theorem bt_tuple : bootBuiltins "tuple" = some (.type "tuple") := by decide +kernel
end DS
namespace DS
open PySem PySem.Spec PyProof.Rows L2
section
variable {X : Cx} {o e i a b : Expr} {es : List Expr} {apos cpos p pos : Pos} {to te ti td ty : DTE} {t : DTA} {k : Nat}
theorem de_append (ho : DE X o to) (ha : DE X e te) (hs : starEach [e] X.env = (false, eval e X.env) :: starEach [] X.env := by rfl) (hbase : attributeBase o "append" X.env (eval o X.env) = eval o X.env := by rfl)
    (hfew : ((backTo cpos (starEach [e] X.env)).all (fun x => !x.1) && (backToKw cpos (keywordEach [] X.env)).all (fun x => x.1.isSome) && decide (([e] : List Expr).length + ([] : List Keyword).length + (if ([] : List Keyword).isEmpty then 0 else 1) < 30)) = true := by rfl)
    (hline : (apos.endLine == cpos.line) = true := by rfl) (hplain : (backTo cpos (starEach [] X.env)).any (·.1) = false := by rfl) :
    DE X (.Call (.Attribute o "append" apos) [e] [] cpos) (dLM dmAppend to (dCons te dNil)) := de_lm F.plainAttrs_list F.slot_list_append F.type_list_append mt_append lm_append ho (da_cons ha da_nil hs) hbase hfew hline hs hplain
theorem de_extend (ho : DE X o to) (ha : DE X e te) (hs : starEach [e] X.env = (false, eval e X.env) :: starEach [] X.env := by rfl) (hbase : attributeBase o "extend" X.env (eval o X.env) = eval o X.env := by rfl)
    (hfew : ((backTo cpos (starEach [e] X.env)).all (fun x => !x.1) && (backToKw cpos (keywordEach [] X.env)).all (fun x => x.1.isSome) && decide (([e] : List Expr).length + ([] : List Keyword).length + (if ([] : List Keyword).isEmpty then 0 else 1) < 30)) = true := by rfl)
    (hline : (apos.endLine == cpos.line) = true := by rfl) (hplain : (backTo cpos (starEach [] X.env)).any (·.1) = false := by rfl) :
    DE X (.Call (.Attribute o "extend" apos) [e] [] cpos) (dLM dmExtend to (dCons te dNil)) := de_lm F.plainAttrs_list F.slot_list_extend F.type_list_extend mt_extA lm_extend ho (da_cons ha da_nil hs) hbase hfew hline hs hplain
end
theorem len_of {sp : DSp} {n : Nat} (h : ∀ ds μ Q E, sp ds μ Q E → ds.length = n) {ps : List Str} (e : ps.length = n := by rfl) : ∀ ds μ Q E, sp ds μ Q E → ds.length = ps.length := fun ds μ Q E q => (h ds μ Q E q).trans e.symm
theorem unit64 {A : Around} {k : Nat} (h : Room k A) : A.units + 64 < cLine := by have := h.un; omega
theorem unit66 {A : Around} {k : Nat} (h : Room k A) : A.units + 66 < cLine := by have := h.un; omega
end DS
namespace DS
open PySem PySem.Spec PyProof.Rows L2
section
variable {X : Cx} {e tg : Expr} {pos : Pos}
def isStr : SD → Bool
  | .str _ => true
  | _ => false
/-- a text that the module has named -/
theorem de_gstr {x : Str} {y : Str} {p : Pos} (h : ∃ t, X.mg x = some (.str y t)) (hg : Gl X x := by rfl) (hd : (x == ("__debug__" : Str)) = false := by decide) : DE X (.Name x p) (dC (.str y)) := by
  obtain ⟨t, h⟩ := h
  exact liftC (t := tC (.str y)) (pe_glob hg h (show RelV (.str y) (Value.str y t) from ⟨t, rfl⟩) hd) rfl
theorem de_gint {x : Str} {i : Int} {p : Pos} (h : ∃ t, X.mg x = some (.int i t)) (hg : Gl X x := by rfl) (hd : (x == ("__debug__" : Str)) = false := by decide) : DE X (.Name x p) (dC (.int i)) := by
  obtain ⟨t, h⟩ := h
  exact liftC (t := tC (.int i)) (pe_glob hg h (show RelV (.int i) (Value.int i t) from ⟨t, rfl⟩) hd) rfl
end
end DS
namespace DS
open PySem PySem.Spec PyProof.Rows L2
/-- u: the different ones of l -/
structure Dist {α : Type} (l u : List α) : Prop where
  nd : u.Nodup
  mem : ∀ k, k ∈ u ↔ k ∈ l
theorem Dist.nil {α : Type} {l : List α} : Dist (l.take 0) [] := ⟨List.nodup_nil, fun k => by simp⟩
/-- the set at a: S says who is in, n how many; its table stands in order -/
def TxR (P : Program) (w : World) (h : Heap) (a : Addr) (S : Str → Bool) (n : Nat) : Prop := ∃ o es ep t, h.get? a = some o ∧ o.ExactSet ∧ o.data = .set es ep t ∧ ElemsOf (strKind P w) es.toList ∧ (∀ k, S k = true ↔ ∃ e ∈ es.toList, (strKind P w).is k e.2 = true) ∧
  es.size < scanBound ∧ t.fits es.size = true ∧ es.size = n ∧ Ris t.place.toList ∧ (w.params.followText "set-order" = true ∨ t.led = true)
section
variable {P : Program} {w : World} {A : Around} {E : Value → Shared → Prop} {s : Shared} {a : Addr} {S : Str → Bool} {n : Nat}
theorem TxR.keep {h h' : Heap} (R : TxR P w h a S n) (k : ∀ o, h.get? a = some o → h'.get? a = some o) : TxR P w h' a S n := by
  obtain ⟨o, es, ep, t, ho, r⟩ := R
  exact ⟨o, es, ep, t, k o ho, r⟩
end
/-- the set at a: who is in is in ns, as many as u has -/
def TxSet (P : Program) (w : World) (h : Heap) (a : Addr) (ns u : List Str) : Prop := TxR P w h a (fun j => decide (j ∈ ns)) u.length
section
variable {P : Program} {w : World} {A : Around} {E : Value → Shared → Prop} {s : Shared}
theorem TxSet.keep {h h' : Heap} {a : Addr} {ns u : List Str} (R : TxSet P w h a ns u) (k : ∀ o, h.get? a = some o → h'.get? a = some o) : TxSet P w h' a ns u := TxR.keep R k
end
end DS
namespace DS
open PySem PySem.Spec PyProof.Rows L2
section
variable {X : Cx} {K : PySem.W.Frag}
/-- max(xs), min(xs) of a list of ints -/
def intsOf : List SD → Option (List Int)
  | [] => some []
  | .int s :: r => match intsOf r with
    | some l => some (s :: l)
    | none => none
  | _ :: _ => none
theorem intsOf_rep : ∀ {F : Hp} {K : PySem.W.Frag} {ds : List SD} {vs : List V} {l : List Int}, RepL K F ds vs → intsOf ds = some l → vs = l.map V.int
  | _, _, [], _, _, .nil, e => by cases e; rfl
  | _, _, d :: ds, _, l, .cons q r, e => by
    cases d with
    | int s =>
      unfold intsOf at e
      cases e2 : intsOf ds with
      | none => rw [e2] at e; cases e
      | some l2 => rw [e2] at e; cases e; cases q; rw [intsOf_rep r e2]; rfl
    | _ => cases e
theorem intsOf_map (l : List Int) : intsOf (l.map SD.int) = some l := by
  induction l with
  | nil => rfl
  | cons a r ih => rw [List.map_cons, intsOf, ih]
def drMost (P : Int → Int → Prop) : DRc := fun ds μ Q => match ds with
  | [d] => match lstD μ d with
    | some xs => match intsOf xs with
      | some ns => 0 < ns.length ∧ ∀ m, m ∈ ns → (∀ y, y ∈ ns → P y m) → Q (.int m) μ
      | none => False
    | none => False
  | _ => False
theorem lc_most {P : Int → Int → Prop} : LRc K (drMost P) (fun vs H Q => ∃ (a : Addr) (ns : List Int), vs = [V.ref a] ∧ SqL K H a (ns.map V.int) ∧ 0 < ns.length ∧ ∀ m, m ∈ ns → (∀ y, y ∈ ns → P y m) → Q (.int m) H) := fun F H μ xs ds Q' Q R r t k => by
  cases r with
  | nil => exact False.elim t
  | cons r1 r2 => cases r2 with
    | cons _ _ => exact False.elim t
    | nil =>
      rename_i d v
      unfold drMost at t
      simp only at t
      cases e : lstD μ d with
      | none => rw [e] at t; exact False.elim t
      | some xs =>
        rw [e] at t
        simp only at t
        cases e2 : intsOf xs with
        | none => rw [e2] at t; exact False.elim t
        | some ns =>
          rw [e2] at t
          obtain ⟨a, vs, rfl, ha, r⟩ := R.lst r1 e
          obtain rfl := intsOf_rep r e2
          exact ⟨a, ns, rfl, SqL.of ha, t.1, fun m h1 h2 => k _ μ (t.2 m h1 h2) F H _ (Stp.refl _ _ _) R (.int _)⟩
theorem lc_max1 : LRc K (drMost fun y m => y ≤ m) (rMax K) := lc_most
theorem lc_min1 : LRc K (drMost fun y m => m ≤ y) (rMin K) := lc_most
end
end DS
namespace DS
open PySem PySem.Spec PyProof.Rows L2
mutual
/-- the value shows as the datum; empty dicts among it stand at no place of the machine's own -/
inductive Shw (h : Heap) : Value → PyData → Prop
  | non : Shw h .none .none
  | bl (b : Bool) : Shw h (.bool b) (.bool b)
  | int (i : Int) (t : Tok) : Shw h (.int i t) (.int i)
  | str (x : Str) (t : Tok) : Shw h (.str x t) (.str x)
  | lst {a : Addr} {o : Obj} {vs : Array Value} {n : Nat} {xs : List PyData} : h.get? a = some o → o.cls = .type "list" → o.data = .seq vs n → ShwL h vs.toList xs → Shw h (.ref a) (.list xs)
  | tup {a : Addr} {o : Obj} {vs : Array Value} {n : Nat} {xs : List PyData} : h.get? a = some o → o.cls = .type "tuple" → o.data = .seq vs n → ShwL h vs.toList xs → Shw h (.ref a) (.tuple xs)
  | dic {a : Addr} {o : Obj} {n : Nat} : (a == sysModules) = false → h.get? a = some o → o.cls = .type "dict" → o.data = .dict #[] n → Shw h (.ref a) (.dict [])
inductive ShwL (h : Heap) : List Value → List PyData → Prop
  | nil : ShwL h [] []
  | cons {v : Value} {vs : List Value} {d : PyData} {ds : List PyData} : Shw h v d → ShwL h vs ds → ShwL h (v :: vs) (d :: ds)
end
mutual
theorem Shw.reads {h : Heap} : ∀ {v : Value} {d : PyData}, Shw h v d → ∃ as, Reads h v d as
  | _, _, .non => ⟨_, .none⟩
  | _, _, .bl b => ⟨_, .bool b⟩
  | _, _, .int i t => ⟨_, .int i t⟩
  | _, _, .str x t => ⟨_, .str x t⟩
  | _, _, .lst a b c r => let ⟨_, q⟩ := ShwL.reads r; ⟨_, .list a b c q⟩
  | _, _, .tup a b c r => let ⟨_, q⟩ := ShwL.reads r; ⟨_, .tuple a b c q⟩
  | _, _, .dic _ a b c => ⟨_, .dict (kvs := []) a b c .nil .nil⟩
theorem ShwL.reads {h : Heap} : ∀ {vs : List Value} {ds : List PyData}, ShwL h vs ds → ∃ as, ReadsAll h vs ds as
  | _, _, .nil => ⟨_, .nil⟩
  | _, _, .cons h r => let ⟨_, p⟩ := Shw.reads h; let ⟨_, q⟩ := ShwL.reads r; ⟨_, .cons p q⟩
end
section
variable {prog : Program} {w : World} {h₀ : Heap}
theorem dict0_shown : (PyData.dict []).shown = dictText [] := by simp only [PyData.shown, PyData.shownKv]
mutual
theorem Shw.K : ∀ {v : Value} {d : PyData}, Shw h₀ v d → d.showable = true → d.shown.length ≤ sizeLine → ∃ bs, ReadAtMost h₀ d.depth bs ∧ ReprK prog w bs h₀ d.depth v d.shown
  | _, _, .non, hs, hz => ReprK.of_reads Reads.none hs (fun z => by simp [PyData.hasDict] at z) hz
  | _, _, .bl b, hs, hz => ReprK.of_reads (Reads.bool b) hs (fun z => by simp [PyData.hasDict] at z) hz
  | _, _, .int i t, hs, hz => ReprK.of_reads (Reads.int i t) hs (fun z => by simp [PyData.hasDict] at z) hz
  | _, _, .str x t, hs, hz => ReprK.of_reads (Reads.str x t) hs (fun z => by simp [PyData.hasDict] at z) hz
  | _, _, .lst (a := a) (vs := vs) (xs := xs) h1 h2 h3 h4, hs, hz => by
    have fits : (listText (PyData.shownAll xs)).length ≤ sizeLine := by simpa only [PyData.shown] using hz
    obtain ⟨bs, hb, hk⟩ := ShwL.K h4 (by simpa [PyData.showable] using hs) fun t ht => Nat.le_trans (listText_mem_le ht) fits
    obtain ⟨as, q⟩ := ShwL.reads h4
    have r : Reads h₀ (.ref a) (.list xs) (a :: as) := .list h1 h2 h3 q
    have apart : a ∉ bs := not_mem_of_deeper r (by simp only [PyData.depth]; omega) hb
    refine ⟨a :: bs, ReadAtMost.cons r (by simp only [PyData.depth]; omega) hb, ?_⟩
    simp only [PyData.depth, PyData.shown]
    obtain ⟨l⟩ := vs
    cases l with
    | nil =>
      have e : ShwL h₀ [] xs := h4
      cases e
      simp only [PyData.shownAll, listText_nil]
      exact ReprK.listEmpty h1 h2 h3
    | cons x l => exact ReprK.list h1 h2 h3 apart (by simpa using hk.length_eq) fun i y e => hk.item i y (by simpa using e)
  | _, _, .tup (a := a) (xs := xs) h1 h2 h3 h4, hs, hz => by
    have fits : (tupleText (PyData.shownAll xs)).length ≤ sizeLine := by simpa only [PyData.shown] using hz
    obtain ⟨bs, hb, hk⟩ := ShwL.K h4 (by simpa [PyData.showable] using hs) fun t ht => Nat.le_trans (tupleText_mem_le ht) fits
    obtain ⟨as, q⟩ := ShwL.reads h4
    have r : Reads h₀ (.ref a) (.tuple xs) as := .tuple h1 h2 h3 q
    have apart : a ∉ bs := not_mem_of_deeper r (by simp only [PyData.depth]; omega) hb
    refine ⟨a :: bs, ReadAtMost.cons r (by simp only [PyData.depth]; omega) hb, ?_⟩
    simp only [PyData.depth, PyData.shown]
    exact ReprK.tuple h1 h2 h3 apart hk
  | _, _, .dic (a := a) h0 h1 h2 h3, hs, hz => by
    have r : Reads h₀ (.ref a) (.dict []) _ := .dict (kvs := []) h1 h2 h3 .nil .nil
    refine ⟨[a], fun b hb => ⟨_, _, List.mem_singleton.mp hb ▸ r, Nat.le_refl _⟩, ?_⟩
    rw [dict0_shown]
    exact ReprK.dict h1 h2 h3 h0 (List.not_mem_nil) .nil
theorem ShwL.K : ∀ {vs : List Value} {ds : List PyData}, ShwL h₀ vs ds → PyData.showableAll ds = true → (∀ t ∈ PyData.shownAll ds, t.length ≤ sizeLine) →
    ∃ bs, ReadAtMost h₀ (PyData.depthAll ds) bs ∧ ReprAllK prog w bs h₀ (PyData.depthAll ds) vs (PyData.shownAll ds)
  | _, _, .nil, _, _ => ⟨[], (fun _ h => nomatch h), by simp only [PyData.shownAll]; exact .nil⟩
  | _, _, .cons (d := d) (ds := ds) r rs, hs, hz => by
    have both : d.showable = true ∧ PyData.showableAll ds = true := by simpa [PyData.showableAll] using hs
    obtain ⟨b1, hb1, k1⟩ := Shw.K r both.1 (hz _ (by simp only [PyData.shownAll]; exact List.mem_cons_self ..))
    obtain ⟨b2, hb2, k2⟩ := ShwL.K rs both.2 fun t ht => hz t (by simp only [PyData.shownAll]; exact List.mem_cons_of_mem _ ht)
    refine ⟨b1 ++ b2, ?_, ?_⟩
    · simp only [PyData.depthAll]
      exact (hb1.mono (Nat.le_max_left _ _)).append (hb2.mono (Nat.le_max_right _ _))
    · simp only [PyData.depthAll, PyData.shownAll]
      exact .cons ((k1.more fun b hb => List.mem_append_left b2 hb).level_le (Nat.le_max_left _ _)) (k2.more_le (fun b hb => List.mem_append_right b1 hb) (Nat.le_max_right _ _))
end
theorem Shw.by {a : Addr} {d : PyData} (r : Shw h₀ (.ref a) d) (hs : d.showable = true) (hz : d.shown.length ≤ sizeLine) : ∃ T idr, ShowsBy prog w h₀ a d T idr := by
  cases r with
  | lst h1 h2 h3 h4 =>
    rename_i o vs n xs
    have fits : (listText (PyData.shownAll xs)).length ≤ sizeLine := by simpa only [PyData.shown] using hz
    obtain ⟨bs, hb, hk⟩ := ShwL.K (prog := prog) (w := w) h4 (by simpa [PyData.showable] using hs) fun t ht => Nat.le_trans (listText_mem_le ht) fits
    obtain ⟨as, q⟩ := ShwL.reads h4
    have apart : a ∉ bs := not_mem_of_deeper (.list h1 h2 h3 q) (by simp only [PyData.depth]; omega) hb
    refine ⟨"list", "list.__repr__", F.slot_list_repr.toG, F.slot_list_str, F.slot_list_format, fun s keep => ⟨o, keep _ _ h1, h2⟩, fun A E s Q hg hu keep hQ => ?_⟩
    simp only [PyData.depth] at hu
    simp only [PyData.shown] at hQ
    obtain ⟨l⟩ := vs
    cases l with
    | nil =>
      have e : ShwL h₀ [] xs := h4
      cases e
      simp only [PyData.shownAll, listText_nil] at hQ
      exact call_list_repr_empty ⟨o, keep _ _ h1, h2⟩ (keep _ _ h1) h3 (hQ s.heap _ _ fun _ _ e => e)
    | cons x l => exact call_list_reprK h1 h2 h3 apart (by simpa using hk.length_eq) (fun i y e => hk.item i y (by simpa using e)) hg (fun b _ => Clear.nil b) hu keep hQ fits
  | tup h1 h2 h3 h4 =>
    rename_i o vs n xs
    have fits : (tupleText (PyData.shownAll xs)).length ≤ sizeLine := by simpa only [PyData.shown] using hz
    obtain ⟨bs, hb, hk⟩ := ShwL.K (prog := prog) (w := w) h4 (by simpa [PyData.showable] using hs) fun t ht => Nat.le_trans (tupleText_mem_le ht) fits
    obtain ⟨as, q⟩ := ShwL.reads h4
    have apart : a ∉ bs := not_mem_of_deeper (.tuple h1 h2 h3 q) (by simp only [PyData.depth]; omega) hb
    refine ⟨"tuple", "tuple.__repr__", F.slot_tuple_repr, F.slot_tuple_str, F.slot_tuple_format, fun s keep => ⟨o, keep _ _ h1, h2⟩, fun A E s Q hg hu keep hQ => ?_⟩
    simp only [PyData.depth] at hu
    simp only [PyData.shown] at hQ
    exact call_tuple_reprK h1 h2 h3 apart hk hg (fun b _ => Clear.nil b) hu keep hQ fits
  | dic h0 h1 h2 h3 =>
    rename_i o n
    refine ⟨"dict", "dict.__repr__", F.slot_dict_repr, F.slot_dict_str, F.slot_dict_format, fun s keep => ⟨o, keep _ _ h1, h2⟩, fun A E s Q hg hu keep hQ => ?_⟩
    rw [dict0_shown] at hQ hz
    simp only [PyData.depth] at hu
    exact call_dict_reprK h1 h2 h3 h0 (List.not_mem_nil) .nil hg (fun b _ => Clear.nil b) hu keep hQ hz
end
mutual
inductive Dq (K : PySem.W.Frag) (H : Hp) : V → PyData → Prop
  | non : Dq K H .non .none
  | bl (b : Bool) : Dq K H (.bl b) (.bool b)
  | int (i : Int) : Dq K H (.int i) (.int i)
  | str (x : Str) : Dq K H (.str x) (.str x)
  | lst {a : Addr} {xs : List V} {ds : List PyData} : SqL K H a xs → DqL K H xs ds → Dq K H (.ref a) (.list ds)
  | tup {a : Addr} {xs : List V} {ds : List PyData} : SqT K H a xs → DqL K H xs ds → Dq K H (.ref a) (.tuple ds)
  | dic {a : Addr} : Rd H a (.dK []) → Dq K H (.ref a) (.dict [])
inductive DqL (K : PySem.W.Frag) (H : Hp) : List V → List PyData → Prop
  | nil : DqL K H [] []
  | cons {v : V} {vs : List V} {d : PyData} {ds : List PyData} : Dq K H v d → DqL K H vs ds → DqL K H (v :: vs) (d :: ds)
end
section
variable {X : Cx} {K : PySem.W.Frag} {pins : List (Addr × Obj)} {σ : L2.St} {H : Hp} {s : Shared}
mutual
theorem Dq.shw (I : Inv X pins σ H s) : ∀ {v : V} {d : PyData} {u : Value}, Dq X.K H v d → RelV v u → Shw s.heap u d
  | _, _, u, .non, r => by cases r; exact .non
  | _, _, u, .bl b, r => by cases r; exact .bl b
  | _, _, u, .int i, r => by obtain ⟨t, rfl⟩ := r; exact .int i t
  | _, _, u, .str x, r => by obtain ⟨t, rfl⟩ := r; exact .str x t
  | _, _, u, .lst hs ha, r => by
    cases r
    obtain ⟨its, rv, ⟨o, n, ho, hc, _, hd⟩, _⟩ := I.list hs
    exact .lst ho hc hd (DqL.shw I ha rv)
  | _, _, u, .tup hs ha, r => by
    cases r
    obtain ⟨its, rv, ⟨o, ho, hc, n, hd⟩, _⟩ := I.tuple hs
    exact .tup ho hc hd (DqL.shw I ha rv)
  | _, _, u, .dic e, r => by
    cases r
    obtain ⟨_, h0, vs, rel, o, es, ep, ho, hex, hd, _, hp, _⟩ := dk_rd I.hok e
    cases rel
    have e0 : es.toList = [] := by
      generalize es.toList = l at hp
      cases hp; rfl
    have : es = #[] := by
      cases es
      simp at e0; subst e0; rfl
    subst this
    exact .dic h0 ho hex.1 hd
theorem DqL.shw (I : Inv X pins σ H s) : ∀ {vs : List V} {ds : List PyData} {us : List Value}, DqL X.K H vs ds → Vals vs us → ShwL s.heap us ds
  | _, _, _, .nil, .nil => .nil
  | _, _, _, .cons h r, .cons q t => .cons (Dq.shw I h q) (DqL.shw I r t)
end
def rReprQ (K : PySem.W.Frag) : List V → Hp → VK → Prop := fun xs H Q => ∃ x d, xs = [x] ∧ Dq K H x d ∧ (PyData.showable d = true ∧ d.shown.length ≤ sizeLine ∧ d.depth ≤ 64) ∧ Q (.str d.shown) H
theorem cr_reprQ (hq : Quiet X.A) (hu : X.A.units + 66 < cLine) : CallR X (.builtin "repr") (rReprQ X.K) := by
  intro pins s σ H xs us Q I r h
  obtain ⟨x, d, rfl, hd, ⟨h1, h2, h3⟩, q⟩ := h
  obtain ⟨u, rfl, rx⟩ := vals1 r
  have far : ∀ a, u = .ref a → wpAny (model X.prog X.w) X.A (call (.builtin "repr") [u]) (EP X pins σ Q) X.xe s := fun a e => by
    subst e
    obtain ⟨T, idr, S⟩ := Shw.by (prog := X.prog) (w := X.w) (Dq.shw I hd rx) h1 h2
    have keep : ∀ b o, s.heap.get? b = some o → s.heap.get? b = some o := fun _ _ e => e
    refine call_repr_slot (by omega) (S.typeIs s keep) S.slotRepr (S.call X.A.in1 X.xe s _ hq (by show X.A.units + 1 + d.depth < cLine; omega) keep fun h' t tk hk => ⟨_, _, rfl, ?_⟩)
    exact ⟨.str _, H, I.kept (h' := h') (t' := tk) hk, ⟨_, rfl⟩, q⟩
  cases hd with
  | non => obtain rfl := rx; exact P.repr_of_none ⟨.str _, H, I.tok _, ⟨_, rfl⟩, q⟩
  | bl b => obtain rfl := rx; exact P.repr_of_bool ⟨.str _, H, I.tok _, ⟨_, rfl⟩, q⟩
  | int i =>
    obtain ⟨t, rfl⟩ := rx
    exact P.repr_of_int (of_decide_eq_true (by simpa [PyData.showable] using h1)) ⟨.str _, H, I.tok _, ⟨_, rfl⟩, q⟩
  | str z =>
    obtain ⟨t, rfl⟩ := rx
    exact P.repr_of_str (hsz := h2) ⟨.str _, H, I.tok _, ⟨_, rfl⟩, q⟩
  | lst hl hr => exact far _ rx
  | tup hl hr => exact far _ rx
  | dic e => exact far _ rx
end
mutual
def pqS : SD → Option PyData
  | .non => some .none
  | .bl b => some (.bool b)
  | .int i => some (.int i)
  | .str s => some (.str s)
  | .ref _ => none
  | .ty _ => none
  | .exc _ _ => none
  | .ptp _ => none
  | .tup xs => match pqL xs with
    | some ds => some (.tuple ds)
    | none => none
  | .lst xs => match pqL xs with
    | some ds => some (.list ds)
    | none => none
  | .rol xs => match pqL xs with
    | some ds => some (.list ds)
    | none => none
  | .dic [] => some (.dict [])
  | .dic (_ :: _) => none
def pqL : List SD → Option (List PyData)
  | [] => some []
  | d :: r => match pqS d, pqL r with
    | some x, some y => some (x :: y)
    | _, _ => none
end
def pq (μ : Mu) : SD → Option PyData
  | .ref a => match μ a with
    | some (.lst xs) => match pqL xs with
      | some ds => some (.list ds)
      | none => none
    | _ => none
  | d => pqS d
section
variable {K : PySem.W.Frag} {F H : Hp} {μ : Mu}
mutual
theorem RepS.dq (ex : Ext F H) (sub : ∀ a o, F a = some o → H a = some o) : ∀ {d : SD} {v : V} {p : PyData}, RepS K F d v → pqS d = some p → Dq K H v p
  | _, _, _, .non, e => by cases e; exact .non
  | _, _, _, .bl b, e => by cases e; exact .bl b
  | _, _, _, .int b, e => by cases e; exact .int b
  | _, _, _, .str b, e => by cases e; exact .str b
  | _, _, _, .ref _, e => by cases e
  | _, _, _, .ty _, e => by cases e
  | .tup ds, _, _, .tup h r, e => by
    unfold pqS at e
    cases q : pqL ds with
    | none => rw [q] at e; cases e
    | some ps => rw [q] at e; cases e; exact .tup (ex.sqT h) (RepL.dq ex sub r q)
  | .lst ds, _, _, .lst h r, e => by
    unfold pqS at e
    cases q : pqL ds with
    | none => rw [q] at e; cases e
    | some ps => rw [q] at e; cases e; exact .lst (SqL.of (sub _ _ h)) (RepL.dq ex sub r q)
  | .rol ds, _, _, .rol h r, e => by
    unfold pqS at e
    cases q : pqL ds with
    | none => rw [q] at e; cases e
    | some ps => rw [q] at e; cases e; exact .lst (ex.sqL h) (RepL.dq ex sub r q)
  | .dic [], _, _, .dic h q r, e => by
    unfold pqS at e
    cases e
    have : ∀ vs : List (Key × V), vs.map (·.1) = ([] : List (Key × SD)).map (·.1) → vs = [] := fun vs hv => by simpa using hv
    have e2 := this _ q
    subst e2
    exact .dic (ex.rd _ _ h)
  | .dic (_ :: _), _, _, .dic _ _ _, e => by unfold pqS at e; cases e
  | _, _, _, .exc0 _ _, e => by unfold pqS at e; cases e
  | _, _, _, .exc _ _ _ _ _, e => by unfold pqS at e; cases e
  | _, _, _, .ptp _ _ _, e => by unfold pqS at e; cases e
theorem RepL.dq (ex : Ext F H) (sub : ∀ a o, F a = some o → H a = some o) : ∀ {ds : List SD} {vs : List V} {ps : List PyData}, RepL K F ds vs → pqL ds = some ps → DqL K H vs ps
  | _, _, _, .nil, e => by unfold pqL at e; cases e; exact .nil
  | d :: ds, _, _, .cons h r, e => by
    unfold pqL at e
    cases q : pqS d with
    | none => rw [q] at e; cases e
    | some x => cases q2 : pqL ds with
      | none => rw [q, q2] at e; cases e
      | some y => rw [q, q2] at e; cases e; exact .cons (RepS.dq ex sub h q) (RepL.dq ex sub r q2)
end
theorem HReal.dq (R : HReal K F H μ) {d : SD} {v : V} {p : PyData} (r : RepS K F d v) (e : pq μ d = some p) : Dq K H v p := by
  cases r with
  | ref a =>
    unfold pq at e
    simp only at e
    cases q : μ a with
    | none => rw [q] at e; cases e
    | some m =>
      rw [q] at e
      obtain ⟨_, o, h, ro⟩ := R.mus a m q
      cases ro with
      | lst r =>
        rename_i ds vs
        cases q2 : pqL ds with
        | none => simp only [q2] at e; cases e
        | some ps => simp only [q2] at e; cases e; exact .lst (SqL.of h) (RepL.dq R.ext R.sub r q2)
      | _ => cases e
  | non => exact RepS.dq R.ext R.sub .non e
  | bl b => exact RepS.dq R.ext R.sub (.bl b) e
  | int b => exact RepS.dq R.ext R.sub (.int b) e
  | str b => exact RepS.dq R.ext R.sub (.str b) e
  | ty b => cases e
  | tup h r => exact RepS.dq R.ext R.sub (.tup h r) e
  | lst h r => exact RepS.dq R.ext R.sub (.lst h r) e
  | rol h r => exact RepS.dq R.ext R.sub (.rol h r) e
  | dic h q r => exact RepS.dq R.ext R.sub (.dic h q r) e
  | exc0 _ _ => cases e
  | exc _ _ _ _ _ => cases e
  | ptp _ _ _ => cases e
def drReprQ : DRc := fun ds μ Q => match ds with
  | [d] => match pq μ d with
    | some p => (PyData.showable p = true ∧ p.shown.length ≤ sizeLine ∧ p.depth ≤ 64) ∧ Q (.str p.shown) μ
    | none => False
  | _ => False
theorem lc_reprQ : LRc K drReprQ (rReprQ K) := fun F H μ xs ds Q' Q R r t k => by
  cases r with
  | nil => exact False.elim t
  | cons r1 r2 => cases r2 with
    | cons _ _ => exact False.elim t
    | nil =>
      rename_i d v
      cases e : pq μ d with
      | none => simp only [drReprQ, e] at t
      | some p =>
        simp only [drReprQ, e] at t
        exact ⟨v, p, rfl, R.dq r1 e, t.1, k _ μ t.2 F H _ (Stp.refl _ _ _) R (.str _)⟩
end
section
variable {X : Cx} {K : PySem.W.Frag}
def rT0 (K : PySem.W.Frag) (neg : Bool) : R2 := fun x y H Q => ∃ a b xs, x = .ref a ∧ y = .ref b ∧ SqT K H a xs ∧ SqT K H b [] ∧ Q (.bl (neg != xs.isEmpty)) H
theorem size_vals {xs : List V} {its : List Value} (r : Vals xs its) : (its.toArray.size == (#[] : Array Value).size) = xs.isEmpty := by
  cases r <;> simp
theorem opr_neT0 (hu : X.A.units + 64 < cLine) : OpR X (compareOp .NotEq) (rT0 X.K true) := by
  intro pins s σ H x y v u Q I rx ry h
  obtain ⟨a, b, xs, rfl, rfl, ha, hb, q⟩ := h
  cases rx; cases ry
  obtain ⟨its, r, ht, _⟩ := I.tuple ha
  obtain ⟨its2, r2, ht2, _⟩ := I.tuple hb
  cases r2
  refine SeqAt.RcNeAt.tuples (e := fun _ => true) (show s.heap.IsTuple a its.toArray from ht) (show s.heap.IsTuple b #[] from ht2) (by omega) (fun j _ h2 => absurd h2 (Nat.not_lt_zero _)) X.prog X.w X.xe _ ?_
  refine ⟨.bl _, H, I, rfl, ?_⟩
  rw [size_vals r]
  simpa using q
def dT0 (neg : Bool) : DR2 := fun x y μ Q => match x with
  | .tup xs => match y with
    | .tup [] => Q (.bl (neg != xs.isEmpty)) μ
    | _ => False
  | _ => False
theorem lr_T0 {neg : Bool} : LR2 K (dT0 neg) (rT0 K neg) := fun F H μ x y dx dy Q' Q R rx ry t k => by
  cases dx with
  | tup xs => cases dy with
    | tup ys => cases ys with
      | nil =>
        cases rx with
        | tup h1 r1 => cases ry with
          | tup h2 r2 =>
            cases r2
            refine ⟨_, _, _, rfl, rfl, R.ext.sqT h1, R.ext.sqT h2, ?_⟩
            exact k _ μ t F H _ (Stp.refl _ _ _) R (by
              have : ∀ vs : List V, RepL K F xs vs → xs.isEmpty = vs.isEmpty := fun vs q => by cases q <;> rfl
              rw [this _ r1]; exact .bl _)
      | cons _ _ => exact False.elim t
    | _ => exact False.elim t
  | _ => exact False.elim t
end
end DS
namespace DS
open PySem PySem.Spec PyProof.Rows L2
section
variable {X : Cx} {K : PySem.W.Frag}
def rL0 (K : PySem.W.Frag) (neg : Bool) : R2 := fun x y H Q => ∃ a b xs, x = .ref a ∧ y = .ref b ∧ SqL K H a xs ∧ SqL K H b [] ∧ Q (.bl (neg != xs.isEmpty)) H
theorem opr_neL0 (hu : X.A.units + 64 < cLine) : OpR X (compareOp .NotEq) (rL0 X.K true) := by
  intro pins s σ H x y v u Q I rx ry h
  obtain ⟨a, b, xs, rfl, rfl, ha, hb, q⟩ := h
  cases rx; cases ry
  obtain ⟨its, r, ht, _⟩ := I.list ha
  obtain ⟨its2, r2, ht2, _⟩ := I.list hb
  cases r2
  have l1 : s.heap.IsList a its.toArray := ht.isList
  have l2 : s.heap.IsList b #[] := ht2.isList
  cases r with
  | nil => exact SeqAt.RcNeAt.lists (e := fun _ => true) l1 l2 rfl (by omega) (fun j _ h2 => absurd h2 (Nat.not_lt_zero _)) X.prog X.w X.xe _ ⟨.bl _, H, I, rfl, q⟩
  | cons _ _ => exact SeqAt.RcNeAt.lists_lengths l1 l2 (by simp) (by omega) X.prog X.w X.xe _ ⟨.bl _, H, I, rfl, q⟩
def dL0 (neg : Bool) : DR2 := fun x y μ Q => match lstD μ x, lstD μ y with
  | some xs, some [] => Q (.bl (neg != xs.isEmpty)) μ
  | _, _ => False
theorem lr_L0 {neg : Bool} : LR2 K (dL0 neg) (rL0 K neg) := fun F H μ x y dx dy Q' Q R rx ry t k => by
  unfold dL0 at t
  cases e1 : lstD μ dx with
  | none => rw [e1] at t; exact False.elim t
  | some xs => cases e2 : lstD μ dy with
    | none => rw [e1, e2] at t; exact False.elim t
    | some ys => cases ys with
      | cons _ _ => rw [e1, e2] at t; exact False.elim t
      | nil =>
        rw [e1, e2] at t
        obtain ⟨a, vs, rfl, ha, r1⟩ := R.lst rx e1
        obtain ⟨b, ws, rfl, hb, r2⟩ := R.lst ry e2
        cases r2
        refine ⟨a, b, vs, rfl, rfl, SqL.of ha, SqL.of hb, ?_⟩
        have : xs.isEmpty = vs.isEmpty := by cases r1 <;> rfl
        exact k _ μ t F H _ (Stp.refl _ _ _) R (by rw [this]; exact .bl _)
end
end DS
namespace PySem.DSX
end PySem.DSX
namespace DS
open PySem PySem.Spec PyProof.Rows L2
/-- an own __init__ of an error's class: B.__init__(self, y); self.f = y -/
def spI (C : Addr) (f : Str) : Sp := fun vs H Q _ => ∃ (a : Addr) (y : V), vs = [.ref a, y] ∧ H a = some (exo a C none) ∧ ∀ dx, H dx = none → dx ≠ a → Q .non (upd (upd H dx (exd dx [(f, y)])) a (exo a C (some dx)))
/-- all that is known of an error's class with an __init__ of its own -/
structure XDef (K : PySem.W.Frag) (mg : Str → Option Value) (x f p qual : Str) (st : Stmt) where
  C : Addr
  fI : Addr
  fd : FuncData
  F : Fun K "__init__" qual st fI fd
  m : mg x = some (.ref C)
  o : OexC K C
  ini : PySem.W.findIn K (.ref C) "__init__" = some (some (.ref fI))
  fn : PySem.W.typeIn K (.ref fI) = some (.type "function")
  b : Binds K fd ["self", p] []
  kb : KBinds K fd ["self", p] [p] (kwG [.inl 0, .inr 0] 1 1) (kwG [.inl 0, .inr 0] 1 1)
  xk : XcK K x C [f]
abbrev XIni (P : Program) (w : World) (base : Heap) {K : PySem.W.Frag} {mg : Str → Option Value} {x f p qual : Str} {st : Stmt} (D : XDef K mg x f p qual st) (k : Nat) : Prop := FnG P w K mg base CX0 k D.fI D.fd ["self", p] (spI D.C f)
/-- what is known of the class whose __init__ is asked -/
structure XBase (K : PySem.W.Frag) (mg : Str → Option Value) (x : Str) where
  C : Addr
  m : mg x = some (.ref C)
  sp : PySem.W.specialIn K (.ref C) "__getattribute__" = some (some (.builtin "type.__getattribute__"))
  rd : PySem.W.readsIn K C (.type "type") = true
  at_ : PySem.W.findCls K (.ref C) (.type "type") "__init__" = some (.val (.builtin "ValueError.__init__"))
section
variable {X : Cx} {x f q qual B : Str} {st : Stmt} {k n : Nat} {e : Expr} {es : List Expr} {te : TE} {t : TA} {p p1 p2 p3 p4 p5 p6 p7 p8 p9 p10 pos kpos : Pos}
/-- B.__init__(e, ..), B an own class of errors -/
theorem pe_bini (D : XBase X.K X.mg B) (hg : Gl X B) (ha : PA X (e :: es) t) (hdb : (B == ("__debug__" : Str)) = false) {pl : Sem Bool}
    (hc : eval (.Call (.Attribute (.Name B p1) "__init__" p2) (e :: es) [] pos) X.env = (do
      let ov ← eval (.Name B p1) X.env
      standAt p2.atName
      let (f, first) ← holding [ov] (getMethod ov "__init__" pl)
      callWith pos f first (backTo pos (starEach (e :: es) X.env)) (backToKw pos (keywordEach [] X.env))))
    (he : starEach (e :: es) X.env = (false, eval e X.env) :: starEach es X.env := by rfl) (hpl : (backTo pos (starEach es X.env)).any (·.1) = false := by rfl) :
    PE X (.Call (.Attribute (.Name B p1) "__init__" p2) (e :: es) [] pos) (tVeI X.K t) := by
  refine ⟨fun pins s σ H Q I h => ?_⟩
  refine PySem.W.methodCall_KW (ld_glob I hg D.m ?_ hdb) hc
  refine PySem.W.method_cls I.kIn D.sp (PySem.W.cls_value I.kIn D.rd D.at_ (by decide +kernel) ?_)
  show wpAny _ _ (callWith pos (Value.builtin "ValueError.__init__") [] (backTo pos (starEach (e :: es) X.env)) []) _ _ _
  refine PyProof.Rows.callWith_method1 (thn (ha.run pos pins _ σ H _ (I.tok _) h) fun us s1 ⟨vs, H1, I1, r1, a, C, ws, ev, hl, T, ea, q⟩ => ?_) he hpl
  subst ev
  match us, r1 with
  | _ :: us, .cons r0 r1 =>
    cases r0
    exact oinit_ok T I1 ea (by rw [← r1.length, sizeLine_eq]; omega) fun s' J => ⟨.non, H1, J, rfl, q⟩
/-- self.f = y behind it: the whole __init__ -/
theorem xini_ok {P : Program} {w : World} {K : PySem.W.Frag} {mg : Str → Option Value} {base : Heap} (D : XDef K mg x f q qual st) (Z : XBase K mg B) (S : FnScope ["self", q] ["self", q] (defScope st))
    (hb : defBody st = [.Expr (.Call (.Attribute (.Name B p1) "__init__" p2) [.Name "self" p3, .Name q p4] [] p5) p6, .Assign [.Attribute (.Name "self" p7) f p8] (.Name q p9) p10])
    (hg : (defScope st).names.lookup B = some .globalImplicit) (v0 : Vis (defScope st) "self") (v1 : Vis (defScope st) q) (hdb : (B == ("__debug__" : Str)) = false) (hq1 : (q == ("__debug__" : Str)) = false) (hq2 : (q == ("__classdict__" : Str)) = false)
    (hc : ∀ (L : Addr) (cdv : Value), ∃ pl : Sem Bool, eval (.Call (.Attribute (.Name B p1) "__init__" p2) [.Name "self" p3, .Name q p4] [] p5) (envOfC qual (defScope st) L D.fI cdv) = (do
      let ov ← eval (.Name B p1) (envOfC qual (defScope st) L D.fI cdv)
      standAt p2.atName
      let (f, first) ← holding [ov] (getMethod ov "__init__" pl)
      callWith p5 f first (backTo p5 (starEach [.Name "self" p3, .Name q p4] (envOfC qual (defScope st) L D.fI cdv))) (backToKw p5 (keywordEach [] (envOfC qual (defScope st) L D.fI cdv))))) : XIni P w base D 2 := by
  obtain ⟨oc, od, kV, doc, pm, an, cdv, ct, osl, e, lk, hcd⟩ := D.F.ex
  unfold XIni
  rw [e] at lk ⊢
  refine fnG_of lk hcd S (fun vs H Q E h => by obtain ⟨_, _, rfl, _⟩ := h; rfl) fun A outer s H vs Q E quiet room want => ?_
  obtain ⟨a, y, rfl, ea, k⟩ := want
  obtain ⟨pl, hpl⟩ := hc s.heap.objs.size cdv
  refine ⟨_, by
    rw [hb]
    exact pss_cons (ps_expr (pe_bini (t := tCons (tVar 0) (tCons (tVar 1) tNil)) Z hg (pa_cons (pe_var (i := 0) rfl v0) (pa_cons (pe_var (i := 1) rfl v1 hq1 hq2) pa_nil)) hdb hpl)) (pss_one (ps_ost (pe_var (i := 0) rfl v0) (pe_var (i := 1) rfl v1 hq1 hq2))), ?_⟩
  exact ⟨.ref a, rfl, y, rfl, a, D.C, [y], rfl, (by show 1 ≤ 1000; decide), D.o, ea, y, rfl, .ref a, rfl, a, D.C, rfl, D.o, D.xk.no f (List.mem_cons_self ..), .inl ⟨ea, k⟩⟩
end
/-- a class of errors without an __init__ of its own -/
structure XDef0 (K : PySem.W.Frag) (mg : Str → Option Value) (x : Str) where
  C : Addr
  m : mg x = some (.ref C)
  ex : PySem.W.excIn K C [.type "ValueError", .type "Exception", .type "BaseException", .type "object"] "ValueError.__new__" = true
  kC : PySem.W.keepIn K (.ref C) = true
  xk : XcK K x C []
def rX (K : PySem.W.Frag) (c : V) (cv : Value) : List V → Hp → VK → Prop := fun xs H Q => ∃ (a C : Addr) (od : Option Addr) (b : Bool) (x : Str) (fs : List Str), xs = [.ref a, c] ∧ H a = some (exq a C od) ∧ (∀ d, od = some d → ∃ vs, H d = some (.xd vs)) ∧ XcK K x C fs ∧ PySem.W.kitOne K (.ref C) cv = some b ∧ Q (.bl b) H
section
variable {X : Cx} {c : V} {cv : Value}
theorem call_x (hcv : ∀ u, RelV c u → u = cv) : CallR X (.builtin "isinstance") (rX X.K c cv) := by
  intro pins s σ H xs us Q I r h
  obtain ⟨a, C, od, b, x, fs, rfl, ea, ed, T, e, q⟩ := h
  match us, r with
  | [_, u], .cons r0 (.cons r1 .nil) =>
    cases r0
    have eu := hcv _ r1
    subst eu
    obtain ⟨⟨oe, vs, e1, ⟨z1, z2⟩, e3⟩, _, _⟩ := I.hok a _ ea
    have cls : (PySem.W.clsIn X.K C).isSome = true := by
      obtain ⟨cd, hc, _⟩ := PySem.W.any_some T.hd
      rw [hc]; rfl
    have no : PySem.W.notCls oe = true := by unfold PySem.W.notCls; rw [e3] <;> rfl
    have at_ : ∃ o : Option Obj, PySem.W.InstAt s.heap a oe C o := by
      cases q2 : od with
      | none => exact ⟨none, e1, z1, no, by rw [z2, q2]; exact True.intro⟩
      | some d =>
        obtain ⟨ws, hd⟩ := ed d q2
        have hx : ObjOk X.prog X.w H s.heap d (.xd ws) := I.hok d _ hd
        obtain ⟨mA, ⟨o, es, ep, ho, _⟩, _⟩ := hx
        exact ⟨some o, e1, z1, no, by rw [z2, q2]; exact ho⟩
    obtain ⟨o, J⟩ := at_
    exact PySem.W.kia_one (PySem.W.kitx_exc cls T.ga T.gg T.sub T.cl T.sp T.tk T.mro) I.kIn J e (fun z => nomatch z) fun tk => ⟨.bl b, H, I.kept (t' := tk) fun _ _ z => z, rfl, q⟩
end
/-- isinstance(an error, one class): kx says what for the class named -/
def isQ (kx : Str → Option Bool) (Q : SD → Mu → Prop) : SD → Mu → Prop := fun d μ => match d with
  | .exc x _ => (match kx x with
    | some b => Q (.bl b) μ
    | none => False)
  | _ => False
abbrev dIsX (kx : Str → Option Bool) (te : DTE) : DTE := fun ρ μ Q => te ρ μ (isQ kx Q)
section
variable {X : Cx} {x f : Str} {C : Addr} {e : Expr} {te : DTE} {p p2 pos : Pos} {kx : Str → Option Bool} {T : String}
theorem isx_go {c : SD} {v : V} {cv : Value} {Q' : SD → Mu → Prop} {Q : VK} {K : PySem.W.Frag} {F H : Hp} {μ : Mu} (hc : plain c = some v) (hk : ∀ x b C, kx x = some b → PySem.W.nsIn K mainGlobals x = some (some (.ref C)) → PySem.W.kitOne K (.ref C) cv = some b) {d : SD} {w : V} (R : HReal K F H μ) (r1 : RepS K F d w) (t : isQ kx Q' d μ)
    (k : ∀ d' μ', Q' d' μ' → ∀ F' H' v, Stp F H μ F' H' μ' → HReal K F' H' μ' → RepS K F' d' v → Q v H') : rX K v cv [w, v] H Q := by
  unfold isQ at t
  cases r1 with
  | exc0 T q =>
    simp only at t
    split at t
    · rename_i b e
      exact ⟨_, _, none, b, _, [], rfl, R.sub _ _ q, fun _ z => (by cases z), T, hk _ _ _ e T.at_, k _ _ t _ _ _ (Stp.refl _ _ _) R (.bl b)⟩
    · exact t.elim
  | exc T q q2 z r3 =>
    simp only at t
    split at t
    · rename_i b e
      exact ⟨_, _, some _, b, _, _, rfl, R.sub _ _ q, fun d z => (by cases z; exact ⟨_, R.sub _ _ q2⟩), T, hk _ _ _ e T.at_, k _ _ t _ _ _ (Stp.refl _ _ _) R (.bl b)⟩
    · exact t.elim
  | _ => exact t.elim
theorem isx_lift {c : SD} {v : V} {cv : Value} (hc : plain c = some v) (hk : ∀ x b C, kx x = some b → PySem.W.nsIn X.K mainGlobals x = some (some (.ref C)) → PySem.W.kitOne X.K (.ref C) cv = some b) (σ : L2.St) (H : Hp) (Q : VK) (h : LE X.K (dIsX kx te) σ H Q) :
    LA X.K (dCons te (dCons (dC c) dNil)) σ H (fun xs H1 => rX X.K v cv xs H1 Q) := by
  obtain ⟨F, ρ, μ, Q', R, S, t, k⟩ := h
  refine ⟨F, ρ, μ, fun ds μ1 => match ds with
    | [d, c'] => c' = c ∧ isQ kx Q' d μ1
    | _ => False, R, S, ?_, fun ds μ1 t1 F1 H1 vs s1 R1 r1 => ?_⟩
  · have mono : (fun (d : SD) (μ1 : Mu) => c = c ∧ isQ kx Q' d μ1) = isQ kx Q' := by
      funext d μ1
      exact propext ⟨fun z => z.2, fun z => ⟨rfl, z⟩⟩
    show te ρ μ (fun d μ1 => c = c ∧ isQ kx Q' d μ1)
    rw [mono]
    exact t
  · match ds, vs, r1, t1 with
    | [d, c'], [w, w'], .cons ra (.cons rb .nil), t2 =>
      have t3 : c' = c ∧ isQ kx Q' d μ1 := t2
      have ew : w' = v := by
        rw [t3.1] at rb
        exact rb.isPlain hc
      rw [ew]
      exact isx_go hc hk R1 ra t3.2 fun d' μ' q F' H' v' s R' r' => k d' μ' q F' H' v' (s1.trans s) R' r'
    | [], _, _, t1 => exact t1.elim
    | [_], _, _, t1 => exact t1.elim
    | _ :: _ :: _ :: _, _, _, t1 => exact t1.elim
theorem de_isX {D : Addr} (ha : DE X e te) (hI : Gl X "isinstance") (zI : X.mg "isinstance" = none) (hg : Gl X x) (hm : X.mg x = some (.ref D)) (hk : ∀ y b C, kx y = some b → PySem.W.nsIn X.K mainGlobals y = some (some (.ref C)) → PySem.W.kitOne X.K (.ref C) (.ref D) = some b)
    (hdb : (x == ("__debug__" : Str)) = false := by decide) (he : starEach [e, .Name x p2] X.env = (false, eval e X.env) :: starEach [.Name x p2] X.env := by rfl) (he2 : starEach [.Name x p2] X.env = (false, eval (.Name x p2) X.env) :: starEach [] X.env := by rfl)
    (hpl : (backTo pos (starEach [.Name x p2] X.env)).any (·.1) = false := by rfl) : DE X (.Call (.Name "isinstance" p) [e, .Name x p2] [] pos) (dIsX kx te) :=
  weakE (pe_callB (call_x (c := .ref D) (cv := .ref D) fun u r => r) hI zI bt_isinstance (da_cons ha (da_cons (de_glob (d := .ref D) (v := .ref D) hg hm rfl rfl hdb) da_nil he2) he) (by decide) (by decide) he hpl) (isx_lift (v := .ref D) rfl hk)
theorem de_isXT (ha : DE X e te) (hI : Gl X "isinstance") (zI : X.mg "isinstance" = none) (hg : Gl X x) (hm : X.mg x = none) (hv : bootBuiltins x = some (.type T)) (hk : ∀ y b C, kx y = some b → PySem.W.nsIn X.K mainGlobals y = some (some (.ref C)) → PySem.W.kitOne X.K (.ref C) (.type T) = some b)
    (hdb : (x == ("__debug__" : Str)) = false := by decide) (hn : x ≠ "__name__" := by decide) (he : starEach [e, .Name x p2] X.env = (false, eval e X.env) :: starEach [.Name x p2] X.env := by rfl) (he2 : starEach [.Name x p2] X.env = (false, eval (.Name x p2) X.env) :: starEach [] X.env := by rfl)
    (hpl : (backTo pos (starEach [.Name x p2] X.env)).any (·.1) = false := by rfl) : DE X (.Call (.Name "isinstance" p) [e, .Name x p2] [] pos) (dIsX kx te) :=
  weakE (pe_callB (call_x (c := .ty T) (cv := .type T) fun u r => r) hI zI bt_isinstance (da_cons ha (da_cons (de_ty hg hm hv hn hdb) da_nil he2) he) (by decide) (by decide) he hpl) (isx_lift (v := .ty T) rfl hk)
end
def tXfl (K : PySem.W.Frag) (f : Str) (te : TE) : TE := fun σ H Q => te σ H fun x H1 => ∃ (a C dx : Addr) (fs : List (Str × V)) (v : V) (y : Str) (ns : List Str), x = .ref a ∧ H1 a = some (exq a C (some dx)) ∧ H1 dx = some (.xd fs) ∧ fs.lookup f = some v ∧ XcK K y C ns ∧ f ∈ ns ∧ Q v H1
def dFld (f : Str) (te : DTE) : DTE := fun ρ μ Q => te ρ μ fun d μ1 => match d with
  | .exc _ fs => (match fs.lookup f with
    | some v => Q v μ1
    | none => False)
  | _ => False
theorem fld_at {K : PySem.W.Frag} {F : Hp} {f : Str} {d : SD} : ∀ {ds : List (Str × SD)} {vs : List (Str × V)}, vs.map (·.1) = ds.map (·.1) → RepL K F (ds.map (·.2)) (vs.map (·.2)) → ds.lookup f = some d → ∃ v, vs.lookup f = some v ∧ RepS K F d v ∧ f ∈ ds.map (·.1)
  | [], _, _, _, h => by cases h
  | (g, e) :: ds, [], h, _, _ => by simp at h
  | (g, e) :: ds, (g', w) :: vs, h, .cons r rs, hl => by
    simp only [List.map_cons, List.cons.injEq] at h
    obtain ⟨rfl, h⟩ := h
    simp only [List.lookup_cons] at hl ⊢
    split at hl
    · rename_i z
      cases hl
      exact ⟨w, rfl, r, by rw [beq_iff_eq.mp z]; exact List.mem_cons_self ..⟩
    · obtain ⟨v, a, b, c⟩ := fld_at h rs hl
      exact ⟨v, a, b, List.mem_cons_of_mem _ c⟩
section
variable {X : Cx} {f : Str} {e : Expr} {te : TE} {td : DTE} {pos : Pos}
theorem pe_xfl (he : PE X e te) (hb : attributeBase e f X.env (eval e X.env) = eval e X.env := by rfl) : PE X (.Attribute e f pos) (tXfl X.K f te) := by
  refine ⟨fun pins s σ H Q I h => attr_of hb (thn (he.run pins s σ H _ I h) fun u s1 z => ?_)⟩
  obtain ⟨x, H1, I1, rx, a, C, dx, fs, v, y, ns, rfl, ea, ed, l, T, hf, q⟩ := z
  cases rx
  obtain ⟨⟨oe, vs, e1, ⟨z1, z2⟩, e3⟩, _, _⟩ := I1.hok a _ ea
  have hx : ObjOk X.prog X.w H1 s1.heap dx (.xd fs) := I1.hok dx _ ed
  obtain ⟨mA, hns, hr⟩ := hx
  obtain ⟨o, ho, hl⟩ := lookIn_ns hns
  obtain ⟨u, hu, ru⟩ := RelO.some_of (v := v) (o := mA f) (by rw [← l]; exact hr f)
  have J : PySem.W.InstAt s1.heap a oe C (some o) := ⟨e1, z1, by unfold PySem.W.notCls; rw [e3] <;> rfl, by rw [z2]; exact ho⟩
  exact PySem.HandSPX.exc_get I1.kIn J T.ga T.gg T.sub (PySem.W.findObj_own T.hd (T.no f hf) rfl (by rw [hl, hu])) (handed_of ru) ⟨v, H1, I1.tok _, ru, q⟩
theorem de_fld (he : DE X e td) (hb : attributeBase e f X.env (eval e X.env) = eval e X.env := by rfl) : DE X (.Attribute e f pos) (dFld f td) := weakE (pe_xfl he hb) fun σ H Q h => by
  obtain ⟨F, ρ, μ, Q', R, S, t, k⟩ := h
  refine ⟨F, ρ, μ, _, R, S, t, fun d μ1 t1 F1 H1 v s1 R1 r1 => ?_⟩
  cases r1 with
  | exc0 T q => exact t1.elim
  | exc T q q2 z r3 =>
    simp only at t1
    split at t1
    · rename_i w e
      obtain ⟨v, l, r, m⟩ := fld_at z r3 e
      exact ⟨_, _, _, _, v, _, _, rfl, R1.sub _ _ q, R1.sub _ _ q2, l, T, m, k _ μ1 t1 F1 H1 v s1 R1 r⟩
    · exact t1.elim
  | _ => exact t1.elim
end
end DS
namespace DS
open PySem PySem.Spec PyProof.Rows L2
def inCls : Stmt → List Stmt
  | .ClassDef (body := b) .. => b
  | _ => []
/-- the plain facts of a class of errors (C the class, fI its own __init__, f its field) -/
structure XF (K : PySem.W.Frag) (C : Addr) : Prop where
  sa : PySem.W.findIn K (.ref C) "__setattr__" = some (some (.builtin "object.__setattr__"))
  ex : PySem.W.subIn K (.ref C) (.type "BaseException") = some true
  ty : PySem.W.typeIn K (.ref C) = some (.type "type")
  kc : PySem.W.keepIn K (.ref C) = true
  ga : PySem.W.findIn K (.ref C) "__getattribute__" = some (some (.builtin "BaseException.__getattribute__"))
  gg : PySem.W.findIn K (.ref C) "__getattr__" = some none
  hd : PySem.W.hasDictIn K C = true
  cl : PySem.W.findIn K (.ref C) "__class__" = some (some (.builtin "object.__class__"))
  sp : PySem.W.specialIn K (.builtin "object.__class__") "__get__" = some (some (.builtin "getset_descriptor.__get__"))
  tk : PySem.W.takesIn K (.builtin "object.__class__") = some true
  mro : PySem.W.mroIn K C (.type "object") = some true
/-- the class object: its name, address and the classes behind it -/
def XRow (K : PySem.W.Frag) (r : Str × Addr × List Value) : Prop := PySem.W.nsIn K mainGlobals r.1 = some (some (.ref r.2.1)) ∧ PySem.HandSPX.refsVE r.2.2 = true ∧
  ∃ nm q N bs sn sub ab col dd k0 k1 k2 k3 k5, K.lookup r.2.1 = some (excClassObj nm q r.2.1 N bs r.2.2 true sn sub ab col dd k0 k1 k2 k3 k5 "ValueError.__new__")
section
variable {K : PySem.W.Frag} {mg : Str → Option Value} {h : Heap} {x f : Str} {C fI D : Addr} {bm : List Value}
theorem XF.xck (F : XF K C) (a : PySem.W.nsIn K mainGlobals x = some (some (.ref C))) {fs : List Str} (no : ∀ f ∈ fs, PySem.W.findIn K (.ref C) f = some none) : XcK K x C fs := ⟨a, F.ga, F.gg, F.ex, F.hd, F.cl, F.sp, F.tk, F.mro, no⟩
theorem XF.oex (F : XF K C) (r : XRow K (x, C, bm)) : OexC K C := ⟨let ⟨_, v, nm, q, N, bs, sn, sub, ab, col, dd, k0, k1, k2, k3, k5, e⟩ := r; ⟨nm, q, N, bs, bm, sn, sub, ab, col, dd, k0, k1, k2, k3, k5, e, v⟩, F.sa, F.ex, F.ty, F.kc⟩
theorem xrow_cls {r : Str × Addr × List Value} (h : XRow K r) : ∃ cd, PySem.W.clsIn K r.2.1 = some cd ∧ cd.mro = .ref r.2.1 :: r.2.2 := by
  obtain ⟨_, _, nm, q, N, bs, sn, sub, ab, col, dd, k0, k1, k2, k3, k5, e⟩ := h
  refine ⟨_, by unfold PySem.W.clsIn; rw [e], rfl⟩
theorem xrow_mro {r : Str × Addr × List Value} (h : XRow K r) (b : Value) : PySem.W.mroIn K r.2.1 b = some ((Value.ref r.2.1 :: r.2.2).contains b) := by
  obtain ⟨cd, e, m⟩ := xrow_cls h
  unfold PySem.W.mroIn
  rw [e, Option.bind_some, m]
  rfl
/-- kX names c y: what isinstance says of an error of the class y asked for c -/
def kX (names : List Str) (c y : Str) : Option Bool := if y ∈ names then some (y == c || c == "KeyedError" || c == "ValueError") else none
theorem kit_row {r : Str × Addr × List Value} (h : XRow K r) (hD : (PySem.W.clsIn K D).isSome = true) (tD : PySem.W.typeIn K (.ref D) = some (.type "type")) : PySem.W.kitOne K (.ref r.2.1) (.ref D) = some (r.2.1 == D || r.2.2.contains (.ref D)) := by
  unfold PySem.W.kitOne
  by_cases e : r.2.1 = D
  · rw [if_pos (by rw [e]; exact beq_self_eq_true _), e]
    simp
  · rw [if_neg (by intro z; exact e (Value.ref.inj (beq_iff_eq.mp z)))]
    unfold PySem.W.kitCls
    dsimp only
    rw [hD, tD]
    show PySem.W.mroIn K r.2.1 (.ref D) = _
    rw [xrow_mro h, List.contains_cons]
    have : (Value.ref D == Value.ref r.2.1) = false := by
      rw [beq_eq_false_iff_ne]
      intro z
      exact e (Value.ref.inj z).symm
    rw [this, Bool.false_or]
    have : (r.2.1 == D) = false := by rw [beq_eq_false_iff_ne]; exact e
    rw [this, Bool.false_or]
def kitQ (rows : List (Str × Addr × List Value)) (c : Str) (D : Addr) : Bool := rows.all fun r => (r.2.1 == D || r.2.2.contains (.ref D)) == (r.1 == c || c == "KeyedError" || c == "ValueError")
theorem bt_ValueError : bootBuiltins "ValueError" = some (.type "ValueError") := by decide +kernel
theorem kit_ok {rows : List (Str × Addr × List Value)} {c : Str} (q : kitQ rows c D = true) (h : ∀ r ∈ rows, XRow K r) (hD : (PySem.W.clsIn K D).isSome = true) (tD : PySem.W.typeIn K (.ref D) = some (.type "type")) (y : Str) (b : Bool) (C : Addr) (e : kX (rows.map (·.1)) c y = some b)
    (a : PySem.W.nsIn K mainGlobals y = some (some (.ref C))) : PySem.W.kitOne K (.ref C) (.ref D) = some b := by
  unfold kX at e
  split at e
  · rename_i hm
    obtain ⟨r, hr, rfl⟩ := List.mem_map.mp hm
    have hx := h r hr
    obtain rfl : r.2.1 = C := by
      have z := hx.1.symm.trans a
      cases z; rfl
    rw [kit_row hx hD tD]
    have z := List.all_eq_true.mp q r hr
    rw [beq_iff_eq.mp z, e]
  · cases e
theorem kit_ve {rows : List (Str × Addr × List Value)} (h : ∀ r ∈ rows, XRow K r) (y : Str) (b : Bool) (C : Addr) (e : kX (rows.map (·.1)) "ValueError" y = some b)
    (a : PySem.W.nsIn K mainGlobals y = some (some (.ref C))) : PySem.W.kitOne K (.ref C) (.type "ValueError") = some b := by
  unfold kX at e
  split at e
  · rename_i hm
    obtain ⟨r, hr, rfl⟩ := List.mem_map.mp hm
    have hx := h r hr
    obtain rfl : r.2.1 = C := by
      have z := hx.1.symm.trans a
      cases z; rfl
    unfold PySem.W.kitOne
    rw [if_neg (by intro z; cases beq_iff_eq.mp z)]
    unfold PySem.W.kitCls
    dsimp only
    have km : PySem.W.kitMeta "ValueError" = true := by decide +kernel
    rw [if_pos km]
    show PySem.W.mroIn K r.2.1 _ = _
    rw [xrow_mro hx, List.contains_cons, PySem.HandSPX.refsVE_contains "ValueError" _ hx.2.1, ← e]
    simp
  · cases e
end
end DS
namespace DS
open PySem PySem.Spec PyProof.Rows L2
def leS (a b : Str) : Bool := !ltCps b.cps.toList a.cps.toList
theorem leS_iff {a b : Str} : leS a b = true ↔ ¬ b.cps.toList < a.cps.toList := by
  unfold leS
  rw [ltCps_eq]
  simp
theorem leS_trans {a b c : Str} (h : leS a b = true) (k : leS b c = true) : leS a c = true := by
  rw [leS_iff] at *
  exact List.not_lt.mpr (List.le_trans (List.not_lt.mp h) (List.not_lt.mp k))
theorem leS_anti {a b : Str} (h : leS a b = true) (k : leS b a = true) : a = b := by
  rw [leS_iff] at *
  have e : a.cps.toList = b.cps.toList := List.le_antisymm (List.not_lt.mp h) (List.not_lt.mp k)
  obtain ⟨⟨a⟩⟩ := a
  obtain ⟨⟨b⟩⟩ := b
  simp only at e
  rw [e]
theorem leS_total (a b : Str) : leS a b = true ∨ leS b a = true := by
  rw [leS_iff, leS_iff]
  rcases List.le_total a.cps.toList b.cps.toList with h | h
  · exact .inl (List.not_lt.mpr h)
  · exact .inr (List.not_lt.mpr h)
def intsD : List SD → Option (List Int)
  | [] => some []
  | .int x :: r => (match intsD r with
    | some l => some (x :: l)
    | none => none)
  | _ :: _ => none
theorem intsD_map : ∀ (l : List Int), intsD (l.map SD.int) = some l
  | [] => rfl
  | x :: r => by rw [List.map_cons, intsD, intsD_map r]
theorem intsD_of : ∀ {ds : List SD} {l : List Int}, intsD ds = some l → ds = l.map SD.int
  | [], l, h => by cases h; rfl
  | .int x :: r, l, h => by
    rw [intsD] at h
    cases e : intsD r with
    | none => rw [e] at h; cases h
    | some k => rw [e] at h; cases h; rw [intsD_of e]; rfl
  | .non :: _, _, h => by cases h
  | .bl _ :: _, _, h => by cases h
  | .str _ :: _, _, h => by cases h
  | .ref _ :: _, _, h => by cases h
  | .ty _ :: _, _, h => by cases h
  | .tup _ :: _, _, h => by cases h
  | .lst _ :: _, _, h => by cases h
  | .dic _ :: _, _, h => by cases h
  | .rol _ :: _, _, h => by cases h
  | .exc _ _ :: _, _, h => by cases h
  | .ptp _ :: _, _, h => by cases h
def drSum : DRc := fun ds μ Q => match ds with
  | [d] => isTup d = false ∧ (match seqD μ d with
    | some xs => (match intsD xs with
      | some l => Q (.int l.sum) μ
      | none => False)
    | none => False)
  | _ => False
theorem lc_sum {K : PySem.W.Frag} : LRc K drSum (rSum K) := fun F H μ xs ds Q' Q R r t k => by
  unfold drSum at t
  split at t
  · rename_i d
    obtain ⟨nt, t⟩ := t
    cases e : seqD μ d with
    | none => rw [e] at t; exact t.elim
    | some zs =>
      rw [e] at t
      simp only at t
      cases e2 : intsD zs with
      | none => rw [e2] at t; exact t.elim
      | some l =>
        rw [e2] at t
        have el := intsD_of e2
        subst el
        match xs, r with
        | [v], .cons r1 .nil =>
          obtain ⟨a, vs, rfl, rl, hL | hT⟩ := R.seq r1 e
          · obtain rfl := rl.ints
            exact ⟨a, l, rfl, hL.2, k _ μ t _ _ _ (Stp.refl _ _ _) R (.int _)⟩
          · rw [nt] at hT; cases hT.1
  · exact t.elim
end DS
namespace DS
end DS
namespace DS
open PySem PySem.Spec PyProof.Rows L2
/-- what is known of an own class -/
structure OCls (K : PySem.W.Frag) (mg : Str → Option Value) (x : Str) where
  C : Addr
  m : mg x = some (.ref C)
  k : OcK K x C
section
variable {K : PySem.W.Frag} {F H : Hp} {μ : Mu} {p a : Addr} {x f : Str}
theorem OcK.one {C D : Addr} (a : OcK K x C) (b : OcK K x D) : C = D := by
  have z := a.at_.symm.trans b.at_
  cases z; rfl
end
section
variable {X : Cx} {x m f qual : Str} {st : Stmt} {ps : List Str} {k n : Nat} {e o : Expr} {es : List Expr} {te to tv : DTE} {t : DTA} {p pos apos pos' : Pos} {sp : DSp}
theorem HReal.obj {K : PySem.W.Frag} {mg : Str → Option Value} {F H : Hp} {μ : Mu} {a : Addr} {fs : List (Str × SD)} (R : HReal K F H μ) (D : OCls K mg x) (h : μ a = some (.obj x fs)) : ∃ dx vs, H a = some (.ins D.C dx vs) ∧ vs.map (·.1) = fs.map (·.1) ∧ RepL K F (fs.map (·.2)) (vs.map (·.2)) := by
  obtain ⟨_, o, ho, r⟩ := R.mus a _ h
  cases r with
  | obj c q r =>
    obtain rfl := c.one D.k
    exact ⟨_, _, ho, q, r⟩
end
end DS
namespace DS
open PySem PySem.Spec PyProof.Rows L2
def dmPopAt : DRm := fun d ds μ Q => match ds with
  | [.int i] => (match mlst μ d with
    | some (a, xs) => 0 ≤ i ∧ i < 2 ^ 62 ∧ (match xs[i.toNat]? with
      | some y => Q y (up μ a (.lst (xs.eraseIdx i.toNat)))
      | none => False)
    | none => False)
  | _ => False
theorem lm_popAt {K : PySem.W.Frag} : LRm K dmPopAt rPopAt := fun F H μ x xs d ds Q' Q R r rs t k => by
  unfold dmPopAt at t
  split at t
  · rename_i i
    cases rs with
    | cons r1 r2 =>
      cases r1
      cases r2
      cases e : mlst μ d with
      | none => simp only [e] at t
      | some p =>
        obtain ⟨a, ys⟩ := p
        simp only [e] at t
        obtain ⟨i0, i1, t⟩ := t
        cases e2 : ys[i.toNat]? with
        | none => simp only [e2] at t
        | some y =>
          simp only [e2] at t
          obtain ⟨rfl, hm, vs, ha, rl⟩ := R.mlst r e
          obtain ⟨w, h1, h2⟩ := rl.get e2
          have lt := (List.getElem?_eq_some_iff.mp e2).1
          have len := rl.length
          refine ⟨a, vs, i, i.toNat, w, rfl, rfl, ha, by omega, by omega, ?_, h1, k y _ t F _ w (Stp.put hm) (R.put hm (.lst (rl.eraseIdx _))) h2⟩
          have neg : ¬ i < 0 := by omega
          have inn : (decide (0 ≤ i) && decide (i < (vs.length : Int))) = true := by
            rw [Bool.and_eq_true, decide_eq_true_eq, decide_eq_true_eq]
            omega
          unfold seqIndex?
          simp only [if_neg neg]
          rw [if_pos inn]
  · exact t.elim
theorem zips_at {xs ys : List SD} {i : Nat} {d : SD} (h : (zips xs ys)[i]? = some d) : ∃ x y, xs[i]? = some x ∧ ys[i]? = some y ∧ d = .tup [x, y] := by
  unfold zips at h
  rw [List.getElem?_zipWith] at h
  cases e1 : xs[i]? with
  | none => rw [e1] at h; simp at h
  | some x =>
    cases e2 : ys[i]? with
    | none => rw [e1, e2] at h; simp at h
    | some y => rw [e1, e2] at h; cases h; exact ⟨x, y, rfl, rfl, rfl⟩
theorem zips_len {xs ys : List SD} : (zips xs ys).length = min xs.length ys.length := by
  unfold zips
  exact List.length_zipWith
section
variable {K : PySem.W.Frag} {F0 H0 : Hp} {μ0 : Mu} {a b : Addr} {xs ys : List SD} {ok : Mu → Prop}
theorem pair_new {F H : Hp} {μ : Mu} {T : Addr} {x y : V} {dx dy : SD} (R : HReal K F H μ) (hT : H T = none) (rx : RepS K F dx x) (ry : RepS K F dy y) :
    ∃ F', Stp F H μ F' (upd H T (.tup [x, y])) μ ∧ HReal K F' (upd H T (.tup [x, y])) μ ∧ RepS K F' (.tup [dx, dy]) (.ref T) := by
  have ex : Ext F (upd F T (.tup [x, y])) := Ext.new (R.freeF hT)
  exact ⟨_, Stp.newS R hT, R.newS hT, .tup (.inl (.inl upd_same)) (.cons (rx.mono ex) (.one (ry.mono ex)))⟩
theorem src_zipL (h : ∀ (F H : Hp) (μ : Mu), Stp F0 H0 μ0 F H μ → HReal K F H μ → ok μ → ∃ vs us, SqL K H a vs ∧ RepL K F xs vs ∧ SqL K H b us ∧ RepL K F ys us) : Src K F0 H0 μ0 (Itz K a b) (zips xs ys) ok where
  go := fun i F H μ e R k hi => by
    obtain ⟨vs, us, h1, h2, h3, h4⟩ := h F H μ e R k
    rw [zips_len] at hi
    have l1 := h2.length
    have l2 := h4.length
    exact ⟨vs, us, vs[i]'(by omega), us[i]'(by omega), h1, h3, List.getElem?_eq_getElem _, List.getElem?_eq_getElem _⟩
  stop := fun F H μ e R k => by
    obtain ⟨vs, us, h1, h2, h3, h4⟩ := h F H μ e R k
    have l1 := h2.length
    have l2 := h4.length
    refine ⟨vs, us, h1, h3, ?_⟩
    rw [zips_len]
    omega
  yld := fun i F H μ x H' e R k y d hd => by
    obtain ⟨vs, us, h1, h2, h3, h4⟩ := h F H μ e R k
    obtain ⟨T, x1, y1, rfl, hT, rfl, ya, yb⟩ := y
    obtain ⟨dx, dy, e1, e2, rfl⟩ := zips_at hd
    obtain ⟨v1, g1, r1⟩ := h2.get e1
    obtain ⟨v2, g2, r2⟩ := h4.get e2
    have z1 := (ya vs h1).symm.trans g1
    have z2 := (yb us h3).symm.trans g2
    cases z1; cases z2
    exact pair_new R hT r1 r2
theorem src_zipT (h : ∀ (F H : Hp) (μ : Mu), Stp F0 H0 μ0 F H μ → HReal K F H μ → ok μ → ∃ vs us, SqT K H a vs ∧ RepL K F xs vs ∧ SqT K H b us ∧ RepL K F ys us) : Src K F0 H0 μ0 (RZ.ItzT K a b) (zips xs ys) ok where
  go := fun i F H μ e R k hi => by
    obtain ⟨vs, us, h1, h2, h3, h4⟩ := h F H μ e R k
    rw [zips_len] at hi
    have l1 := h2.length
    have l2 := h4.length
    exact ⟨vs, us, vs[i]'(by omega), us[i]'(by omega), h1, h3, List.getElem?_eq_getElem _, List.getElem?_eq_getElem _⟩
  stop := fun F H μ e R k => by
    obtain ⟨vs, us, h1, h2, h3, h4⟩ := h F H μ e R k
    have l1 := h2.length
    have l2 := h4.length
    refine ⟨vs, us, h1, h3, ?_⟩
    rw [zips_len]
    omega
  yld := fun i F H μ x H' e R k y d hd => by
    obtain ⟨vs, us, h1, h2, h3, h4⟩ := h F H μ e R k
    obtain ⟨T, x1, y1, rfl, hT, rfl, ya, yb⟩ := y
    obtain ⟨dx, dy, e1, e2, rfl⟩ := zips_at hd
    obtain ⟨v1, g1, r1⟩ := h2.get e1
    obtain ⟨v2, g2, r2⟩ := h4.get e2
    have z1 := (ya vs h1).symm.trans g1
    have z2 := (yb us h3).symm.trans g2
    cases z1; cases z2
    exact pair_new R hT r1 r2
end
section
variable {X : Cx} {e e2 : Expr} {ta : DTA} {p pos tpos : Pos} {elts : List Expr} {kk : Nat}
theorem di_zip (hg : Gl X "zip") (hm : X.mg "zip" = none) (ha : DA X [e, e2] ta) (hs : starEach [e, e2] X.env = (false, eval e X.env) :: starEach [e2] X.env := by rfl) (hpl : (backTo pos (starEach [e2] X.env)).any (·.1) = false := by rfl) :
    DI X (.Tuple elts kk tpos) (.Call (.Name "zip" p) [e, e2] [] pos) (jZip ta) := weakI (RZ.pi_zipA hg hm ha hs hpl) fun σ H R h => by
  obtain ⟨F, ρ, μ, Q', R0, S, t, k⟩ := h
  refine ⟨F, ρ, μ, _, R0, S, t, fun ds μ1 t1 F1 H1 vs s1 R1 r1 => ?_⟩
  match ds, r1, t1 with
  | [], _, t1 => exact t1.elim
  | [_], _, t1 => exact t1.elim
  | _ :: _ :: _ :: _, _, t1 => exact t1.elim
  | [d, f], .cons ra (.cons rb .nil), t1 =>
    obtain ⟨same, t1⟩ := (show isTup d = isTup f ∧ _ from t1)
    cases e1 : seqD μ1 d with
    | none => rw [e1] at t1; exact t1.elim
    | some xs =>
      cases e3 : seqD μ1 f with
      | none => rw [e1, e3] at t1; exact t1.elim
      | some ys =>
        rw [e1, e3] at t1
        obtain ⟨a, va, rfl, rl, c1⟩ := R1.seq ra e1
        obtain ⟨b, vb, rfl, rm, c2⟩ := R1.seq rb e3
        refine ⟨a, b, va, vb, rfl, ?_⟩
        rcases c1 with ⟨n1, q1⟩ | ⟨n1, q1⟩
        · rcases c2 with ⟨n2, q2⟩ | ⟨n2, q2⟩
          · refine .inl ⟨q1, q2, k _ _ _ t1 F1 H1 _ s1 R1 (src_zipL fun F2 H2 μ2 s2 R2 ok => ?_)⟩
            obtain ⟨a', v1, z1, r1, g1⟩ := R2.seq (ra.mono s2.ext) ok.1
            obtain ⟨b', v2, z2, r2, g2⟩ := R2.seq (rb.mono s2.ext) ok.2
            cases z1; cases z2
            rcases g1 with g1 | g1
            · rcases g2 with g2 | g2
              · exact ⟨v1, v2, g1.2, r1, g2.2, r2⟩
              · rw [n2] at g2; cases g2.1
            · rw [n1] at g1; cases g1.1
          · rw [n1, n2] at same; cases same
        · rcases c2 with ⟨n2, q2⟩ | ⟨n2, q2⟩
          · rw [n1, n2] at same; cases same
          · refine .inr ⟨q1, q2, k _ _ _ t1 F1 H1 _ s1 R1 (src_zipT fun F2 H2 μ2 s2 R2 ok => ?_)⟩
            obtain ⟨a', v1, z1, r1, g1⟩ := R2.seq (ra.mono s2.ext) ok.1
            obtain ⟨b', v2, z2, r2, g2⟩ := R2.seq (rb.mono s2.ext) ok.2
            cases z1; cases z2
            rcases g1 with g1 | g1
            · rw [n1] at g1; cases g1.1
            · rcases g2 with g2 | g2
              · rw [n2] at g2; cases g2.1
              · exact ⟨v1, v2, g1.2, r1, g2.2, r2⟩
end
section
variable {X : Cx} {o e : Expr} {to te : DTE} {apos cpos : Pos}
theorem de_popAt (ho : DE X o to) (ha : DE X e te) (hs : starEach [e] X.env = (false, eval e X.env) :: starEach [] X.env := by rfl) (hbase : attributeBase o "pop" X.env (eval o X.env) = eval o X.env := by rfl)
    (hfew : ((backTo cpos (starEach [e] X.env)).all (fun x => !x.1) && (backToKw cpos (keywordEach [] X.env)).all (fun x => x.1.isSome) && decide (([e] : List Expr).length + ([] : List Keyword).length + (if ([] : List Keyword).isEmpty then 0 else 1) < 30)) = true := by rfl)
    (hline : (apos.endLine == cpos.line) = true := by rfl) (hplain : (backTo cpos (starEach [] X.env)).any (·.1) = false := by rfl) :
    DE X (.Call (.Attribute o "pop" apos) [e] [] cpos) (dLM dmPopAt to (dCons te dNil)) := de_lm F.plainAttrs_list F.slot_list_pop F.type_list_pop mt_popAt lm_popAt ho (da_cons ha da_nil hs) hbase hfew hline hs hplain
end
end DS
namespace DS
open PySem PySem.Spec PyProof.Rows L2
def pairsD : List SD → Option (List (Key × SD))
  | [] => some []
  | d :: r => match d with
    | .tup [k, v] => (match keyD k, pairsD r with
      | some q, some l => some ((q, v) :: l)
      | _, _ => none)
    | _ => none
theorem pairsD_cons {d : SD} {r : List SD} {kvs : List (Key × SD)} (h : pairsD (d :: r) = some kvs) : ∃ k v q l, d = .tup [k, v] ∧ keyD k = some q ∧ pairsD r = some l ∧ kvs = (q, v) :: l := by
  cases d with
  | tup xs =>
    match xs, h with
    | [k, v], h =>
      have h : (match keyD k, pairsD r with
        | some q, some l => some ((q, v) :: l)
        | _, _ => none) = some kvs := h
      cases e1 : keyD k with
      | none => rw [e1] at h; cases h
      | some q =>
        cases e2 : pairsD r with
        | none => rw [e1, e2] at h; cases h
        | some l => rw [e1, e2] at h; cases h; exact ⟨k, v, q, l, rfl, e1, rfl, rfl⟩
    | [], h => cases h
    | [_], h => cases h
    | _ :: _ :: _ :: _, h => cases h
  | _ => cases h
theorem pairs_rep {K : PySem.W.Frag} {F H : Hp} (ex : Ext F H) : ∀ {xs : List SD} {vs : List V} {kvs : List (Key × SD)}, RepL K F xs vs → pairsD xs = some kvs →
    ∃ (ps : List Addr) (ws : List (Key × V)), vs = ps.map V.ref ∧ Paired (fun p kv => SqT K H p [kV kv.1, kv.2]) ps ws ∧ ws.map (·.1) = kvs.map (·.1) ∧ RepL K F (kvs.map (·.2)) (ws.map (·.2))
  | [], _, kvs, .nil, h => by cases h; exact ⟨[], [], rfl, .nil, rfl, .nil⟩
  | d :: xs, _, kvs, .cons r rs, h => by
    obtain ⟨k, v, q, l, rfl, e1, e2, rfl⟩ := pairsD_cons h
    obtain ⟨ps, ws, i1, i2, i3, i4⟩ := pairs_rep ex rs e2
    cases r with
    | tup hT rl =>
      cases rl with
      | cons ra rb => cases rb with
        | cons rb rc =>
          cases rc
          have ek := keyD_rep ra e1
          subst ek
          exact ⟨_ :: ps, (q, _) :: ws, by rw [i1]; rfl, .cons (ex.sqT hT) i2, by simp [i3], .cons rb i4⟩
def dAugI (g : Int → Int → Int) (i : Nat) (te : DTE) : DTS := fun D ρ μ => ∃ a, ρ[i]? = some (some (.int a)) ∧ te ρ μ fun y μ1 => match y with
  | .int b => D.nx (ρ.set i (some (.int (g a b)))) μ1
  | _ => False
section
variable {X : Cx} {x : Str} {e : Expr} {te : DTE} {i : Nat} {op : Operator} {g : Int → Int → Int} {pos pos' : Pos}
theorem ds_augI (hp : PIp X op (ipI g)) (hN : X.N.Nodup) (hi : X.N[i]? = some x) (hx : Loc X.env.scope x) (he : DE X e te) (hf : X.fn x = true ∨ X.env.scope.names.lookup x = some .local := by first | exact .inl rfl | exact .inr rfl | assumption) :
    DS_ X (.AugAssign (.Name x pos') op e pos) (dAugI g i te) := weakS (ps_aug hN hi hx he hp hf) fun D σ H h => by
  obtain ⟨F, ρ, μ, D', R, S, ⟨a, ea, t⟩, k, _⟩ := h
  obtain ⟨v, e1, r1⟩ := S.at_ _ _ ea
  cases r1
  refine ⟨.int a, e1, F, ρ, μ, _, R, S, t, fun d μ1 t1 F1 H1 w s1 R1 r1 => ?_⟩
  cases r1 with
  | int b => exact ⟨a, b, rfl, rfl, k _ μ1 t1 F1 H1 _ s1 R1 ((S.mono s1.ext).set i (.int _))⟩
  | _ => exact t1.elim
end
end DS
namespace DS
open PySem PySem.Spec PyProof.Rows L2
def EsAre : List DictEntry → List (Str × Int) → Prop
  | [], [] => True
  | e :: r, (k, i) :: s => (∃ t, e.key = .str k t) ∧ (∃ t, e.val = .int i t) ∧ EsAre r s
  | _, _ => False
structure GDic (K : PySem.W.Frag) (wp : Params) (mg : Str → Option Value) (x : Str) (kvs : List (Str × Int)) where
  a : Addr
  m : mg x = some (.ref a)
  low : (a == sysModules) = false
  ex : ∃ es n, K.lookup a = some ⟨.type "dict", none, .dict es n, #[]⟩ ∧ PySem.W.KeysLit wp es.toList ∧ EsAre es.toList kvs
theorem es_find {z : Str} : ∀ {l : List DictEntry} {kvs : List (Str × Int)}, EsAre l kvs → (∀ i, kvs.lookup z = some i → ∃ e t, l.find? (·.key.isStr z) = some e ∧ e.val = .int i t) ∧ (kvs.lookup z = none → l.find? (·.key.isStr z) = none) ∧ l.any (·.refKey) = false
  | [], [], _ => ⟨(fun i h => by cases h), (fun _ => rfl), rfl⟩
  | [], _ :: _, h => h.elim
  | _ :: _, [], h => h.elim
  | e :: r, (k, i) :: s, h => by
    obtain ⟨⟨t, hk⟩, ⟨u, hv⟩, hr⟩ := h
    obtain ⟨i1, i2, i3⟩ := es_find (z := z) hr
    have key : e.key.isStr z = (z == k) := by
      rw [hk]
      show (k == z) = (z == k)
      exact Bool.eq_iff_iff.mpr ⟨fun q => beq_iff_eq.mpr (beq_iff_eq.mp q).symm, fun q => beq_iff_eq.mpr (beq_iff_eq.mp q).symm⟩
    have nr : e.refKey = false := by
      unfold DictEntry.refKey
      rw [hk]
    refine ⟨fun j hj => ?_, fun hn => ?_, by rw [List.any_cons, nr, i3]; rfl⟩
    · rw [List.lookup_cons] at hj
      rw [List.find?_cons, key]
      cases q : (z == k) with
      | true =>
        rw [q] at hj
        cases hj
        exact ⟨e, u, rfl, hv⟩
      | false =>
        rw [q] at hj
        exact i1 j hj
    · rw [List.lookup_cons] at hn
      rw [List.find?_cons, key]
      cases q : (z == k) with
      | true => rw [q] at hn; cases hn
      | false =>
        rw [q] at hn
        exact i2 hn
section
variable {K : PySem.W.Frag} {wp : Params} {mg : Str → Option Value} {x : Str} {kvs : List (Str × Int)}
theorem GDic.at_ (D : GDic K wp mg x kvs) (z : Str) : (∀ i, kvs.lookup z = some i → ∃ t, PySem.W.nsIn K D.a z = some (some (.int i t))) ∧ (kvs.lookup z = none → PySem.W.nsIn K D.a z = some none) := by
  obtain ⟨es, n, lk, _, ok⟩ := D.ex
  obtain ⟨i1, i2, i3⟩ := es_find (z := z) ok
  refine ⟨fun i h => ?_, fun h => ?_⟩
  · obtain ⟨e, t, e1, e2⟩ := i1 i h
    refine ⟨t, ?_⟩
    unfold PySem.W.nsIn
    rw [lk]
    simp only
    rw [e1]
    simp only
    rw [e2]
  · unfold PySem.W.nsIn
    rw [lk]
    simp only
    rw [i2 h]
    simp only
    rw [i3]
    rfl
end
section
variable {X : Cx} {x : Str} {kvs : List (Str × Int)} {e : Expr} {te : TE} {td : DTE} {p pos : Pos}
theorem GDic.hit (D : GDic X.K X.w.params X.mg x kvs) (z : Str) : ∃ r : Option Value, PySem.W.nsIn X.K D.a z = some r ∧ r.isSome = (kvs.lookup z).isSome := by
  obtain ⟨h1, h2⟩ := D.at_ z
  cases e : kvs.lookup z with
  | none => exact ⟨none, h2 e, rfl⟩
  | some i =>
    obtain ⟨t, q⟩ := h1 i e
    exact ⟨_, q, rfl⟩
end
end DS
namespace DS
end DS
namespace DS
end DS
namespace DS
end DS
namespace DS
end DS
namespace DS
end DS
namespace DS
end DS
namespace DS
end DS
namespace DS
open PySem PySem.Spec PyProof.Rows L2
section
variable {X : Cx} {K : PySem.W.Frag} {F H : Hp} {μ : Mu}
/-- each row of the one looked up in the other -/
inductive HitsV (K : PySem.W.Frag) (H : Hp) (ls : List (Key × V)) : List (Key × V) → Bool → Prop
  | nil : HitsV K H ls [] true
  | miss {k : Key} {v : V} {r : List (Key × V)} : valV ls k = none → HitsV K H ls ((k, v) :: r) false
  | hit {k : Key} {v u : V} {p q : PyData} {r : List (Key × V)} {b : Bool} : valV ls k = some u → Dp K H v p → Dp K H u q → SeqAt.shaped p = true → SeqAt.shaped q = true → HitsV K H ls r b → HitsV K H ls ((k, v) :: r) (PyData.eqv p q && b)
theorem HitsV.run {pins : List (Addr × Obj)} {σ : L2.St} {s : Shared} {A : Around} (I : Inv X pins σ H s) (hu : A.in1.units + 64 < cLine) {ls : List (Key × V)} {vb : List (Key × Value)} (rb : KV ls vb) {ks : List (Key × V)} {b : Bool} (h : HitsV X.K H ls ks b) :
    ∀ {va : List (Key × Value)}, KV ks va → PySem.W.KeqHits A.in1 s vb va b := by
  induction h with
  | nil => intro va ra; cases ra; exact .nil
  | @miss k v r hn =>
    intro va ra
    cases ra with
    | @cons _ y _ _ a b =>
      obtain ⟨h1, h2⟩ := a
      obtain ⟨key, v2⟩ := y
      have h1' : k = key := h1
      subst h1'
      have rr : RelO none (valueAt vb k) := by rw [← hn]; exact rb.val k
      refine .miss ?_
      cases e : valueAt vb k with
      | none => rfl
      | some z => rw [e] at rr; exact rr.elim
  | @hit k v u p q r b hy hp hq sp sq _ ih =>
    intro va ra
    cases ra with
    | @cons _ y _ _ a b =>
      obtain ⟨h1, h2⟩ := a
      obtain ⟨key, v2⟩ := y
      have h1' : k = key := h1
      subst h1'
      have rr : RelO (some u) (valueAt vb k) := by rw [← hy]; exact rb.val k
      obtain ⟨y, e, ry⟩ := rr.some_of
      obtain ⟨as, r1⟩ := Dp.reads I p _ _ hp h2
      obtain ⟨bs, r2⟩ := Dp.reads I q _ _ hq ry
      exact .hit e (PySem.W.keq_at r1 r2 sp sq hu) (ih b)
end
end DS
namespace DS
end DS
namespace DS
end DS
namespace DS
end DS
namespace DS
end DS
namespace DS
end DS
namespace DS
end DS
namespace DS
open PySem PySem.Spec PyProof.Rows L2
/-- no more is told of it than that it is a tuple -/
def fgT : SD → SD
  | .ptp xs => .tup xs
  | d => d
theorem fgT_rep {K : PySem.W.Frag} {F : Hp} {d : SD} {v : V} (r : RepS K F d v) : RepS K F (fgT d) v := by
  cases r with
  | ptp h q r => exact .tup (.inl (.inr ⟨_, h⟩)) r
  | non => exact .non
  | bl => exact .bl _
  | int => exact .int _
  | str => exact .str _
  | ref => exact .ref _
  | ty => exact .ty _
  | tup a b => exact .tup a b
  | lst a b => exact .lst a b
  | rol a b => exact .rol a b
  | dic a b c => exact .dic a b c
  | exc0 a b => exact .exc0 a b
  | exc a b c z r => exact .exc a b c z r
abbrev dFg (te : DTE) : DTE := fun ρ μ Q => te ρ μ fun d μ1 => Q (fgT d) μ1
theorem de_fg {X : Cx} {e : Expr} {te : DTE} (h : DE X e te) : DE X e (dFg te) := weakE h fun σ H Q h => by
  obtain ⟨F, ρ, μ, Q', R, S, t, k⟩ := h
  exact ⟨F, ρ, μ, _, R, S, t, fun d μ1 t1 F1 H1 v s1 R1 r1 => k _ μ1 t1 F1 H1 v s1 R1 (fgT_rep r1)⟩
def rTupleP (K : PySem.W.Frag) : List V → Hp → VK → Prop := fun xs H Q => ∃ p ys, xs = [.ref p] ∧ SqL K H p ys ∧ ∀ (l : Addr) (o : Obj), H l = none → o.dict = none → Q (.ref l) (upd H l (.frz o (.tup ys)))
theorem call_tupleP {X : Cx} : CallR X (.type "tuple") (rTupleP X.K) := by
  rintro pins s σ H _ us Q I r ⟨p, ys, rfl, hq, q⟩
  obtain ⟨u, rfl, rx⟩ := vals1 r
  cases rx
  obtain ⟨its, r', pl, hz⟩ := I.list hq
  have hlen := r'.length
  refine call_tuple_list pl.isList (fun h1 kp => ?_) (by simp only [List.size_toArray] <;> omega)
  have I1 : Inv X pins σ H { s with heap := h1 } := I.kept (t' := s.toks) kp
  have new : ObjOk X.prog X.w (upd H h1.objs.size (.frz { cls := .type "tuple", data := .seq its.toArray } (.tup ys))) (h1.push { cls := .type "tuple", data := .seq its.toArray }) h1.objs.size (.frz { cls := .type "tuple", data := .seq its.toArray } (.tup ys)) :=
    ⟨Heap.get?_push_size _ rfl, hz, its, r', IsTup.new _ _⟩
  exact ⟨.ref h1.objs.size, _, I1.laid (t' := s.toks) (fun b o e => Heap.get?_push_of_some _ e) (Nat.le_refl _) new, rfl, q _ _ (I1.hok.fresh (Nat.le_refl _)) rfl⟩
def drTupleP : DRc := fun ds μ Q => match ds with
  | [d] => isTup d = false ∧ (match seqD μ d with
    | some xs => Q (.ptp xs) μ
    | none => False)
  | _ => False
theorem lc_tupleP {K : PySem.W.Frag} : LRc K drTupleP (rTupleP K) := fun F H μ xs ds Q' Q R r t k => by
  unfold drTupleP at t
  split at t
  · rename_i d
    obtain ⟨nt, t⟩ := t
    cases e : seqD μ d with
    | none => rw [e] at t; exact t.elim
    | some zs =>
      rw [e] at t
      simp only at t
      match xs, r with
      | [v], .cons r1 .nil =>
        obtain ⟨a, vs, rfl, rl, hL | hT⟩ := R.seq r1 e
        · exact ⟨a, vs, rfl, hL.2, fun l o hl ho => k _ _ t _ _ _ (Stp.newS R hl) (R.newS hl) (.ptp upd_same ho (rl.mono (Ext.new (R.freeF hl))))⟩
        · rw [nt] at hT; cases hT.1
  · exact t.elim
def tTupP (ta : TA) : TE := fun σ H Q => ta σ H fun xs H1 => xs.length ≤ sizeLine ∧ ∀ (p : Addr) (o : Obj), H1 p = none → o.dict = none → Q (.ref p) (upd H1 p (.frz o (.tup xs)))
section
variable {X : Cx} {es : List Expr} {pos : Pos}
theorem pe_tupP {ta : TA} {x1} (h : PA X es ta) : PE X (.Tuple es x1 pos) (tTupP ta) := by
  refine ⟨fun pins s σ H Q I hq => wpAny_Tuple_spliced (thn (h.run pos pins s σ H _ I hq) fun us s1 ⟨xs, H1, I1, r, z, q⟩ => ⟨by rw [← r.length]; exact z, ?_⟩)⟩
  have new : ObjOk X.prog X.w (upd H1 s1.heap.objs.size (.frz { cls := .type "tuple", data := .seq us.toArray } (.tup xs))) (s1.heap.push { cls := .type "tuple", data := .seq us.toArray }) s1.heap.objs.size (.frz { cls := .type "tuple", data := .seq us.toArray } (.tup xs)) :=
    ⟨Heap.get?_push_size _ rfl, z, us, r, ⟨_, Heap.get?_push_size _ rfl, rfl, _, rfl⟩⟩
  exact ⟨.ref s1.heap.objs.size, _, I1.laid (t' := s1.toks) (fun b u e => Heap.get?_push_of_some _ e) (Nat.le_refl _) new, rfl, q _ _ (I1.hok.fresh (Nat.le_refl _)) rfl⟩
abbrev dTupP (t : DTA) : DTE := fun ρ μ Q => t ρ μ fun xs μ1 => xs.length ≤ sizeLine ∧ Q (.ptp xs) μ1
theorem de_tupP {t : DTA} {x1} (h : DA X es t) : DE X (.Tuple es x1 pos) (dTupP t) := weakE (pe_tupP h) fun σ H Q h => by
  obtain ⟨F, ρ, μ, Q', R, S, t, k⟩ := h
  refine ⟨F, ρ, μ, _, R, S, t, fun ds μ1 t1 F1 H1 vs s1 R1 r1 => ⟨by rw [← r1.length]; exact t1.1, fun p o hp ho => ?_⟩⟩
  exact k _ μ1 t1.2 _ _ _ (s1.trans (Stp.newS R1 hp)) (R1.newS hp) (.ptp upd_same ho (r1.mono (Ext.new (R1.freeF hp))))
end
theorem pick_all {α β : Type} {P : Nat → α → β → Prop} : ∀ {l : List α} {n : Nat}, (∀ j a, l[j]? = some a → ∃ b, P (n + j) a b) → ∃ m : List β, m.length = l.length ∧ ∀ j b, m[j]? = some b → ∃ a, l[j]? = some a ∧ P (n + j) a b
  | [], _, _ => ⟨[], rfl, fun j b e => by simp at e⟩
  | a :: l, n, h => by
    obtain ⟨b, hb⟩ := h 0 a rfl
    obtain ⟨m, hm, hp⟩ := pick_all (l := l) (n := n + 1) (P := P) fun j a e => by
      obtain ⟨b, hb⟩ := h (j + 1) a (by simpa using e)
      exact ⟨b, by rw [show n + 1 + j = n + (j + 1) by omega]; exact hb⟩
    refine ⟨b :: m, by rw [List.length_cons, List.length_cons, hm], fun j b' e => ?_⟩
    cases j with
    | zero => cases (show some b = some b' from e); exact ⟨a, rfl, hb⟩
    | succ j =>
      obtain ⟨a', h1, h2⟩ := hp j b' (by simpa using e)
      exact ⟨a', by simpa using h1, by rw [show n + (j + 1) = n + 1 + j by omega]; exact h2⟩
def rDictT (K : PySem.W.Frag) : List V → Hp → VK → Prop := fun xs H Q => ∃ (a : Addr) (o : Obj) (ps : List Addr) (kvs : List (Key × V)), xs = [.ref a] ∧ H a = some (.frz o (.tup (ps.map V.ref))) ∧ o.dict = none ∧ Paired (fun p kv => SqT K H p [kV kv.1, kv.2]) ps kvs ∧
  ∀ p, H p = none → Q (.ref p) (upd H p (.dK (mergeK [] kvs)))
theorem call_dictT {X : Cx} (hcalm : X.calm = true) : CallR X (.type "dict") (rDictT X.K) := by
  rintro pins s σ H _ us Q I r ⟨a, o, ps, kvs, rfl, ha, hd, hp, q⟩
  obtain ⟨u, rfl, rx⟩ := vals1 r
  cases rx
  obtain ⟨ho, z, its, rv, o', ho', hc, n, hdat⟩ := I.hok a _ ha
  rw [ho] at ho'
  cases ho'
  cases refs_at rv
  rw [List.length_map] at z
  obtain ⟨prs, rel, hl, hpr⟩ := pairs_of I hp
  obtain ⟨m, hm, mp⟩ := pick_all (l := prs) (n := 0) (β := Value × Value) (P := fun j q b => b.2 = q.2 ∧ ∃ T, ps[j]? = some T ∧ IsTup s.heap T #[b.1, b.2] ∧ keyIs q.1 b.1 = true) fun j q e => by
    obtain ⟨b, u, e1, e2, e3⟩ := hpr j q e
    exact ⟨(u, q.2), rfl, b, by rw [Nat.zero_add]; exact e1, e2, e3⟩
  have ml : m.length = ps.length := hm.trans hl
  have ar : PairItems s.heap (ps.map Value.ref).toArray (fun j => (ps[j]?).getD 0) m := by
    refine ⟨by simp [ml], fun j k v e => ?_⟩
    obtain ⟨q, _, _, T, h1, h2, _⟩ := mp j _ e
    rw [Nat.zero_add] at h1
    refine ⟨by simp [h1], .inl ?_⟩
    show s.heap.IsTuple ((ps[j]?).getD 0) #[k, v]
    rw [h1]
    exact h2
  refine PySem.call_dict_pairs (knd := mixKind X.prog X.w) (kvs := prs) (PairArg.tuple a (ps.map Value.ref).toArray (fun j => (ps[j]?).getD 0) m) (I.ok.hd hcalm) ⟨⟨o, n, ho, hc, hd, hdat⟩, ar⟩ ⟨hm.symm, fun i key v e => ?_⟩ (by rw [ml]; exact z) fun h1 tk hd' k => ?_
  · obtain ⟨q, e1, e2, T, _, _, e3⟩ := mp i _ e
    exact ⟨q.1, by rw [e1]; dsimp only at e2; rw [e2], e3⟩
  · have hm : (s.heap.objs.size == sysModules) = false := beq_eq_false_iff_ne.mpr (Nat.ne_of_gt I.big)
    have hlen : (mergeK [] kvs).length ≤ sizeLine := by
      refine Nat.le_trans (length_mergeK kvs []) ?_
      rw [List.length_nil, Nat.zero_add, rel.length, hl]
      exact z
    have new : ObjOk X.prog X.w (upd H s.heap.objs.size (.dK (mergeK [] kvs))) h1 s.heap.objs.size (.dK (mergeK [] kvs)) := ⟨hlen, hm, merged [] prs, KV.merge rel .nil, hd'⟩
    exact ⟨.ref s.heap.objs.size, _, I.laid (t' := tk) (fun b o e => k b o (fun z => nomatch z) e) (Nat.le_refl _) new, rfl, q _ (I.hok.fresh (Nat.le_refl _))⟩
def drDictT : DRc := fun ds μ Q => match ds with
  | [.ptp xs] => (match pairsD xs with
    | some kvs => ∀ p, μ p = none → Q (.ref p) (up μ p (.dic (mergeD [] kvs)))
    | none => False)
  | _ => False
theorem lc_dictT {K : PySem.W.Frag} : LRc K drDictT (rDictT K) := fun F H μ xs ds Q' Q R r t k => by
  unfold drDictT at t
  split at t
  · rename_i zs
    cases e2 : pairsD zs with
    | none => rw [e2] at t; exact t.elim
    | some kvs =>
      rw [e2] at t
      match xs, r with
      | [_], .cons (.ptp (a := a) (o := o) (vs := vs) h hd rl) .nil =>
        obtain ⟨ps, ws, rfl, i2, i3, i4⟩ := pairs_rep R.ext rl e2
        refine ⟨a, o, ps, ws, rfl, R.sub _ _ h, hd, i2, fun p hp => ?_⟩
        have m := RepK.merge (kvs := []) (vs := []) ⟨rfl, .nil⟩ (⟨i3, i4⟩ : RepK K F kvs ws)
        exact k _ _ (t p (R.freeM hp)) _ _ _ (Stp.newM R hp) (R.newM hp (.dic m.keys m.vals)) (.ref _)
  · exact t.elim
end DS
namespace DS
open PySem PySem.Spec PyProof.Rows L2
/-- pairs in order: by the text, then by the int -/
def leP (p q : Str × Int) : Bool := if p.1 = q.1 then decide (p.2 ≤ q.2) else leS p.1 q.1
theorem leP_total (p q : Str × Int) : leP p q = true ∨ leP q p = true := by
  unfold leP
  by_cases e : p.1 = q.1
  · rw [if_pos e, if_pos e.symm, decide_eq_true_eq, decide_eq_true_eq]; omega
  · rw [if_neg e, if_neg (Ne.symm e)]; exact leS_total _ _
theorem leP_anti {p q : Str × Int} (h : leP p q = true) (k : leP q p = true) : p = q := by
  unfold leP at h k
  by_cases e : p.1 = q.1
  · rw [if_pos e, decide_eq_true_eq] at h
    rw [if_pos e.symm, decide_eq_true_eq] at k
    exact Prod.ext e (by omega)
  · rw [if_neg e] at h
    rw [if_neg (Ne.symm e)] at k
    exact (e (leS_anti h k)).elim
theorem leP_trans {p q r : Str × Int} (h : leP p q = true) (k : leP q r = true) : leP p r = true := by
  unfold leP at *
  by_cases e : p.1 = q.1 <;> by_cases e2 : q.1 = r.1
  · rw [if_pos e, decide_eq_true_eq] at h
    rw [if_pos e2, decide_eq_true_eq] at k
    rw [if_pos (e.trans e2), decide_eq_true_eq]; omega
  · rw [if_neg e2] at k
    rw [if_neg (fun z => e2 (e.symm.trans z)), e]; exact k
  · rw [if_neg e] at h
    rw [if_neg (fun z => e (z.trans e2.symm)), ← e2]; exact h
  · rw [if_neg e] at h
    rw [if_neg e2] at k
    by_cases e3 : p.1 = r.1
    · rw [e3] at h; exact (e2 (leS_anti k h)).elim
    · rw [if_neg e3]; exact leS_trans h k
/-- the pairs in order -/
def srtP (l : List (Str × Int)) : List (Str × Int) := l.mergeSort leP
theorem srtP_perm (l : List (Str × Int)) : (srtP l).Perm l := List.mergeSort_perm l leP
theorem srtP_pw (l : List (Str × Int)) : (srtP l).Pairwise fun a b => leP a b = true :=
  List.pairwise_mergeSort (le := leP) (fun a b c => leP_trans) (fun a b => by rcases leP_total a b with h | h <;> simp [h]) l
theorem pwP_uniq : ∀ {ys zs : List (Str × Int)}, ys.Perm zs → (ys.Pairwise fun a b => leP a b = true) → (zs.Pairwise fun a b => leP a b = true) → ys = zs
  | [], zs, p, _, _ => (List.nil_perm.mp p).symm
  | y :: ys, [], p, _, _ => (List.perm_nil.mp p)
  | y :: ys, z :: zs, p, h, k => by
    have hy := List.pairwise_cons.mp h
    have hz := List.pairwise_cons.mp k
    have e : y = z := by
      have a : z ∈ y :: ys := p.mem_iff.mpr (List.mem_cons_self ..)
      have b : y ∈ z :: zs := p.mem_iff.mp (List.mem_cons_self ..)
      rcases List.mem_cons.mp a with a | a
      · exact a.symm
      · rcases List.mem_cons.mp b with b | b
        · exact b
        · exact leP_anti (hy.1 z a) (hz.1 y b)
    subst e
    rw [pwP_uniq (List.perm_cons y |>.mp p) hy.2 hz.2]
def IsSI (h : Heap) (v : Value) (p : Str × Int) : Prop := ∃ a o t u n, v = .ref a ∧ h.get? a = some o ∧ o.cls = .type "tuple" ∧ o.data = .seq #[.str p.1 t, .int p.2 u] n
theorem IsSI.keep {h h' : Heap} {v : Value} {p : Str × Int} (x : IsSI h v p) (k : ∀ b o, h.get? b = some o → o.cls = .type "tuple" → h'.get? b = some o) : IsSI h' v p := by
  obtain ⟨a, o, t, u, n, e, ho, hc, hd⟩ := x
  exact ⟨a, o, t, u, n, e, k _ _ ho hc, hc, hd⟩
theorem IsSI.uniq {h : Heap} {v : Value} {p q : Str × Int} (x : IsSI h v p) (y : IsSI h v q) : p = q := by
  obtain ⟨a, o, t, u, n, e, ho, hc, hd⟩ := x
  obtain ⟨a', o', t', u', n', e', ho', hc', hd'⟩ := y
  rw [e] at e'
  cases e'
  rw [ho] at ho'
  cases ho'
  rw [hd] at hd'
  injection hd' with h1 _
  have h2 := congrArg Array.toList h1
  injection h2 with h3 h4
  injection h3 with h3 _
  injection h4 with h4 _
  injection h4 with h4 _
  exact Prod.ext h3 h4
open Classical in
noncomputable def keySI (h : Heap) (v : Value) : Str × Int := if e : ∃ p, IsSI h v p then choose e else ("", 0)
theorem keySI_eq {h : Heap} {v : Value} {p : Str × Int} (x : IsSI h v p) : keySI h v = p := by
  unfold keySI
  rw [dif_pos ⟨p, x⟩]
  exact (Classical.choose_spec (⟨p, x⟩ : ∃ p, IsSI h v p)).uniq x
def ltP (p q : Str × Int) : Bool := !leP q p
theorem ltP_at {p q : Str × Int} : ltP p q = if p.1 = q.1 then decide (p.2 < q.2) else decide (p.1.cps.toList < q.1.cps.toList) := by
  unfold ltP leP
  by_cases e : p.1 = q.1
  · rw [if_pos e, if_pos e.symm]
    by_cases l : p.2 < q.2
    · rw [decide_eq_true l, decide_eq_false (by omega)]; rfl
    · rw [decide_eq_false l, decide_eq_true (by omega)]; rfl
  · rw [if_neg e, if_neg (Ne.symm e)]
    unfold leS
    rw [ltCps_eq, Bool.not_not]
theorem swoP (k : Value → Str × Int) : SrtO.Swo fun v u => ltP (k v) (k u) := by
  refine ⟨fun x y h => ?_, fun x y z h1 h2 => ?_⟩
  · unfold ltP at *
    have : leP (k y) (k x) = false := by simpa using h
    rcases leP_total (k y) (k x) with a | a
    · rw [a] at this; cases this
    · rw [a]; rfl
  · unfold ltP at *
    have a : leP (k x) (k y) = true := by simpa using h1
    have b : leP (k y) (k z) = true := by simpa using h2
    rw [leP_trans a b]; rfl
section
variable {prog : Program} {w : World} {A : Around} {s : Shared}
open SrtO in
theorem cmp_SI {vs : List Value} {k : Value → Str × Int} (hp : ∀ v ∈ vs, IsSI s.heap v (k v)) : Cmp prog w A s (tuples' true) (fun p => p.1 ∈ vs) (lt2 fun v u => ltP (k v) (k u)) := by
  intro p q hm hm'
  have h1 := hp _ hm
  have h2 := hp _ hm'
  show wpAny (model prog w) A (keyLt' (tuples' true) p.1 q.1) (fun r s' => s' = s ∧ r = ltP (k p.1) (k q.1)) (fun _ _ => False) s
  rw [ltP_at]
  generalize k p.1 = x at h1 ⊢
  generalize k q.1 = y at h2 ⊢
  obtain ⟨x1, x2⟩ := x
  obtain ⟨y1, y2⟩ := y
  obtain ⟨a, o, t, u, n, e, ho, hc, hd⟩ := h1
  obtain ⟨b, o', t', u', n', e', ho', hc', hd'⟩ := h2
  rw [e, e']
  dsimp only
  refine PySem.W.kat_lt ho hd ho' hd' ?_
  show PySem.W.KatLex prog w A true (decide (2 < 2)) _ [(.str x1 t, .str y1 t'), (.int x2 u, .int y2 u')] 0 s
  refine PySem.W.kat_cons (SeqAt.EqAt.str_str x1 t y1 t' prog w _ _ ?_)
  refine PySem.W.kat_go (fun e1 => PySem.W.kat_yes (PySem.W.kat_cons (SeqAt.EqAt.int_int x2 u y2 u' prog w _ _ ?_))) fun e1 => ?_
  · have ex : x1 = y1 := by simpa using e1
    rw [if_pos ex]
    refine PySem.W.kat_go (fun e2 => ?_) fun e2 => ?_
    · have ey : x2 = y2 := by simpa using e2
      exact PySem.W.kat_yes (PySem.W.kat_nil ⟨rfl, by rw [ey]; exact (decide_eq_false (Int.lt_irrefl _)).symm⟩)
    · exact PySem.W.kat_no (PySem.W.kat_one _ _ (PyProof.Rows.lt_int (show s = s ∧ decide (x2 < y2) = decide (x2 < y2) from ⟨rfl, rfl⟩)))
  · have ex : ¬ x1 = y1 := by simpa using e1
    rw [if_neg ex]
    exact PySem.W.kat_no (oneLt_str ⟨rfl, rfl⟩)
theorem heads_SI {h : Heap} : ∀ {vs : List Value}, (∀ v ∈ vs, ∃ p, IsSI h v p) → ∃ fs : List Value, PySem.W.KatTups h vs fs ∧ fs.length = vs.length ∧ ∀ f ∈ fs, ∃ x t, f = Value.str x t
  | [], _ => ⟨[], PySem.W.KatTups.nil, rfl, fun _ hm => by simp at hm⟩
  | v :: vs, hp => by
    obtain ⟨fs, h1, h2, h3⟩ := heads_SI (vs := vs) fun v' hm => hp v' (List.mem_cons_of_mem _ hm)
    obtain ⟨⟨x, y⟩, a, o, t, u, n, e, ho, hc, hd⟩ := hp v (List.mem_cons_self ..)
    subst e
    refine ⟨.str x t :: fs, PySem.W.KatTups.cons ho hc hd rfl h1, congrArg (· + 1) h2, fun f hm => ?_⟩
    rcases List.mem_cons.mp hm with rfl | hm
    · exact ⟨x, t, rfl⟩
    · exact h3 f hm
theorem sortable_SI {a : Addr} {vs : List Value} {k : Value → Str × Int} (h0 : 0 < vs.length) (hp : ∀ v ∈ vs, IsSI s.heap v (k v)) (ha : ∀ o, s.heap.get? a = some o → o.cls ≠ .type "tuple") : SrtO.SortableO prog w A s a vs fun v u => ltP (k v) (k u) := by
  intro h' keep
  have hp' : ∀ v ∈ vs, IsSI h' v (k v) := fun v hm => (hp v hm).keep fun b o e c => keep b o (fun z => ha o (z ▸ e) c) e
  obtain ⟨fs, h1, h2, h3⟩ := heads_SI fun v hm => ⟨_, hp' v hm⟩
  refine ⟨tuples' true, fun Q E hq => PySem.W.kat_kind (T := .type "str") h1 (by omega) (fun f hm => ?_) (by rfl) ?_, cmp_SI hp'⟩
  · obtain ⟨x, t, rfl⟩ := h3 f hm
    exact PySem.W.Looks.now
  · rw [show (Value.type "str" != Value.type "tuple") = true by first | decide +kernel | rfl | decide]
    exact hq
end
def siV (p : Str × Int) : List V := [.str p.1, .int p.2]
def rSortedSI (K : PySem.W.Frag) : List V → Hp → VK → Prop := fun vs H Q => ∃ (a : Addr) (ps : List Addr) (l : List (Str × Int)), vs = [V.ref a] ∧ SqL K H a (ps.map V.ref) ∧ Paired (fun b p => SqT K H b (siV p)) ps l ∧
  ∀ (p : Addr) (m : List (Addr × (Str × Int))), H p = none → (∀ x ∈ m, ∃ i : Nat, ps[i]? = some x.1 ∧ l[i]? = some x.2) → m.map (·.2) = srtP l → Q (.ref p) (upd H p (.lst (m.map fun x => V.ref x.1)))
section
variable {X : Cx}
theorem SI_of {pins : List (Addr × Obj)} {σ : L2.St} {H : Hp} {s : Shared} {b : Addr} {p : Str × Int} (I : Inv X pins σ H s) (h : SqT X.K H b (siV p)) : IsSI s.heap (.ref b) p := by
  obtain ⟨its, rv, ⟨o, ho, hc, n, hd⟩, _⟩ := I.tuple h
  obtain ⟨u, y, ei, ru, ry⟩ := vals2 rv
  subst ei
  obtain ⟨t, rfl⟩ := ru
  obtain ⟨t', rfl⟩ := ry
  exact ⟨b, o, t, t', n, rfl, ho, hc, hd⟩
theorem paired_at {α β : Type} {P : α → β → Prop} : ∀ {xs : List α} {ys : List β}, Paired P xs ys → ∀ {i : Nat} {x : α} {y : β}, xs[i]? = some x → ys[i]? = some y → P x y
  | _, _, .nil, _, _, _, h, _ => by simp at h
  | _, _, .cons p r, 0, _, _, h, k => by
    cases (show some _ = some _ from h)
    cases (show some _ = some _ from k)
    exact p
  | _, _, .cons p r, i + 1, _, _, h, k => paired_at r (i := i) (by simpa using h) (by simpa using k)
theorem paired_map {α β : Type} {P : α → β → Prop} {f : α → β} (h : ∀ x y, P x y → f x = y) : ∀ {xs : List α} {ys : List β}, Paired P xs ys → xs.map f = ys
  | _, _, .nil => rfl
  | _, _, .cons p r => by rw [List.map_cons, h _ _ p, paired_map h r]
theorem cr_sortedSI : CallR X (.builtin "sorted") (rSortedSI X.K) := by
  rintro pins s σ H _ us Q I r ⟨a, ps, l, rfl, hs, hf, q⟩
  obtain ⟨its, rv, hl, hz⟩ := I.list hs
  rw [Vals.ref1 r]
  cases refs_at rv
  have many : (ps.map Value.ref).length ≤ sizeLine := by rw [← rv.length]; exact hz
  let f : Addr → Str × Int := fun b => keySI s.heap (.ref b)
  have fl : ps.map f = l := paired_map (fun b p h => keySI_eq (SI_of I h)) hf
  have ix : ∀ b ∈ ps, ∃ i : Nat, ps[i]? = some b ∧ l[i]? = some (f b) := fun b hb => by
    obtain ⟨i, hi⟩ := List.getElem?_of_mem hb
    exact ⟨i, hi, by rw [← fl, List.getElem?_map, hi]; rfl⟩
  have sq : ∀ b ∈ ps, SqT X.K H b (siV (f b)) := fun b hb => by
    obtain ⟨i, h1, h2⟩ := ix b hb
    exact paired_at hf h1 h2
  have hk : ∀ v ∈ ps.map Value.ref, IsSI s.heap v (keySI s.heap v) := fun v hv => by
    obtain ⟨b, hb, rfl⟩ := List.mem_map.mp hv
    exact SI_of I (sq b hb)
  refine SrtO.sorted_ord (swoP (keySI s.heap)) hl.isList many (fun h2 h1 b hb kk => ?_) fun out h1 h2 => ?_
  · refine sortable_SI (s := { s with heap := h1 }) (by omega) (fun v hm => (hk v hm).keep fun c o e _ => (kk c o e).2) fun o e c => ?_
    have e' : some o = some (seqObj "list" (ps.map Value.ref).toArray 0) := e.symm.trans hb
    cases e'
    exact absurd (Value.type.inj c) (by decide)
  · have pm := h2.perm
    obtain ⟨qs, rfl⟩ : ∃ qs : List Addr, out = qs.map Value.ref := by
      have : ∀ v ∈ out, ∃ b, v = Value.ref b := fun v hv => by
        obtain ⟨b, _, e⟩ := List.mem_map.mp (pm.mem_iff.mp hv)
        exact ⟨b, e.symm⟩
      clear h1 h2 pm
      induction out with
      | nil => exact ⟨[], rfl⟩
      | cons v r ih =>
        obtain ⟨b, rfl⟩ := this v (List.mem_cons_self ..)
        obtain ⟨qs, rfl⟩ := ih fun v hv => this v (List.mem_cons_of_mem _ hv)
        exact ⟨b :: qs, rfl⟩
    have pq : qs.Perm ps := by
      have := pm.map (fun v : Value => match v with | .ref b => b | _ => 0)
      rw [List.map_map, List.map_map] at this
      have e : ((fun v : Value => match v with | .ref b => b | _ => 0) ∘ Value.ref) = id := by funext b; rfl
      rw [e, List.map_id, List.map_id] at this
      exact this
    have ef : qs.map f = srtP l := by
      refine pwP_uniq ((fl ▸ pq.map f).trans (srtP_perm _).symm) ?_ (srtP_pw _)
      rw [List.pairwise_map]
      refine (List.pairwise_map.mp h1).imp fun {x y} z => ?_
      unfold ltP at z
      simpa using z
    obtain ⟨ep, at_⟩ := sortedAll_at s.heap (ps.map Value.ref) (qs.map Value.ref).toArray
    have free : H (s.heap.objs.size + 1) = none := I.hok.fresh (Nat.le_succ _)
    have vr : ∀ zs : List Addr, Vals (zs.map V.ref) (zs.map Value.ref) := fun zs => by
      induction zs with
      | nil => exact .nil
      | cons b r ih => exact .cons rfl ih
    have new : ObjOk X.prog X.w (upd H (s.heap.objs.size + 1) (.lst (qs.map V.ref))) (sortedAll s.heap (ps.map Value.ref) (qs.map Value.ref).toArray) (s.heap.objs.size + 1) (.lst (qs.map V.ref)) := by
      refine ⟨by rw [List.length_map, pq.length_eq]; rw [List.length_map] at hz; exact hz, qs.map Value.ref, ep, vr _, at_⟩
    have res := q (s.heap.objs.size + 1) (qs.map fun b => (b, f b)) free (fun x hx => by
      obtain ⟨b, hb, rfl⟩ := List.mem_map.mp hx
      exact ix b (pq.mem_iff.mp hb)) (by rw [List.map_map]; exact ef)
    rw [List.map_map] at res
    exact ⟨V.ref _, _, I.laid (t' := s.toks) (fun _ _ => sortedAll_old) (Nat.le_succ _) new, rfl, res⟩
end
/-- pairs of a text and an int -/
def prsD : List SD → Option (List (Str × Int))
  | [] => some []
  | .tup [.str x, .int i] :: r => (match prsD r with
    | some l => some ((x, i) :: l)
    | none => none)
  | _ :: _ => none
def siD (p : Str × Int) : SD := .tup [.str p.1, .int p.2]
theorem prsD_map : ∀ l : List (Str × Int), prsD (l.map siD) = some l
  | [] => rfl
  | (x, i) :: r => by rw [List.map_cons]; show (match prsD (r.map siD) with | some l => some ((x, i) :: l) | none => none) = _; rw [prsD_map r]
theorem prsD_of : ∀ {ds : List SD} {l : List (Str × Int)}, prsD ds = some l → ds = l.map siD
  | [], l, h => by cases h; rfl
  | d :: r, l, h => by
    unfold prsD at h
    split at h
    · rename_i heq; cases heq
    · rename_i x i r' heq
      cases heq
      cases e : prsD r with
      | none => rw [e] at h; cases h
      | some l' => rw [e] at h; cases h; rw [prsD_of e]; rfl
    · cases h
theorem si_rep {K : PySem.W.Frag} {F : Hp} : ∀ {l : List (Str × Int)} {vs : List V}, RepL K F (l.map siD) vs → ∃ ps : List Addr, vs = ps.map V.ref ∧ Paired (fun b p => SqT K F b (siV p)) ps l
  | [], _, .nil => ⟨[], rfl, .nil⟩
  | p :: l, _, .cons (.tup (a := b) h r1) r => by
    obtain ⟨ps, e, pr⟩ := si_rep r
    cases r1 with
    | cons ra rb => cases rb with
      | cons rb rc =>
        cases rc
        cases ra
        cases rb
        exact ⟨b :: ps, by rw [e]; rfl, .cons h pr⟩
def drSortedSI : DRc := fun ds μ Q => match ds with
  | [d] => isTup d = false ∧ (match seqD μ d with
    | some xs => (match prsD xs with
      | some l => Q (.lst ((srtP l).map siD)) μ
      | none => False)
    | none => False)
  | _ => False
theorem si_all {K : PySem.W.Frag} {F : Hp} : ∀ {m : List (Addr × (Str × Int))}, (∀ x ∈ m, SqT K F x.1 (siV x.2)) → RepL K F ((m.map (·.2)).map siD) (m.map fun x => V.ref x.1)
  | [], _ => .nil
  | x :: m, h => .cons (.tup (h x (List.mem_cons_self ..)) (.cons (.str _) (.one (.int _)))) (si_all fun y hy => h y (List.mem_cons_of_mem _ hy))
theorem lc_sortedSI {K : PySem.W.Frag} : LRc K drSortedSI (rSortedSI K) := fun F H μ xs ds Q' Q R r t k => by
  unfold drSortedSI at t
  split at t
  · rename_i d
    obtain ⟨nt, t⟩ := t
    cases e : seqD μ d with
    | none => rw [e] at t; exact t.elim
    | some zs =>
      rw [e] at t
      simp only at t
      cases e2 : prsD zs with
      | none => rw [e2] at t; exact t.elim
      | some l =>
        rw [e2] at t
        obtain rfl := prsD_of e2
        match xs, r with
        | [v], .cons r1 .nil =>
          obtain ⟨a, vs, rfl, rl, hL | hT⟩ := R.seq r1 e
          · obtain ⟨ps, rfl, pr⟩ := si_rep rl
            refine ⟨a, ps, l, rfl, hL.2, ?_, fun p m hp hm em => ?_⟩
            · have ex := R.ext
              clear rl t k hL r1 e2
              exact L2.Paired.mapP pr fun _ _ h => ex.sqT h
            · have r3 := si_all (F := F) (m := m) fun x hx => by
                obtain ⟨i, h1, h2⟩ := hm x hx
                exact paired_at pr h1 h2
              rw [em] at r3
              exact k _ μ t _ _ _ (Stp.newS R hp) (R.newS hp) (.lst upd_same (r3.mono (Ext.new (R.freeF hp))))
          · rw [nt] at hT; cases hT.1
  · exact t.elim
end DS
namespace DS
end DS
namespace DS
end DS
namespace DS
open PySem PySem.Spec PyProof.Rows L2
def IsRo (h : Heap) (v : Value) (l : List Str) : Prop := ∃ a o its n, v = .ref a ∧ h.get? a = some o ∧ o.cls = .type "tuple" ∧ o.data = .seq its n ∧ StrsAre its.toList l
theorem IsRo.keep {h h' : Heap} {v : Value} {l : List Str} (x : IsRo h v l) (k : ∀ b o, h.get? b = some o → o.cls = .type "tuple" → h'.get? b = some o) : IsRo h' v l := by
  obtain ⟨a, o, its, n, e, ho, hc, hd, r⟩ := x
  exact ⟨a, o, its, n, e, k _ _ ho hc, hc, hd, r⟩
theorem strs_uniq : ∀ {us : List Value} {a b : List Str}, StrsAre us a → StrsAre us b → a = b
  | [], _, _, .nil, .nil => rfl
  | _ :: _, _, _, .cons x t r, h => by
    cases h with
    | cons y t' r' => rw [strs_uniq r r']
theorem IsRo.uniq {h : Heap} {v : Value} {p q : List Str} (x : IsRo h v p) (y : IsRo h v q) : p = q := by
  obtain ⟨a, o, its, n, e, ho, hc, hd, r⟩ := x
  obtain ⟨a', o', its', n', e', ho', hc', hd', r'⟩ := y
  rw [e] at e'
  cases e'
  rw [ho] at ho'
  cases ho'
  rw [hd] at hd'
  injection hd' with h1 _
  rw [← h1] at r'
  exact strs_uniq r r'
end DS
namespace DS
open PySem PySem.Spec PyProof.Rows L2
/-- the set at a: S says who is in, n how many; its table stands in order -/
def TxRI (P : Program) (w : World) (h : Heap) (a : Addr) (S : Int → Bool) (n : Nat) : Prop := ∃ o es ep t, h.get? a = some o ∧ o.ExactSet ∧ o.data = .set es ep t ∧ ElemsOf (PySem.intKind P w) es.toList ∧ (∀ k, S k = true ↔ ∃ e ∈ es.toList, (PySem.intKind P w).is k e.2 = true) ∧
  es.size < scanBound ∧ t.fits es.size = true ∧ es.size = n ∧ Ris t.place.toList ∧ (w.params.followText "set-order" = true ∨ t.led = true)
section
variable {P : Program} {w : World} {A : Around} {E : Value → Shared → Prop} {s : Shared} {a : Addr} {S : Int → Bool} {n : Nat}
theorem TxRI.keep {h h' : Heap} (R : TxRI P w h a S n) (k : ∀ o, h.get? a = some o → h'.get? a = some o) : TxRI P w h' a S n := by
  obtain ⟨o, es, ep, t, ho, r⟩ := R
  exact ⟨o, es, ep, t, k o ho, r⟩
end
/-- the set at a: who is in is in ns, as many as u has -/
def TxSetI (P : Program) (w : World) (h : Heap) (a : Addr) (ns u : List Int) : Prop := TxRI P w h a (fun j => decide (j ∈ ns)) u.length
section
variable {P : Program} {w : World} {A : Around} {E : Value → Shared → Prop} {s : Shared}
theorem TxSetI.keep {h h' : Heap} {a : Addr} {ns u : List Int} (R : TxSetI P w h a ns u) (k : ∀ o, h.get? a = some o → h'.get? a = some o) : TxSetI P w h' a ns u := TxRI.keep R k
end
end DS
namespace DS
end DS
namespace DS
open PySem PySem.Spec PyProof.Rows L2
section
variable {X : Cx} {o e : Expr} {es : List Expr} {name : Str} {id idT : String} {apos cpos : Pos}
theorem unit65 {A : Around} {k : Nat} (h : Room k A) : A.units + 65 < cLine := by have := h.un; omega
end
end DS
namespace DS
end DS
namespace SKT
end SKT
namespace DS
open PySem PySem.Spec PyProof.Rows L2
/-- the lambda's code object was there, or is new and told by the table at P -/
def MadeL (H : Hp) (P : Addr) (q : Str) (H1 : Hp) : Prop := H1 = H ∨ ∃ (ps more : Array Value) (c' : Addr), H P = some (.tbl ps) ∧ H c' = none ∧ H1 = upd (upd H P (.tbl (ps ++ more))) c' (LamX.CodeO c' q) ∧ TriplesOk (ps ++ more).toList ∧
  ∀ (pos : Pos) (cv : Value), codeAmong pos (ps ++ more).toList = some cv → codeAmong pos ps.toList = some cv ∨ cv = .ref c'
/-- the module of the builtins, as the beginning has it -/
def BM (base : Heap) (mg : Str → Option Value) : Prop := ∃ (bm : Addr) (o : Obj), mg "__builtins__" = some (.ref bm) ∧ bm ≠ builtinsNs ∧ bm ≠ mainGlobals ∧ base.get? bm = some o ∧ o.cls = .type "module" ∧ o.dict = some builtinsNs ∧ o.data = .plain
/-- it is the code of the def named x that runs -/
def OwnC (X : Cx) (x : Str) : Prop := ∃ (f : Addr) (oc : Value) (od : Option Addr) (fd : FuncData) (osl : Array (Option Value)), X.mg x = some (.ref f) ∧ X.K.lookup f = some ⟨oc, od, .func fd, osl⟩ ∧ fd.code = X.env.code
theorem tabB_of {X : Cx} {pins : List (Addr × Obj)} {σ : L2.St} {H : Hp} {s : Shared} {x : Str} {P : Addr} {ps : Array Value} (I : Inv X pins σ H s) (hb : BM X.base X.mg) (hw : OwnC X x) (hT : TabAt X.K x P) (hP : H P = some (.tbl ps)) : ∃ c, X.env.code = .ref c ∧ LamX.TabB X.base X.mg c P := by
  obtain ⟨f, c, oc, od, fd, osl, h1, h2, h3, h4⟩ := hT
  obtain ⟨f', oc', od', fd', osl', g1, g2, g3⟩ := hw
  have e := PySem.W.mg_of I.mod.kin I.mod.glob h1
  rw [g1] at e; cases e
  rw [h2] at g2; cases g2
  have atP : s.heap.get? P = some { cls := .none, data := .fields ps } := I.hok P _ hP
  obtain ⟨bm, o, b1, b2, b3, b4, b5, b6, b7⟩ := hb
  refine ⟨c, by rw [← g3, h3], PySem.W.codeHd_of_K I.mod.kin h4, ⟨bm, o, b1, b2, b3, fun z => ?_, b4, b5, b6, b7⟩, fun z => ?_⟩
  · have := I.bk _ _ b4
    rw [z, atP] at this; cases this; cases b7
  · obtain ⟨o, es, ep, ho, hd, _⟩ := I.mod.glob
    have := I.bk _ _ ho
    rw [z, atP] at this; cases this; cases hd
end DS
namespace DS
end DS
namespace DS
open PySem PySem.Spec PyProof.Rows L2
/-- the table has grown by the lambda's code object -/
theorem HReal.made {K : PySem.W.Frag} {F H H2 : Hp} {μ : Mu} {P : Addr} {x q : Str} (R : HReal K F H μ) (hP : μ P = some (.tab P x q)) (m : MadeL H P q H2) : ∃ F2, HReal K F2 H2 μ ∧ Stp F H μ F2 H2 μ := by
  rcases m with rfl | ⟨ps, more, c', h1, h2, rfl, h3, h4⟩
  · exact ⟨F, R, Stp.refl _ _ _⟩
  · have hF := R.freeF h2
    have hPF := (R.mus P _ hP).1
    have Pc : P ≠ c' := fun z => by rw [z, h2] at h1; cases h1
    have ex : Ext F (upd F c' (LamX.CodeO c' q)) := Ext.new hF
    refine ⟨upd F c' (LamX.CodeO c' q), ⟨fun a o e => ?_, fun a n e => ?_⟩, ⟨ex, fun a z1 z2 z3 => ?_⟩⟩
    · by_cases ha : a = c'
      · subst ha; rw [upd_same] at e ⊢; exact e
      · rw [upd_ne ha] at e
        have aP : a ≠ P := fun z => by rw [z, hPF] at e; cases e
        rw [upd_ne ha, upd_ne aP]; exact R.sub a o e
    · obtain ⟨z, o, q1, r⟩ := R.mus a n e
      have ha : a ≠ c' := fun z => by rw [z, h2] at q1; cases q1
      refine ⟨by rw [upd_ne ha]; exact z, ?_⟩
      by_cases aP : a = P
      · subst aP
        rw [hP] at e; cases e
        rw [h1] at q1; cases q1
        refine ⟨_, by rw [upd_ne Pc, upd_same], ?_⟩
        cases r with
        | tab t1 t2 t3 =>
          refine .tab t1 h3 fun pos cv hc => ?_
          rcases h4 pos cv hc with hc | rfl
          · obtain ⟨c, e1, e2⟩ := t3 pos cv hc
            exact ⟨c, e1, ex.st _ _ rfl e2⟩
          · exact ⟨c', rfl, upd_same⟩
      · exact ⟨o, by rw [upd_ne ha, upd_ne aP]; exact q1, r.mono ex⟩
    · have ha : a ≠ c' := fun z => z1 (by rw [z]; exact h2)
      have aP : a ≠ P := fun z => by rw [z, hP] at z3; cases z3
      exact ⟨by rw [upd_ne ha, upd_ne aP], by rw [upd_ne ha]; exact z2, z3⟩
section
variable {P : Program} {w : World} {K : PySem.W.Frag} {mg : Str → Option Value} {base : Heap}
theorem def_okL {x : Str} {st : Stmt} {N ps : List Str} {k : Nat} {sp : DSp} (D : Def K mg x st ps) (S : FnScope N ps (defScope st)) (t : DTS) (len : ∀ ds μ Q E, sp ds μ Q E → ds.length = ps.length)
    (walk : ∀ (cdv : Value) (A : Around) (outer : List Env) (s : Shared) (H : Hp) (E : XK), Quiet A → Room k (A.deeper (envOfC x (defScope st) s.heap.objs.size D.f cdv)) → OwnC (cxOf CX0 P w K mg base N x (defScope st) D.f cdv A outer s H E).nox x →
      DSs (cxOf CX0 P w K mg base N x (defScope st) D.f cdv A outer s H E).nox (defBody st) t)
    (read : ∀ ds μ Q E, sp ds μ Q E → t { nx := fun _ μ' => Q .non μ', rt := Q } (begin_ N ds) μ) : FnD P w base D (k + 1) sp := by
  obtain ⟨f, fd, DF, Dm, Db⟩ := D
  obtain ⟨oc, od, kV, doc, pm, an, cdv, ct, osl, rfl, lk, hcd⟩ := DF.ex
  refine fnG_of lk hcd S (fun vs H Q E h => ?_) fun A outer s H vs Q E quiet room want => ?_
  · obtain ⟨F, μ, ds, Q', E', _, r, q, _⟩ := h
    rw [← r.length]; exact len ds μ Q' E' q
  · obtain ⟨F, μ, ds, Q', E', R, r, q, k1, _⟩ := want
    refine ⟨_, (walk cdv A outer s H E quiet room ⟨f, _, _, _, _, Dm, lk, rfl⟩).nox, F, begin_ N ds, μ, _, R, slots_begin r, read ds μ Q' E' q, ?_, k1, fun _ _ z => False.elim z, fun _ _ z => False.elim z⟩
    exact fun ρ' μ' q F' H' σ' s' R' _ => k1 .non μ' q F' H' .non s' R' .non
end
end DS
namespace DS
open PySem PySem.Spec PyProof.Rows L2
theorem lawGT {P : Program} {w : World} {K : PySem.W.Frag} {mg mb : Str → Option Value} {CX : CXT} {k : Nat} {fa a T : Addr} {fd : FuncData} {x : Str} {sp : Sp} {s₁ : Shared} {vs : List Value} {ns : List Int}
    (KX : K.In s₁.heap) (hns : s₁.heap.Ns mainGlobals mg) (hb : s₁.heap.Ns builtinsNs mb) (hbb : ∀ x : Str, x ≠ "__name__" → mb x = bootBuiltins x) (hlim : s₁.heap.NoLimit) (hgens : s₁.gens = #[])
    (tT : s₁.heap.get? T = some { cls := .none, data := .fields #[] }) (tK : K.lookup T = none) (tC : isCodeTable s₁.heap T)
    (hbm : ∃ (bm : Addr) (o : Obj), mg "__builtins__" = some (.ref bm) ∧ bm ≠ builtinsNs ∧ s₁.heap.get? bm = some o ∧ o.cls = .type "module" ∧ o.dict = some builtinsNs ∧ o.data = .plain)
    (script : s₁.heap.get? a = some { cls := .type "list", data := .seq vs.toArray }) (hi : IntsAre vs ns) (hl : ns.length ≤ sizeLine) (hr : Room k callerA)
    (F : ∀ base : Heap, K.In base → base.Ns mainGlobals mg → BM base mg → FnG P w K mg base CX k fa fd [x] sp) (hbind : ∀ (s : Shared) (u : Value), BindsTo s fd ⟨[u], []⟩ [(x, u)])
    (promise : ∀ H : Hp, H T = some (.tbl #[]) → SqL K H a (ns.map V.int) → sp [.ref a] H (fun v _ => v = .bl true) fun _ _ _ => False) (quiet : ∀ H e s', CX [] H s₁ (fun _ _ _ => False) e s' → False) :
    codeAny (model P w) callerA (.call (.ref fa) ⟨[.ref a], []⟩) (fun r s' => r = .ok (.ret (.bool true)) ∧ OldK s₁.heap s'.heap ∧ s'.os = s₁.os ∧ AllBare s'.gens) s₁ := by
  have vals := vals_ints hi
  have same := hi.length
  have aT : a ≠ T := fun z => by
    rw [z, tT] at script
    exact nomatch (congrArg Obj.data (Option.some.inj script) : Data.fields #[] = Data.seq vs.toArray _)
  have main : ∀ H : Hp, H T = some (.tbl #[]) → (∀ b, b ≠ T → H b = none ∨ ∃ ob xs, H b = some (.frz ob (.lst xs))) → SqL K H a (ns.map V.int) → HOk P w H s₁.heap → (∀ b, b ≠ T → H b ≠ none → b = a ∧ K.lookup a = none) →
      codeAny (model P w) callerA (.call (.ref fa) ⟨[.ref a], []⟩) (fun r s' => r = .ok (.ret (.bool true)) ∧ OldK s₁.heap s'.heap ∧ s'.os = s₁.os ∧ AllBare s'.gens) s₁ := by
    intro H hT only seen holds only_a
    have none_at : ∀ b, b ≠ T → (b = a → K.lookup a ≠ none) → H b = none := fun b bT hb => by
      cases q : H b with
      | none => rfl
      | some u =>
        obtain ⟨e1, e2⟩ := only_a b bT (by rw [q]; exact fun z => nomatch z)
        exact absurd e2 (hb e1)
    have other : ∀ {b : Addr} {o : Obj}, s₁.heap.get? b = some o → (∀ us n, o.data ≠ .seq us n) → o.data ≠ .fields #[] → H b = none := fun {b o} e d1 d2 => by
      have bT : b ≠ T := fun z => by
        rw [z, tT] at e
        exact d2 (congrArg Obj.data (Option.some.inj e)).symm
      cases q : H b with
      | none => rfl
      | some u =>
        obtain ⟨ea, _⟩ := only_a b bT (by rw [q]; exact fun z => nomatch z)
        rw [ea, script] at e
        exact absurd (congrArg Obj.data (Option.some.inj e)).symm (d1 _ _)
    have ns_of : ∀ {b : Addr} {m : Str → Option Value}, s₁.heap.Ns b m → (hidT s₁.heap H).Ns b m := fun ⟨o, es, ep, e, d, r⟩ =>
      ⟨o, es, ep, hidT_get e (other e (fun us n z => by rw [d] at z; cases z) fun z => by rw [d] at z; cases z), d, r⟩
    have kb : K.In (hidT s₁.heap H) := fun b o e => hidT_get (KX b o e) (none_at b (fun z => by rw [z, tK] at e; cases e) fun z => by subst z; rw [e]; exact fun q => nomatch q)
    have md : Mod K mg (hidT s₁.heap H) := ⟨kb, ns_of hns, ⟨mb, ns_of hb, hbb⟩, let ⟨mc, h1, h2⟩ := hlim; ⟨mc, ns_of h1, h2⟩⟩
    have bmd : BM (hidT s₁.heap H) mg := by
      obtain ⟨bm, o, b1, b2, b3, b4, b5, b6⟩ := hbm
      refine ⟨bm, o, b1, b2, fun z => ?_, hidT_get b3 (other b3 (fun us n z => by rw [b6] at z; cases z) fun z => by rw [b6] at z; cases z), b4, b5, b6⟩
      obtain ⟨o', es, ep, e, d, _⟩ := hns
      rw [z, e] at b3
      cases b3
      rw [d] at b6; cases b6
    have e0 : Env0 P w K mg (hidT s₁.heap H) callerA [] s₁ H := ⟨rfl, md, fun b o e => of_hidT e, Nat.le_of_eq (hidT_size _ _), trivial, fun b hb => absurd (show b ∈ ([] : List Addr) from hb) (by simp), holds, .of_eq hgens⟩
    refine codeAny_mono ((F _ kb (ns_of hns) bmd).go callerA [] s₁ H ⟨[.ref a], []⟩ [.ref a] [.ref a] _ _ rfl hr e0 (hbind s₁ (.ref a)) (.cons rfl .nil) (promise H hT seen)) fun out s' h => ?_
    match out, h with
    | .error e, h => exact (quiet H e s' h).elim
    | .ok .next, h => exact False.elim h
    | .ok .brk, h => exact False.elim h
    | .ok .cont, h => exact False.elim h
    | .ok (.ret u), h =>
      obtain ⟨v, H', os, bare, un, holds', rel, q⟩ := h
      obtain rfl : v = .bl true := q
      obtain rfl : u = Value.bool true := rel
      have stays : ∀ b o, b ≠ T → s₁.heap.get? b = some o → s'.heap.get? b = some o := fun b o bT e => by
        rcases only b bT with z | ⟨ob, xs, z⟩
        · exact un.keep b o e z (by intro z; exact absurd (show b ∈ ([] : List Addr) from z) (by simp)) (by simp)
        · have now := un.frzs b ob _ z
          obtain ⟨e1, _⟩ := holds b _ z
          obtain ⟨e2, _⟩ := holds' b _ now
          rw [e] at e1; cases e1
          exact e2
      obtain ⟨more, hm⟩ := un.tbls T #[] hT
      have grown : s'.heap.get? T = some { cls := .none, data := .fields (#[] ++ more) } := holds' T _ hm
      refine ⟨rfl, ⟨fun b o e => ?_, fun b o e => ?_⟩, os, bare⟩
      · by_cases bT : b = T
        · subst bT
          rw [tT] at e; cases e
          exact .inr (.inl ⟨tC, rfl, #[], more, rfl, grown⟩)
        · exact .inl (stays b o bT e)
      · by_cases bT : b = T
        · subst bT; exact ⟨_, grown⟩
        · exact ⟨o, stays b o bT e⟩
  by_cases hk : K.lookup a = none
  · refine main (fun b => if b = T then some (.tbl #[]) else if b = a then some (.frz { cls := .type "list", data := .seq vs.toArray } (.lst (ns.map V.int))) else none) (if_pos rfl) (fun b bT => ?_) (.inl (.inr ⟨{ cls := .type "list", data := .seq vs.toArray }, by show (if a = T then _ else _) = _; rw [if_neg aT, if_pos rfl]⟩)) (fun b u z => ?_) fun b bT z => ?_
    · by_cases hb : b = a
      · exact .inr ⟨_, _, by show (if b = T then _ else _) = _; rw [if_neg bT, if_pos hb]⟩
      · exact .inl (by show (if b = T then _ else _) = _; rw [if_neg bT, if_neg hb])
    · by_cases bT : b = T
      · have z : some (HO.tbl #[]) = some u := (if_pos bT).symm.trans z
        cases z
        subst bT
        exact tT
      · have z : (if b = a then some (HO.frz { cls := .type "list", data := .seq vs.toArray } (.lst (ns.map V.int))) else none) = some u := (if_neg bT).symm.trans z
        by_cases hb : b = a
        · cases (if_pos hb).symm.trans z
          subst hb
          exact ⟨script, by rw [List.length_map]; exact hl, vs, _, vals, script⟩
        · cases (if_neg hb).symm.trans z
    · by_cases hb : b = a
      · exact ⟨hb, hk⟩
      · exact absurd (by show (if b = T then _ else _) = _; rw [if_neg bT, if_neg hb]) z
  · obtain ⟨o, ho⟩ := Option.ne_none_iff_exists'.mp hk
    have e := KX a o ho
    rw [script] at e
    cases e
    refine main (fun b => if b = T then some (.tbl #[]) else none) (if_pos rfl) (fun b bT => .inl (if_neg bT)) (.inr ⟨_, vs.toArray, _, ho, rfl, rfl, rfl, by rw [List.size_toArray, same]; exact hl, by simpa using vals⟩) (fun b u z => ?_) fun b bT z => absurd (if_neg bT) z
    by_cases bT : b = T
    · have z : some (HO.tbl #[]) = some u := (if_pos bT).symm.trans z
      cases z
      subst bT
      exact tT
    · exact nomatch (if_neg bT).symm.trans z
/-- x0: the def that makes functions -/
theorem walkGT {l : PySem.W.OpenLaw} {n k : Nat} {q : Program} {loose : List Str} {XP : (Str → Option Value) → Heap → Prop} {YP : World → Heap → Prop} {d : DefRec} {K : Params → PySem.W.Frag} {CX : CXT} {sp : PySem.W.Frag → Sp} {x x0 : Str}
    (hn : l.most = some n) (hn2 : n ≤ sizeLine) (hdf : d.params.defaults = []) (hr : Room k callerA) (hY : ∀ (w : World) (h : Heap), YP w h → (K w.params).In h) (hrec : ((recsOf q).any fun e => e.name == x0) = true)
    (F : ∀ (w : World) (mg : Str → Option Value) (fa : Addr) (h : Heap), (K w.params).In h → h.Ns mainGlobals mg → mg d.name = some (.ref fa) →
      ∃ (T : Addr) (fd : FuncData), TabAt (K w.params) x0 T ∧ (K w.params).lookup T = none ∧ (∀ (s : Shared) (u : Value), BindsTo s fd ⟨[u], []⟩ [(x, u)]) ∧ ∀ base : Heap, (K w.params).In base → base.Ns mainGlobals mg → BM base mg → FnG l.prog w (K w.params) mg base CX k fa fd [x] (sp (K w.params)))
    (hsp : ∀ (K : PySem.W.Frag) (H : Hp) (a T : Addr) (ns : List Int), ns.length ≤ n → TabAt K x0 T → H T = some (.tbl #[]) → SqL K H a (ns.map V.int) → sp K [.ref a] H (fun v _ => v = .bl true) fun _ _ _ => False)
    (hCX : ∀ (H : Hp) (s : Shared) (e : Value) (s' : Shared), CX [] H s (fun _ _ _ => False) e s' → False) : PySem.W.WalkO q loose XP YP l.row.toRowW d [] (fun f vs => PySem.call f vs) :=
  Att.attach_call hn hdf fun w s₀ s₁ mg mb fa o pm cd doc a vs ns G Y ho hd hcd hmg hobj hints hlen hg => by
    have KX := hY w _ Y
    obtain ⟨T, fd, hT, nT, hb, hF⟩ := F w mg fa _ KX G.T.g hmg
    obtain ⟨dL, hm, hn1⟩ := List.any_eq_true.mp hrec
    have hn2' : dL.name = x0 := beq_iff_eq.mp hn1
    obtain ⟨f', o', fd', c', T', t1, t2, t3, t4, t5, t6⟩ := G.T.tab dL hm
    have hT0 := hT
    obtain ⟨f, c, oc, od, fd0, osl, g1, g2, g3, g4⟩ := hT
    rw [hn2', PySem.W.mg_of KX G.T.g g1] at t1
    cases t1
    rw [KX _ _ g2] at t2
    cases t2
    cases t3
    rw [g3] at t4
    cases t4
    have hd' := PySem.W.codeHd_of_K KX g4
    obtain ⟨o1, us, file, tf, flags, tg, inF, text, tt, e1, r1, r2, r3, _⟩ := hd'
    obtain ⟨⟨o2, us2, e2, _, q2, q3⟩, q4⟩ := id t6
    rw [e1] at e2
    cases e2
    rw [r2] at q2
    cases q2
    rw [r3] at q3
    cases q3
    exact lawGT KX G.T.g G.T.b G.T.builtins G.T.nolimit hg q4 nT t6.isCodeTable G.T.bmain hobj hints (Nat.le_trans hlen hn2) hr hF hb (fun H h1 h2 => hsp _ H a _ ns hlen hT0 h1 h2) fun H e s' => hCX H s₁ e s'
/-- the script is handed in, the table is empty -/
theorem law_startT {K : PySem.W.Frag} {H : Hp} {a T : Addr} {ns : List Int} {sp : DSp} {x q : Str} (hA : TabAt K x T) (hT : H T = some (.tbl #[])) (hS : SqL K H a (ns.map V.int)) (h : ∀ μ, μ T = some (.tab T x q) → sp [.rol (ns.map SD.int)] μ (fun d _ => d = .bl true) (fun _ _ _ => False)) : LSp K sp [.ref a] H (fun v _ => v = .bl true) fun _ _ _ => False := by
  have sq : SqL K (fun b => if b = T then none else H b) a (ns.map V.int) := by
    rcases hS with (z | ⟨o, z⟩) | z
    · refine .inl (.inl ?_)
      show (if a = T then none else H a) = _
      rw [if_neg (fun e => by rw [e, hT] at z; cases z)]; exact z
    · refine .inl (.inr ⟨o, ?_⟩)
      show (if a = T then none else H a) = _
      rw [if_neg (fun e => by rw [e, hT] at z; cases z)]; exact z
    · exact .inr z
  refine ⟨fun b => if b = T then none else H b, fun b => if b = T then some (.tab T x q) else none, [.rol (ns.map SD.int)], _, _, ⟨fun b o e => ?_, fun b m e => ?_⟩, .one (.rol sq (RepL.ofInts ns)), h _ (if_pos rfl), fun d μ' q F' H' v s R r => by subst q; cases r; rfl, fun _ _ _ q => q.elim⟩
  · by_cases hb : b = T
    · exact nomatch (if_pos hb).symm.trans e
    · exact (if_neg hb).symm.trans e
  · by_cases hb : b = T
    · cases (if_pos hb).symm.trans e
      subst hb
      exact ⟨if_pos rfl, _, hT, .tab hA trivial fun pos cv hc => by
        have z : codeAmong pos [] = some cv := hc
        simp [codeAmong] at z⟩
    · exact nomatch (if_neg hb).symm.trans e
end DS
namespace DS
open PySem PySem.Spec PyProof.Rows L2
/-- the code object of the def at f, and its table -/
def tabOf (K : PySem.W.Frag) (f : Addr) : Addr × Addr := match K.lookup f with
  | some ⟨_, _, .func fd, _⟩ => (match fd.code with
    | .ref c => (match K.lookup c with
      | some ⟨_, _, .fields vs, _⟩ => (match (vs[11]? : Option Value) with
        | some (.ref P) => (c, P)
        | _ => (0, 0))
      | _ => (0, 0))
    | _ => (0, 0))
  | _ => (0, 0)
end DS
namespace DS
end DS
namespace DS
end DS
namespace DS
end DS
namespace DS
open PySem PySem.Spec PyProof.Rows L2
/-- true: a tuple, false: a list -/
def SqK (K : PySem.W.Frag) (b : Bool) (H : Hp) (a : Addr) (xs : List V) : Prop := if b = true then SqT K H a xs else SqL K H a xs
def ItK (b : Bool) (h : Heap) (it a : Addr) (i : Nat) : Prop := if b = true then h.IsTupleIter it a i else h.IsListIter it a i
def IsK (b : Bool) (h : Heap) (a : Addr) (its : Array Value) : Prop := if b = true then h.IsTuple a its else h.IsList a its
def itO (b : Bool) (a : Addr) : Obj := { cls := .type (if b = true then "tuple_iterator" else "list_iterator"), data := .fields #[.ref a, .int 0 0] }
theorem ItK.ob {b : Bool} {h : Heap} {it a : Addr} {i : Nat} (x : ItK b h it a i) : ∃ o, h.get? it = some o ∧ ∀ v, o.data ≠ .cell v := by
  unfold ItK at x
  cases b with
  | true =>
    obtain ⟨o, e, _, d⟩ := (show h.IsTupleIter it a i from x)
    exact ⟨o, e, fun v z => by rw [d] at z; cases z⟩
  | false =>
    obtain ⟨o, e, _, d⟩ := (show h.IsListIter it a i from x)
    exact ⟨o, e, fun v z => by rw [d] at z; cases z⟩
theorem ItK.over {b : Bool} {h h' : Heap} {it a : Addr} {i : Nat} (x : ItK b h it a i) (k : ∀ o, h.get? it = some o → h'.get? it = some o) : ItK b h' it a i := by
  unfold ItK at *
  cases b with
  | true => exact Heap.IsTupleIter.at (show h.IsTupleIter it a i from x) k
  | false => exact Heap.IsListIter.at (show h.IsListIter it a i from x) k
theorem ItK.start {b : Bool} {h : Heap} {it a : Addr} (e : h.get? it = some (itO b a)) : ItK b h it a 0 := by
  unfold ItK
  cases b with
  | true => exact ⟨_, e, rfl, rfl⟩
  | false => exact ⟨_, e, rfl, rfl⟩
theorem drawsK {prog : Program} {w : World} {A : Around} (hh : A.handled = none) (b : Bool) {it l : Addr} (n : l ≠ it) (its : Array Value) : Draws prog w A it [it, l] its.size (fun i v => its[i]? = some v) (fun i h => ItK b h it l i ∧ IsK b h l its) := by
  cases b with
  | true => exact Draws.tuple hh it l n its
  | false => exact Draws.list hh it l n its
theorem beginsK (b : Bool) (l : Addr) (its : Array Value) : Begins (.ref l) (itO b l) fun h => IsK b h l its := by
  cases b with
  | true => exact begins_tuple l its
  | false => exact begins_list l its
section
variable {X : Cx} {pins : List (Addr × Obj)} {σ : L2.St} {H : Hp} {s : Shared}
theorem sqK_at {b : Bool} {a : Addr} {xs : List V} (I : Inv X pins σ H s) (h : SqK X.K b H a xs) : ∃ its : List Value, Vals xs its ∧ IsK b s.heap a its.toArray ∧ a < s.heap.objs.size := by
  unfold SqK at h
  cases b with
  | true =>
    obtain ⟨its, rv, p, _⟩ := I.tuple (show SqT X.K H a xs from h)
    exact ⟨its, rv, p, by obtain ⟨o, e, _⟩ := id p; exact Heap.lt_size e⟩
  | false =>
    obtain ⟨its, rv, p, _⟩ := I.list (show SqL X.K H a xs from h)
    exact ⟨its, rv, p.isList, p.lt⟩
theorem sqK_one {b : Bool} {a : Addr} {xs ys : List V} (I : Inv X pins σ H s) (h : SqK X.K b H a xs) (h' : SqK X.K b H a ys) : xs = ys := by
  unfold SqK at *
  cases b with
  | true => exact I.tuple_inj (show SqT X.K H a xs from h) h'
  | false => exact I.list_inj (show SqL X.K H a xs from h) h'
end
/-- two sequences at a and b as they stand at each turn -/
def ItzK (K : PySem.W.Frag) (c d : Bool) (a b : Addr) : It :=
  ⟨fun i H => ∃ (xs ys : List V) (x y : V), SqK K c H a xs ∧ SqK K d H b ys ∧ xs[i]? = some x ∧ ys[i]? = some y,
    fun i H v H' => ∃ T x y, v = .ref T ∧ H T = none ∧ H' = upd H T (.tup [x, y]) ∧ (∀ xs, SqK K c H a xs → xs[i]? = some x) ∧ ∀ ys, SqK K d H b ys → ys[i]? = some y,
    fun i H => ∃ xs ys : List V, SqK K c H a xs ∧ SqK K d H b ys ∧ i = min xs.length ys.length⟩
/-- the five new cells -/
structure Five (z TI TO p q a b : Addr) : Prop where
  S : ZipSep2 z TI TO p q [p, a] [q, b]
  pa : a ≠ p
  qb : b ≠ q
theorem mem5 {z TI TO p q c : Addr} (h : c ∈ [z, TI, TO, p, q]) : c = z ∨ c = TI ∨ c = TO ∨ c = p ∨ c = q := by simpa using h
theorem turn_zipK {P : Program} {w : World} {K : PySem.W.Frag} {elts : List Expr} {kk : Nat} {tpos : Pos} {c d : Bool} {a b z TI TO p q : Addr} (D : Five z TI TO p q a b) :
    Turn P w K (.Tuple elts kk tpos) (ItzK K c d a b) [z, TI, TO, p, q] z (fun i h => (IsZip h z TI TO .none ∧ IsTupOf2 h TI (.ref p) (.ref q)) ∧ (∃ u v, IsTupOf2 h TO u v) ∧ ItK c h p a i ∧ ItK d h q b i) where
  mem := List.mem_cons_self ..
  obj := fun i h st e he => by
    obtain ⟨⟨g1, g2⟩, ⟨u, v, g3⟩, g4, g5⟩ := st
    rcases mem5 he with rfl | rfl | rfl | rfl | rfl
    · exact ⟨_, g1, fun v z => nomatch z⟩
    · exact ⟨_, g2, fun v z => nomatch z⟩
    · exact ⟨_, g3, fun v z => nomatch z⟩
    · exact g4.ob
    · exact g5.ob
  keep := fun i h h' st k => by
    obtain ⟨⟨g1, g2⟩, ⟨u, v, g3⟩, g4, g5⟩ := st
    exact ⟨⟨k _ (by simp) _ g1, k _ (by simp) _ g2⟩, ⟨u, v, k _ (by simp) _ g3⟩, g4.over fun o e => k _ (by simp) o e, g5.over fun o e => k _ (by simp) o e⟩
  item := by
    intro X hP hw hK hc i pins s σ H E I hf st hg
    subst hP; subst hw; subst hK
    obtain ⟨⟨g1, g2⟩, ⟨u0, v0, g3⟩, g4, g5⟩ := st
    obtain ⟨xs, ys, x, y, sa, sb, ex, ey⟩ := hg
    obtain ⟨as, ra, ka, _⟩ := sqK_at I sa
    obtain ⟨bs, rb, kb, _⟩ := sqK_at I sb
    have la := ra.length
    have lb := rb.length
    have ia := (List.getElem?_eq_some_iff.mp ex).1
    have ib := (List.getElem?_eq_some_iff.mp ey).1
    have hh : X.A.in1.handled = none := I.ok.hd hc
    refine wpAny_pyNext_zipD2_item D.S (drawsK hh c D.pa as.toArray) (drawsK hh d D.qb bs.toArray) g1 g2 g3 ⟨g4, ka⟩ ⟨g5, kb⟩ (by simp; omega) (by simp; omega) fun u v h1 t1 pu pv z1 o1 n1 n2 new size kk => ?_
    obtain ⟨u', eu, ru⟩ := ra.get ex
    obtain ⟨v', ev, rv⟩ := rb.get ey
    have eu2 : u' = u := by
      have : as[i]? = some u := by simpa using pu
      rw [eu] at this; exact Option.some.inj this
    have ev2 : v' = v := by
      have : bs[i]? = some v := by simpa using pv
      rw [ev] at this; exact Option.some.inj this
    subst eu2; subst ev2
    refine ⟨_, rfl, wpAny_letOwnedTupleGo_zip (s := { s with heap := h1, toks := t1 }) z1 fun h2 z2 sm => ?_⟩
    have lt : ∀ {e : Addr} {o : Obj}, s.heap.get? e = some o → e < s.heap.objs.size := fun h => Heap.lt_size h
    have ltz := lt g1
    have at_ : h2.get? s.heap.objs.size = some { cls := .type "tuple", data := .seq #[u', v'] } := (sm.2 _ (Nat.ne_of_gt ltz)).trans new
    have ok : ObjOk X.prog X.w (upd H s.heap.objs.size (.tup [x, y])) h2 s.heap.objs.size (.tup [x, y]) := ⟨by show 2 ≤ sizeLine; decide, [u', v'], .cons ru (.cons rv .nil), ⟨_, at_, rfl, _, rfl⟩⟩
    have other : ∀ e o, e ∉ [z, TI, TO, p, q] → s.heap.get? e = some o → h2.get? e = some o := fun e o ne g => by
      have m : ∀ f, f ∈ [z, TI, TO, p, q] → e ≠ f := fun f hf z => ne (z ▸ hf)
      exact (sm.2 e (m z (by simp))).trans (kk e o (m z (by simp)) (m TO (by simp)) (m p (by simp)) (m q (by simp)) g)
    have J : Inv X pins σ (upd H s.heap.objs.size (.tup [x, y])) { s with heap := h2, toks := t1 } := I.turnedNew (ch := [z, TI, TO, p, q]) other hf (Nat.le_refl _) ok
    have zp := D.S.zi1
    have zq := D.S.zi2
    refine ⟨.ref s.heap.objs.size, _, J, rfl, ⟨_, x, y, rfl, I.hok.fresh (Nat.le_refl _), rfl, fun l hl => (sqK_one I hl sa) ▸ ex, fun l hl => (sqK_one I hl sb) ▸ ey⟩, ⟨⟨z2, ?_⟩, ⟨u', v', ?_⟩, ?_, ?_⟩, fun e he => ?_⟩
    · exact (sm.2 _ D.S.TIz).trans (kk TI _ D.S.TIz D.S.TITO D.S.TIi1 D.S.TIi2 g2)
    · exact (sm.2 _ D.S.TOz).trans o1
    · exact n1.1.over fun o g => (sm.2 _ (Ne.symm zp)).trans g
    · exact n2.1.over fun o g => (sm.2 _ (Ne.symm zq)).trans g
    · have l : e < s.heap.objs.size := by
        rcases mem5 he with rfl | rfl | rfl | rfl | rfl
        · exact ltz
        · exact lt g2
        · exact lt g3
        · obtain ⟨o, g, _⟩ := g4.ob; exact lt g
        · obtain ⟨o, g, _⟩ := g5.ob; exact lt g
      rw [upd_ne (Nat.ne_of_lt l)]
      exact (hf e he).1
  done := by
    intro X hP hw hK hc i pins s σ H E I hf st hg
    subst hP; subst hw; subst hK
    obtain ⟨⟨g1, g2⟩, ⟨u0, v0, g3⟩, g4, g5⟩ := st
    obtain ⟨xs, ys, sa, sb, ei⟩ := hg
    obtain ⟨as, ra, ka, _⟩ := sqK_at I sa
    obtain ⟨bs, rb, kb, _⟩ := sqK_at I sb
    have la := ra.length
    have lb := rb.length
    have hh : X.A.in1.handled = none := I.ok.hd hc
    refine wpAny_pyNext_zipD2_end D.S (drawsK hh c D.pa as.toArray) (drawsK hh d D.qb bs.toArray) g1 g2 g3 ⟨g4, ka⟩ ⟨g5, kb⟩ (by simp; omega) (by simp; omega) (by simp; omega) fun h1 t1 kk => ⟨rfl, I.turnedL (ch := [z, TI, TO, p, q]) (fun e o ne g => ?_) hf⟩
    have m : ∀ f, f ∈ [z, TI, TO, p, q] → e ≠ f := fun f hf z => ne (z ▸ hf)
    exact kk e o (m z (by simp)) (m TO (by simp)) (m p (by simp)) (m q (by simp)) g
  self := fun A i s Q E st h => wpAny_pyIter_zip st.1.1 h
theorem five_mk {n a b : Nat} (l1 : a < n) (l2 : b < n) : Five (n + 4) (n + 2) (n + 3) n (n + 1) a b := by
  have q (u v : Nat) (l : u < v) : u ≠ v := Nat.ne_of_lt l
  have no {u v w : Nat} (h1 : u ≠ v) (h2 : u ≠ w) : u ∉ [v, w] := fun h => by
    rcases List.mem_cons.mp h with h | h
    · exact h1 h
    · exact h2 (List.mem_singleton.mp h)
  exact ⟨⟨q _ _ (by omega), q _ _ (by omega), q _ _ (by omega), Ne.symm (q _ _ (by omega)), List.mem_cons_self .., no (Ne.symm (q _ _ (by omega))) (Ne.symm (q _ _ (by omega))), no (Ne.symm (q _ _ (by omega))) (Ne.symm (q _ _ (by omega))), Ne.symm (q _ _ (by omega)), List.mem_cons_self .., no (Ne.symm (q _ _ (by omega))) (Ne.symm (q _ _ (by omega))), no (Ne.symm (q _ _ (by omega))) (Ne.symm (q _ _ (by omega))), no (q _ _ (by omega)) (Ne.symm (q _ _ (by omega))), no (Ne.symm (q _ _ (by omega))) (Ne.symm (q _ _ (by omega)))⟩, q _ _ (by omega), q _ _ (by omega)⟩
def iZipK (K : PySem.W.Frag) (ta : TA) : TI := fun σ H R => ta σ H fun vs H1 => ∃ c d a b xs ys, vs = [.ref a, .ref b] ∧ SqK K c H1 a xs ∧ SqK K d H1 b ys ∧ R (ItzK K c d a b) H1
section
variable {X : Cx} {e e2 : Expr} {ta : TA} {p pos tpos : Pos} {elts : List Expr} {kk : Nat}
theorem pi_zipK (hg : Gl X "zip") (hm : X.mg "zip" = none) (ha : PA X [e, e2] ta) (hs : starEach [e, e2] X.env = (false, eval e X.env) :: starEach [e2] X.env := by rfl) (hpl : (backTo pos (starEach [e2] X.env)).any (·.1) = false := by rfl) :
    PI X (.Tuple elts kk tpos) (.Call (.Name "zip" p) [e, e2] [] pos) (iZipK X.K ta) := ⟨fun pins s σ H R I h => by
  refine Call_ (ld_blt I hg hm PyProof.Rows.boot_zip (PyProof.Rows.callWith_type1 (thn (ha.run pos pins s σ H _ I h) fun us s1 hh => ?_) hs hpl))
  obtain ⟨vs, H1, J, rs, c, d, a, b, xs, ys, rfl, sa, sb, q⟩ := hh
  have fr : ∀ f, s1.heap.objs.size ≤ f → FpOk X pins H1 f := fun f le => J.fpOk le (J.hok.fresh le)
  cases rs with
  | cons r0 rs =>
  cases rs with
  | cons r1 rs =>
  cases rs
  cases r0
  cases r1
  obtain ⟨as, ra, ka, l1⟩ := sqK_at J sa
  obtain ⟨bs, rb, kb, l2⟩ := sqK_at J sb
  refine zip_begins2 (beginsK c a as.toArray) (beginsK d b bs.toArray) ka kb fun h1 g1 g2 g3 g4 g5 size up => wpAny_pyIter_zip g1 ?_
  have J2 : Inv X pins σ H1 { s1 with heap := h1 } := J.kept (t' := s1.toks) up
  refine ⟨s1.heap.objs.size + 4, [s1.heap.objs.size + 4, s1.heap.objs.size + 2, s1.heap.objs.size + 3, s1.heap.objs.size, s1.heap.objs.size + 1], _, _, H1, rfl, J2, turn_zipK (five_mk l1 l2), ⟨⟨g1, g2⟩, ⟨_, _, g3⟩, ItK.start g4, ItK.start g5⟩, fun f hf => fr f ?_, q⟩
  rcases mem5 hf with rfl | rfl | rfl | rfl | rfl <;> omega⟩
end
def jZipK (ta : DTA) : DTI := fun ρ μ Q => ta ρ μ fun vs μ1 => match vs with
  | [d, f] => (match seqD μ1 d, seqD μ1 f with
    | some xs, some ys => Q (zips xs ys) (fun μ' => seqD μ' d = some xs ∧ seqD μ' f = some ys) μ1
    | _, _ => False)
  | _ => False
theorem sqK_of {K : PySem.W.Frag} {H : Hp} {a : Addr} {vs : List V} {b : Bool} (h : (b = false ∧ SqL K H a vs) ∨ (b = true ∧ SqT K H a vs)) : SqK K b H a vs := by
  rcases h with ⟨rfl, h⟩ | ⟨rfl, h⟩ <;> exact h
section
variable {K : PySem.W.Frag} {F0 H0 : Hp} {μ0 : Mu} {a b : Addr} {c d : Bool} {xs ys : List SD} {ok : Mu → Prop}
theorem src_zipK (h : ∀ (F H : Hp) (μ : Mu), Stp F0 H0 μ0 F H μ → HReal K F H μ → ok μ → ∃ vs us, SqK K c H a vs ∧ RepL K F xs vs ∧ SqK K d H b us ∧ RepL K F ys us) : Src K F0 H0 μ0 (ItzK K c d a b) (zips xs ys) ok where
  go := fun i F H μ e R k hi => by
    obtain ⟨vs, us, h1, h2, h3, h4⟩ := h F H μ e R k
    rw [zips_len] at hi
    have l1 := h2.length
    have l2 := h4.length
    exact ⟨vs, us, vs[i]'(by omega), us[i]'(by omega), h1, h3, List.getElem?_eq_getElem _, List.getElem?_eq_getElem _⟩
  stop := fun F H μ e R k => by
    obtain ⟨vs, us, h1, h2, h3, h4⟩ := h F H μ e R k
    have l1 := h2.length
    have l2 := h4.length
    refine ⟨vs, us, h1, h3, ?_⟩
    rw [zips_len]
    omega
  yld := fun i F H μ x H' e R k y dd hd => by
    obtain ⟨vs, us, h1, h2, h3, h4⟩ := h F H μ e R k
    obtain ⟨T, x1, y1, rfl, hT, rfl, ya, yb⟩ := y
    obtain ⟨dx, dy, e1, e2, rfl⟩ := zips_at hd
    obtain ⟨v1, g1, r1⟩ := h2.get e1
    obtain ⟨v2, g2, r2⟩ := h4.get e2
    have z1 := (ya vs h1).symm.trans g1
    have z2 := (yb us h3).symm.trans g2
    cases z1; cases z2
    exact pair_new R hT r1 r2
end
section
variable {X : Cx} {e e2 : Expr} {ta : DTA} {p pos tpos : Pos} {elts : List Expr} {kk : Nat}
theorem di_zipK (hg : Gl X "zip") (hm : X.mg "zip" = none) (ha : DA X [e, e2] ta) (hs : starEach [e, e2] X.env = (false, eval e X.env) :: starEach [e2] X.env := by rfl) (hpl : (backTo pos (starEach [e2] X.env)).any (·.1) = false := by rfl) :
    DI X (.Tuple elts kk tpos) (.Call (.Name "zip" p) [e, e2] [] pos) (jZipK ta) := weakI (pi_zipK hg hm ha hs hpl) fun σ H R h => by
  obtain ⟨F, ρ, μ, Q', R0, S, t, k⟩ := h
  refine ⟨F, ρ, μ, _, R0, S, t, fun ds μ1 t1 F1 H1 vs s1 R1 r1 => ?_⟩
  match ds, r1, t1 with
  | [], _, t1 => exact t1.elim
  | [_], _, t1 => exact t1.elim
  | _ :: _ :: _ :: _, _, t1 => exact t1.elim
  | [d, f], .cons ra (.cons rb .nil), t1 =>
    replace t1 : (match seqD μ1 d, seqD μ1 f with
      | some xs, some ys => Q' (zips xs ys) (fun μ' => seqD μ' d = some xs ∧ seqD μ' f = some ys) μ1
      | _, _ => False) := t1
    cases e1 : seqD μ1 d with
    | none => rw [e1] at t1; exact t1.elim
    | some xs =>
      cases e3 : seqD μ1 f with
      | none => rw [e1, e3] at t1; exact t1.elim
      | some ys =>
        rw [e1, e3] at t1
        obtain ⟨a, va, rfl, rl, c1⟩ := R1.seq ra e1
        obtain ⟨b, vb, rfl, rm, c2⟩ := R1.seq rb e3
        refine ⟨isTup d, isTup f, a, b, va, vb, rfl, sqK_of c1, sqK_of c2, k _ _ _ t1 F1 H1 _ s1 R1 (src_zipK fun F2 H2 μ2 s2 R2 ok => ?_)⟩
        obtain ⟨a', v1, z1, r1, g1⟩ := R2.seq (ra.mono s2.ext) ok.1
        obtain ⟨b', v2, z2, r2, g2⟩ := R2.seq (rb.mono s2.ext) ok.2
        cases z1; cases z2
        exact ⟨v1, v2, sqK_of g1, r1, sqK_of g2, r2⟩
end
end DS
namespace DS
end DS
namespace DS
end DS
namespace DS
end DS
namespace DS
open PySem PySem.Spec PyProof.Rows L2
/-- what the clause 'except c as n' wishes: behind the suite the error's object is known -/
def wTrk (K : PySem.W.Frag) (c : Value) (i : Nat) (ts : Addr → Value → Option Addr → TS) (Wout : WX) (D : Ends) : WX := fun cls d σ H =>
  ∃ b, PySem.W.exmOne K cls c = some b ∧ (b = true → ∃ C, cls = .ref C ∧ ∀ a, H a = none → ts a cls d
    { nx := fun σ' H' => D.nx (σ'.set i none) (upd H' a (exq a C d)), rt := fun v H' => D.rt v (upd H' a (exq a C d)), bk := fun σ' H' => D.bk (σ'.set i none) (upd H' a (exq a C d)), ct := fun σ' H' => D.ct (σ'.set i none) (upd H' a (exq a C d)) } (σ.set i (some (.ref a))) H) ∧
    (b = false → Wout cls d σ H)
section
variable {X : Cx} {pins : List (Addr × Obj)} {σ : L2.St} {H : Hp} {s : Shared}
theorem inv_unsuite {a : Addr} {q : Addr × Obj} {pn' : List (Addr × Obj)} (I : Inv (X.suite a (q :: (X.pn ++ pins))) pn' σ H s) (ok : X.Ok) : Inv X (q :: pins) σ H s :=
  ⟨ok, I.os, I.bare, I.base, I.loc, I.cell, I.free, I.freeC, fun p hp => I.pin p (List.mem_append_left _ (by
    rcases List.mem_append.mp hp with h | h
    · exact List.mem_cons_of_mem _ (List.mem_append_left _ h)
    · rcases List.mem_cons.mp h with h | h
      · rw [h]; exact List.mem_cons_self ..
      · exact List.mem_cons_of_mem _ (List.mem_append_right _ h))), I.hok, I.len⟩
/-- an error's object that has come since the def was entered is known from now on -/
theorem inv_track {a C : Addr} {d : Option Addr} {oe : Obj} {vs : Array Value} (I : Inv X ((a, oe) :: pins) σ H s) (fresh : X.s_0.heap.get? a = none) (hd : oe.data = .fields vs) (hz : Zc (.ref C) d oe) (np : ∀ p ∈ X.pn ++ pins, p.1 ≠ a) : Inv X pins σ (upd H a (exq a C d)) s := by
  obtain ⟨e1, e2, e3, e4, e5⟩ := I.pin (a, oe) (List.mem_append_right _ (List.mem_cons_self ..))
  have e1 : s.heap.get? a = some oe := e1
  have e2 : H a = none := e2
  have sub : ∀ {p : Addr × Obj}, p ∈ X.pn ++ pins → p ∈ X.pn ++ ((a, oe) :: pins) := fun {p} hp => by
    rcases List.mem_append.mp hp with h | h
    · exact List.mem_append_left _ h
    · exact List.mem_append_right _ (List.mem_cons_of_mem _ h)
  have nb : ∀ {b : Addr} {o : Obj}, X.s_0.heap.get? b = some o → b ≠ a := fun {b o} e z => by rw [z, fresh] at e; cases e
  have nH : ∀ {b : Addr} {u : HO}, H b = some u → b ≠ a := fun {b u} e => ne_of_none e e2
  refine ⟨I.ok, I.os, I.bare, ⟨I.base.keep, I.base.slot, fun b o e n hx => ?_, I.base.there, fun b xs e => ?_, fun b o u e => ?_, fun b ps e => ?_⟩, I.loc, I.cell, ?_, fun y c e => ?_, fun p hp => ?_, fun b u e => ?_, I.len⟩
  · rw [upd_ne (nb e)]; exact I.base.free b o e n hx
  · have := I.base.tups b xs e
    rw [upd_ne (nH this)]; exact this
  · have := I.base.frzs b o u e
    rw [upd_ne (nH this)]; exact this
  · obtain ⟨more, this⟩ := I.base.tbls b ps e
    exact ⟨more, by rw [upd_ne (nH this)]; exact this⟩
  · rw [upd_ne (fun z => e3 z.symm)]; exact I.free
  · have hc : c ≠ a := fun z => by
      obtain ⟨v, o, ho, hcd⟩ := I.cell y c e
      rw [z, e1] at ho
      cases ho
      rw [hd] at hcd; cases hcd
    rw [upd_ne hc]; exact I.freeC y c e
  · obtain ⟨f1, f2, f3, f4, f5⟩ := I.pin p (sub hp)
    exact ⟨f1, by rw [upd_ne (np p hp)]; exact f2, f3, f4, f5⟩
  · by_cases hb : b = a
    · subst hb
      rw [upd_same] at e
      cases e
      exact ⟨⟨oe, vs, e1, hz, hd⟩, ⟨oe, e1⟩, fun h1 h2 ⟨oe, vs, g1, g2, g3⟩ st => ⟨oe, vs, st _ g1, g2, g3⟩⟩
    · rw [upd_ne hb] at e
      exact (I.hok b u e).stay (fun _ _ _ q => q) (fun d q => by rw [upd_ne (nH q)]; exact q) fun d xs q => by rw [upd_ne (nH q)]; exact q
end
section
variable {X : Cx} {x n : Str} {c : Value} {i : Nat} {body suite : List Stmt} {b₀ : Stmt} {np pos pos' : Pos} {tb : WX → TS} {ts : Addr → Value → Option Addr → TS} {Wout : WX}
theorem ps_try_trk (hs : X.stack = X.env :: X.outer) (hf : X.env.frame = some X.env.locals) (hex : X.ex = []) (hN : X.N.Nodup) (hi : X.N[i]? = some n) (hln : X.env.kindOf n = some .local) (hc : Names X x c) (tk : Takes X Wout)
    (hb : ∀ (W : WX) (pn : List (Addr × Obj)) (xe : Value → Shared → Prop), Takes (X.tr pn xe) W → PassesOwn (model X.prog X.w) X.A X.env xe → PSs (X.tr pn xe) body (tb W))
    (hsu : ∀ (a : Addr) (oe : Obj) (cls : Value) (d : Option Addr) (pn : List (Addr × Obj)), Zc cls d oe → (∃ vs, oe.data = .fields vs) → PSs (X.suite a ((a, oe) :: pn)) (b₀ :: suite) (ts a cls d)) :
    PS X (.Try body [.ExceptHandler (some (.Name x np)) (some n) (b₀ :: suite) pos'] [] [] pos) (fun D σ H => tb (wTrk X.K c i ts Wout D) D σ H) := by
  refine ⟨fun pins s σ H D I h => ?_⟩
  have ok := I.ok
  have hfr : X.A.frames = some (X.env :: X.outer) := by rw [ok.frames, hs]
  have hloc : Loc X.env.scope n := .inl hln
  refine wpAny_Try_except ?_
  refine wpAny_mono ((hb (wTrk X.K c i ts Wout D) (X.pn ++ pins) (fun e s₁ => wpAny (model X.prog X.w) X.A (noteFrame e X.env) (fun _ s₂ => wpAny (model X.prog X.w) X.A (setFlight e none) (fun _ s₃ =>
    wpAny (model X.prog X.w) X.A (handleBy e X.env [.ExceptHandler (some (.Name x np)) (some n) (b₀ :: suite) pos']) (SP X pins D) X.xe s₃) X.xe s₂) X.xe s₁) (fun u s' xx => ?_) PassesOwn.looking).run [] s σ H D (I.toTry _) h) (fun f s1 hsp => ?_) (fun e s1 he => he)
  · obtain ⟨a, B, sI, pins', σ', H', cls, d, rfl, J', nb, up, sky, na, os, ag, b, hb1, hyes, hno⟩ := xx
    have J : Inv X pins σ' H' sI := J'.ofTry ok
    have sky' : Sky B (X.env :: X.outer) a (Zc cls d) X.env.locals s'.heap := by rw [← hs]; exact sky
    show wpAny (model X.prog X.w) X.A (noteFrame (.ref a) X.env) _ _ _
    refine Sky.land Zc.steady hfr hf sky' fun h3 fl3 up3 => ?_
    have J3 : Inv X pins σ' H' { s' with heap := h3 } := J.landed nb fl3.1 (up.trans up3) os ag
    obtain ⟨oe3, vs3, he3, hz3, hd3⟩ := fl3.there
    have notFr : ∀ {h : Heap} {o : Obj} {vs : Array Value}, h.FunFrames B (X.env :: X.outer) → h.get? a = some o → o.data = .fields vs → a ∉ frs (X.env :: X.outer) := fun {h o vs} ff e dd hm => by
      obtain ⟨_, o', e', hnf⟩ := ff.mem hm
      rw [e] at e'; cases e'
      exact hnf _ dd
    have nfr := notFr fl3.2.2.1 he3 hd3
    have nL : a ≠ X.env.locals := fun z => nfr (List.mem_filterMap.mpr ⟨X.env, List.mem_cons_self, by rw [hf, z]⟩)
    have nF : a ∉ X.fs := fun hm => by
      obtain ⟨e, he, q⟩ := List.mem_filterMap.mp hm
      exact nfr (List.mem_filterMap.mpr ⟨e, List.mem_cons_of_mem _ he, q⟩)
    have notI : ∀ o, sI.heap.get? a ≠ some o := fun o e => by
      have := nb a o e (by rw [hs]; exact nfr)
      rw [fl3.2.1] at this; cases this
    have fresh : X.s_0.heap.get? a = none := by
      cases q : X.s_0.heap.get? a with
      | none => rfl
      | some o =>
        obtain ⟨o', e'⟩ := J.base.there a o q (by rw [hex]; simp)
        exact (notI o' e').elim
    have npin : ∀ p ∈ X.pn ++ pins, p.1 ≠ a := fun p hp z => notI p.2 (by have := (J.pin p hp).1; rw [z] at this; exact this)
    have S3 := J3.suite he3 hd3 na nL nF
    refine wpAny_handleBy_cons (codeAny_handlers_test ?_) (by intro q; cases q)
    have LT : PySem.W.Looks (model X.prog X.w) h3 (typeOf (.ref a)) cls := fun A Q E s k q => wpAny_typeOf_ref (k _ _ he3) (by rw [hz3.1]; exact q)
    have LM := PySem.W.exm_one (M := model X.prog X.w) (J3.kIn) LT hb1
    have test : ∀ {Q : Value → Shared → Prop} {E : Value → Shared → Prop}, Q c { s' with heap := h3 } → wpAny (model X.prog X.w) (X.A.mark (some (.ref a))) (eval (.Name x np) X.env) Q E { s' with heap := h3 } := fun {Q E} q => by
      obtain ⟨hg, hdbg, hm | ⟨hm, hv, hnn⟩⟩ := hc
      · exact ld_glob (X := X.suite a ((a, oe3) :: (X.pn ++ pins))) S3 hg hm q hdbg
      · exact ld_blt (X := X.suite a ((a, oe3) :: (X.pn ++ pins))) S3 hg hm hv q hnn hdbg
    refine test (LM.here ?_)
    cases b with
    | true =>
      obtain ⟨C, eC, hyes⟩ := hyes rfl
      subst eC
      refine codeAny_handlers_suite_as ?_
      refine HandSPX.lands_againZ fl3 fun h4 fl4 up4 => ?_
      have J4 : Inv X pins σ' H' { s' with heap := h4 } := J.landed nb fl4.1 ((up.trans up3).trans up4) os ag
      obtain ⟨oe4, vs4, he4, hz4, hd4⟩ := fl4.there
      have S4 := J4.suite he4 hd4 na nL nF
      refine store_ok (X := X.suite a ((a, oe4) :: (X.pn ++ pins))) (v := .ref a) S4 hN hi hloc rfl (fun s5 S5 => ?_) (.inr hln)
      refine wpAny_mono ((hsu a oe4 (.ref C) d (X.pn ++ pins) hz4 ⟨_, hd4⟩).run [] s5 _ H' _ S5 (hyes a na)) (fun f s6 hsp => ?_) (fun _ _ z => False.elim z)
      have end_ : ∀ {σ6 : L2.St} {H6 : Hp} {Q : Shared → Prop}, Inv (X.suite a ((a, oe4) :: (X.pn ++ pins))) [] σ6 H6 s6 → (∀ s7, Inv X pins (σ6.set i none) (upd H6 a (exq a C d)) s7 → Q s7) →
          wpAny (model X.prog X.w) X.A (do bindName X.env n .none; unbindBehindTheSuite X.env n pos') (fun _ s7 => Q s7) X.xe s6 := fun {σ6 H6 Q} S6 hq => gone_ok (inv_unsuite S6 ok) hN hi hln fun s7 J7 => hq s7 (inv_track J7 fresh hd4 hz4 npin)
      cases f with
      | next =>
        obtain ⟨σ6, H6, S6, q6⟩ := hsp
        exact end_ S6 fun s7 J7 => ⟨_, _, J7, q6⟩
      | brk =>
        obtain ⟨σ6, H6, S6, q6⟩ := hsp
        exact end_ S6 fun s7 J7 => ⟨_, _, J7, q6⟩
      | cont =>
        obtain ⟨σ6, H6, S6, q6⟩ := hsp
        exact end_ S6 fun s7 J7 => ⟨_, _, J7, q6⟩
      | ret u =>
        obtain ⟨v6, σ6, H6, S6, r6, q6⟩ := hsp
        exact end_ S6 fun s7 J7 => ⟨_, _, _, J7, r6, q6⟩
    | false =>
      show wpAny _ X.A (handleBy (.ref a) X.env []) _ _ _
      refine wpAny_handleBy_nil ?_
      obtain ⟨k1, k2, k3, oe, vs, T, oT, ts', he, hz, hd, h1, hr⟩ := id fl3
      unfold PySem.passOn
      refine wpAny_bind (wpAny_field he hd h1 ?_)
      rw [if_neg (show ¬ ((Value.ref T == Value.none) = true) from by simp)]
      have fin : wpAny (model X.prog X.w) X.A (setFlight (.ref a) X.env.frame) (fun _ s4 => wpAny (model X.prog X.w) X.A (throw (.ref a) : Sem Flow) (SP X pins D) X.xe s4) X.xe { s' with heap := h3 } := by
        rw [hf]
        refine HandSPX.setFlight_upZ fl3 fun h4 hh4 up4 => wpAny_throw (tk _ _ ?_)
        exact ⟨a, B, sI, pins, σ', H', cls, d, rfl, J, nb, (up.trans up3).trans up4, .inr (.inr (by rw [hs]; exact hh4)), na, os, ag, hno rfl⟩
      first
        | exact wpAny_bind (wpAny_pure (wpAny_bind fin))
        | exact wpAny_bind fin
  · cases f with
    | next =>
      obtain ⟨σ', H', J', q⟩ := hsp
      exact wpAny_execs_nil ⟨σ', H', J'.ofTry ok, q⟩
    | brk =>
      obtain ⟨σ', H', J', q⟩ := hsp
      exact ⟨σ', H', J'.ofTry ok, q⟩
    | cont =>
      obtain ⟨σ', H', J', q⟩ := hsp
      exact ⟨σ', H', J'.ofTry ok, q⟩
    | ret u =>
      obtain ⟨v, σ', H', J', r, q⟩ := hsp
      exact ⟨v, σ', H', J'.ofTry ok, r, q⟩
end
end DS
namespace DS
open PySem PySem.Spec PyProof.Rows L2 LamX
section
variable {X : Cx} {pins : List (Addr × Obj)} {σ : L2.St} {H HZ : Hp} {s s1 : Shared}
/-- x(), in the def that got the lambda -/
theorem pe_actS {CXg : CXT} {Eg : XK} {Ng : List Str} {qg : Str} {sg : Scope} {g f c' : Addr} {cdg pm ctv : Value} {params : Arguments} {body : Expr} {scope : Scope} {k i : Nat} {a : Str} {pn : List (Addr × Obj)} {xe : Value → Shared → Prop} {W : WX} {tb : XK → TE} {p1 p2 : Pos}
    (I : Inv X pins σ H s) (L : LamS X.env.scope scope) (hf : s.heap.get? f = some (PySem.W.kla_obj "<lambda>" (X.env.qual ++ "<lambda>") params body scope (cloFrom X.env.cells scope.names []) pm c' ctv)) (hfn : H f = none) (hfr : f ∉ frs X.stack)
    (hbind : bindArgs (PySem.W.kla_fn "<lambda>" (X.env.qual ++ "<lambda>") params body scope (cloFrom X.env.cells scope.names []) pm (.ref c') ctv) ⟨[], []⟩ = pure [])
    (tk : Takes ((cxOf CXg X.prog X.w X.K X.mg X.base Ng qg sg g cdg X.A X.stack s H Eg).tr pn xe) W) (hr : Room (k + 1) (X.A.deeper (envOfC qg sg s.heap.objs.size g cdg)))
    (hbody : ∀ (A : Around) (outer : List Env) (s : Shared) (H : Hp) (E : XK), A.guards = X.A.guards → Room k (A.deeper (lamEnv X scope s.heap.objs.size f c')) → PE (lamCx X A outer s H E scope f c') body (tb E))
    (hN : Ng[i]? = some a) (hv : Vis sg a) (hd : (a == ("__debug__" : Str)) = false := by decide) (hcd : (a == ("__classdict__" : Str)) = false := by decide) :
    PE ((cxOf CXg X.prog X.w X.K X.mg X.base Ng qg sg g cdg X.A X.stack s H Eg).tr pn xe) (.Call (.Name a p1) [] [] p2)
      (fun σZ HZ Q => σZ[i]? = some (some (.ref f)) ∧ HZ c' = some (CodeO c' (X.env.qual ++ "<lambda>")) ∧ ∃ E : XK, (∀ cls d H', E cls d H' → W cls d σZ H') ∧ tb E σ HZ Q) := by
  refine ⟨fun pinsZ sZ σZ HZ Q IZ h => ?_⟩
  obtain ⟨hs, hc, E, hW, ht⟩ := h
  refine wpAny_Call_Name_kw (thn ((pe_var (pos := p1) (i := i) hN hv hd hcd).run pinsZ sZ σZ HZ (fun v H1 => v = .ref f ∧ H1 = HZ) IZ ⟨.ref f, hs, rfl, rfl⟩) fun u s1 ⟨v, H1, I1, r1, q1⟩ => ?_)
  obtain ⟨ev, eH⟩ := q1
  subst ev
  rw [eH] at I1
  obtain rfl : u = Value.ref f := r1
  have of1 : s1.heap.get? f = some (PySem.W.kla_obj "<lambda>" (X.env.qual ++ "<lambda>") params body scope (cloFrom X.env.cells scope.names []) pm c' ctv) := I1.base.keep f _ hf hfn hfr (fun z => nomatch (show f ∈ ([] : List Addr) from z))
  refine PySem.W.callWith_F0 ⟨_, _, _, _, of1⟩ ?_
  have un : Un (frs X.stack) [] H HZ s.heap s1.heap := I1.base
  obtain ⟨⟨oc, vs, t, hoc, hdc, hvc⟩, _, _⟩ := I1.hok c' _ hc
  have rc : codeAny (model X.prog X.w) (X.A.deeper (envOfC qg sg s.heap.objs.size g cdg)) (.call (.ref f) ⟨[], []⟩) (CR (L2.CX X.prog X.w) (envOfC qg sg s.heap.objs.size g cdg :: X.stack) X.prog X.w HZ s1 Q E) s1 := by
    refine PySem.W.kla_callFunE hr.depth of1 rfl L.co L.gen rfl ⟨c', oc, vs, t, rfl, hoc, hdc, hvc⟩ ?_
    rw [hbind]
    refine wpAny_pure (wpAny_newFunctionEnv (fun y hy => (L.own y hy).2) (fun y hy => absurd hy (by simp)) (fun h₁ hns hsb => ⟨I1.nolimit.fresh _ hsb, ?_⟩) L.kind)
    show codeAny _ _ (.expr body (lamEnv X scope s1.heap.objs.size f c')) _ _
    have kp : ∀ b o, s1.heap.get? b = some o → h₁.get? b = some o := fun b o e => hsb.extBut b o (Nat.ne_of_lt (Heap.lt_size e)) (Heap.get?_push_of_some _ e)
    have J : Inv (lamCx X (X.A.deeper (envOfC qg sg s.heap.objs.size g cdg)) (envOfC qg sg s.heap.objs.size g cdg :: X.stack) s1 HZ E scope f c') [] σ HZ { s1 with heap := h₁, toks := s1.toks + ([] : List (Str × Value)).length } :=
      lam_start2 I L I1.env0 hr.hd un hns kp
    refine PySem.W.kla_codeExpr (wpAny_mono ((hbody (X.A.deeper (envOfC qg sg s.heap.objs.size g cdg)) _ s1 HZ E rfl (hr.deeper _)).run [] _ _ HZ Q J ht) (fun v s' hq => ?_) fun e s' hq => hq)
    obtain ⟨w', H', J', rv, q⟩ := hq
    exact ⟨w', H', J'.os, J'.bare, J'.base, J'.hok, rv, q⟩
  refine wpAny_call (codeAny_mono rc fun r s' hq => ?_)
  cases r with
  | error e => exact tk e s' (XE.of_call I1 hW hq)
  | ok fl =>
    cases fl with
    | ret u => exact I1.after hq
    | next => exact False.elim hq
    | brk => exact False.elim hq
    | cont => exact False.elim hq
/-- the lambda's code object at c' is the table's, or new and now in the table -/
def MadeC (H : Hp) (P : Addr) (q : Str) (c' : Addr) (H1 : Hp) : Prop := (H1 = H ∧ ∃ (ps : Array Value) (pos : Pos), H P = some (.tbl ps) ∧ codeAmong pos ps.toList = some (.ref c')) ∨
  ∃ ps more, H P = some (.tbl ps) ∧ H c' = none ∧ H1 = upd (upd H P (.tbl (ps ++ more))) c' (CodeO c' q) ∧ TriplesOk (ps ++ more).toList ∧ ∀ (pos : Pos) (cv : Value), codeAmong pos (ps ++ more).toList = some cv → codeAmong pos ps.toList = some cv ∨ cv = .ref c'
/-- the lambda is made; its address is new -/
theorem lam_make4 {c P : Addr} {q : Str} {params : Arguments} {body : Expr} {scope : Scope} {pos : Pos} {ps : Array Value} {E : Value → Shared → Prop} {Q : Value → Shared → Prop} (I : Inv X pins σ H s) (TB : LamX.TabB X.base X.mg c P) (hcode : X.env.code = .ref c)
    (hq : q = X.env.qual ++ "<lambda>") (hP : H P = some (.tbl ps)) (ht : TriplesOk ps.toList) (ha : ∀ (pos : Pos) (cv : Value), codeAmong pos ps.toList = some cv → ∃ c, cv = .ref c ∧ H c = some (LamX.CodeO c q))
    (hdef : defaultsOf params X.env = ([], [])) (hfree : ∀ y ∈ scope.names, y.2 = .free → ∃ c, X.env.cells.lookup y.1 = some c)
    (h : ∀ (f c' : Addr) (pm ctv : Value) (H1 : Hp) (s' : Shared), Inv X pins σ H1 s' → MadeC H P q c' H1 → H1 f = none → f ∉ frs X.stack →
      s'.heap.get? f = some (PySem.W.kla_obj "<lambda>" q params body scope (cloFrom X.env.cells scope.names []) pm c' ctv) → H1 c' = some (LamX.CodeO c' q) → Q (.ref f) s') :
    wpAny (model X.prog X.w) X.A (eval (.Lambda params body scope pos) X.env) Q E s := by
  subst hq
  refine PySem.W.kla_eval hdef ?_
  have bP : s.heap.BuiltinsAt X.mg P := TB.bm.keeps I.bk
  have hP' : s.heap.get? P = some { cls := .none, data := .fields ps } := I.hok P _ hP
  have nofr : ∀ f, s.heap.objs.size ≤ f → f ∉ frs X.stack := fun f hf z => by
    rcases List.mem_cons.mp (I.stkSub _ z) with e | e
    · have h1 := I.lt
      rw [← e] at h1
      exact Nat.lt_irrefl _ (Nat.lt_of_lt_of_le h1 hf)
    · exact I.nofs hf e
  cases hc : codeAmong pos ps.toList with
  | none =>
    refine PySem.W.kla_makeFunction (mg := X.mg) (c := c) (P := P) (ps := ps) (closure_ok hfree) I.ok.glob (I.mod.glob.keeps I.bk) hcode (TB.code.keeps I.bk) hP' ht hc TB.gP bP fun c' ctv h' tk hx hge hlt hrec htb => ?_
    obtain ⟨c2, oc, vs, t, e2, hoc, hd, hv⟩ := hrec
    cases e2
    have nC : H c' = none := I.hok.fresh hge
    have hsz : s.heap.objs.size ≤ h'.objs.size := Nat.le_trans hge (Nat.le_of_lt hlt)
    have I1 := LamX.inv_table (t' := tk) (more := #[rawInt pos.line, rawInt pos.col, .ref c']) (h' := h'.push (PySem.W.kla_obj "<lambda>" (X.env.qual ++ "<lambda>") params body scope (cloFrom X.env.cells scope.names []) ((X.mg "__name__").getD .none) c' ctv)) I hP
      (fun b o hb e => Heap.get?_push_of_some _ (hx b o hb e)) (Heap.get?_push_of_some _ htb) hge ⟨oc, vs, t, Heap.get?_push_of_some _ hoc, hd, hv⟩
    have eL : (ps ++ #[rawInt pos.line, rawInt pos.col, .ref c']).toList = ps.toList ++ [rawInt pos.line, rawInt pos.col, .ref c'] := by simp
    refine h h'.objs.size c' ((X.mg "__name__").getD .none) ctv _ _ I1 (.inr ⟨ps, _, hP, nC, rfl, by rw [eL]; exact PySem.TriplesOk_snoc _ _ _ _ ht, fun p' cv hcv => ?_⟩) ?_ (nofr _ hsz) (Heap.get?_push_size _ rfl) upd_same
    · rw [eL] at hcv
      exact LamX.among_app _ ht hcv
    · have n1 : h'.objs.size ≠ c' := Nat.ne_of_gt hlt
      have n2 : h'.objs.size ≠ P := Nat.ne_of_gt (Nat.lt_of_lt_of_le (Heap.lt_size hP') hsz)
      rw [upd_ne n1, upd_ne n2]
      exact I.hok.fresh hsz
  | some cv =>
    obtain ⟨c', e, hco⟩ := ha pos cv hc
    subst e
    refine PySem.W.kla_makeFunctionHit (mg := X.mg) (c := c) (P := P) (ps := ps) (closure_ok hfree) I.ok.glob (I.mod.glob.keeps I.bk) hcode (TB.code.keeps I.bk) hP' ht hc bP fun ctv h' tk hx hsz => ?_
    have I1 : Inv X pins σ H { s with heap := h'.push (PySem.W.kla_obj "<lambda>" (X.env.qual ++ "<lambda>") params body scope (cloFrom X.env.cells scope.names []) ((X.mg "__name__").getD .none) c' ctv), toks := tk } := I.kept fun b o e => Heap.get?_push_of_some _ (hx b o e)
    exact h h'.objs.size c' ((X.mg "__name__").getD .none) ctv H _ I1 (.inl ⟨rfl, ps, pos, hP, hc⟩) (I.hok.fresh hsz) (nofr _ hsz) (Heap.get?_push_size _ rfl) hco
end
/-- the def g that calls what it got (its first parameter a): TT: what it makes of the lambda's reading -/
def GivesS (X : Cx) (Ng : List Str) (x : Str) (sg : Scope) (g : Addr) (cdg : Value) (bg : List Stmt) (a : Str) (q : Str) (TT : Addr → Addr → (XK → Hp → VK → Prop) → Hp → VK → Prop) : Prop :=
  ∀ (f c' : Addr) (s : Shared) (H : Hp) (Q : VK) (tl : XK → Hp → VK → Prop),
    (∀ (W : WX) (pn : List (Addr × Obj)) (xe : Value → Shared → Prop) (p1 p2 : Pos), Takes ((cxOf C8.CX0 X.prog X.w X.K X.mg X.base Ng x sg g cdg X.A X.stack s H C8.E0).tr pn xe) W →
      PE ((cxOf C8.CX0 X.prog X.w X.K X.mg X.base Ng x sg g cdg X.A X.stack s H C8.E0).tr pn xe) (.Call (.Name a p1) [] [] p2) (fun σZ HZ Q => σZ[0]? = some (some (.ref f)) ∧ HZ c' = some (CodeO c' q) ∧ ∃ E : XK, (∀ cls d H', E cls d H' → W cls d σZ H') ∧ tl E HZ Q)) →
    H c' = some (CodeO c' q) → TT f c' tl H Q →
    ∃ t, PSs (cxOf C8.CX0 X.prog X.w X.K X.mg X.base Ng x sg g cdg X.A X.stack s H C8.E0).nox bg t ∧ t { nx := fun _ H' => Q .non H', rt := Q } (L2.start Ng [.ref f]) H
def tLamS (K : PySem.W.Frag) (y q : Str) (TT : Addr → Addr → (XK → Hp → VK → Prop) → Hp → VK → Prop) (t : XK → TE) : TE := fun σ H Q => ∃ (P : Addr) (ps : Array Value), TabAt K y P ∧ H P = some (.tbl ps) ∧ TriplesOk ps.toList ∧
  (∀ (pos : Pos) (cv : Value), codeAmong pos ps.toList = some cv → ∃ c, cv = .ref c ∧ H c = some (LamX.CodeO c q)) ∧
  ∀ (f c' : Addr) (H1 : Hp), MadeC H P q c' H1 → H1 f = none → H1 c' = some (LamX.CodeO c' q) → TT f c' (fun E H' Q' => t E σ H' Q') H1 Q
section
variable {X : Cx}
/-- x(lambda: body), in the def named y -/
theorem pe_lamcallS {TT : Addr → Addr → (XK → Hp → VK → Prop) → Hp → VK → Prop} {x a y q : Str} {g : Addr} {k : Nat} {pg : Arguments} {bg : List Stmt} {sg : Scope} {dV kV doc pm cdv ct oc : Value} {an od : Option Addr} {osl : Array (Option Value)} {Ng : List Str}
    {params : Arguments} {body : Expr} {scope : Scope} {t : XK → TE} {p lpos pos : Pos} (hbm : BM X.base X.mg) (hw : OwnC X y) (hq : q = X.env.qual ++ "<lambda>") (hg : Gl X x) (hm : X.mg x = some (.ref g)) (hk : PySem.W.keepIn X.K (.ref g) = true)
    (lk : X.K.lookup g = some ⟨oc, od, .func (PySem.W.fnOf x x pg bg sg dV kV doc pm an cdv ct), osl⟩) (hcg : PySem.W.codeIn X.K cdv x = true) (hb : L2.Binds X.K (PySem.W.fnOf x x pg bg sg dV kV doc pm an cdv ct) [a] []) (Sg : FnScope Ng [a] sg) (hNg : Ng[0]? = some a) (hva : Vis sg a)
    (hG : GivesS X Ng x sg g cdv bg a q TT)
    (hr : Room (k + 2) X.A) (L : LamS X.env.scope scope) (hdef : defaultsOf params X.env = ([], []))
    (hbind : ∀ (q : Str) (cl : List (Str × Addr)) (pm cv ctv : Value), bindArgs (PySem.W.kla_fn "<lambda>" q params body scope cl pm cv ctv) ⟨[], []⟩ = pure [])
    (hbody : ∀ (A : Around) (outer : List Env) (s : Shared) (H : Hp) (E : XK) (f c' : Addr), A.guards = X.A.guards → Room k (A.deeper (lamEnv X scope s.heap.objs.size f c')) → PE (lamCx X A outer s H E scope f c') body (t E))
    (hdb : (x == ("__debug__" : Str)) = false := by decide) (hd : (a == ("__debug__" : Str)) = false := by decide) (hcd : (a == ("__classdict__" : Str)) = false := by decide) :
    PE X (.Call (.Name x p) [.Lambda params body scope lpos] [] pos) (tLamS X.K y q TT t) := by
  refine ⟨fun pins s σ H Q I h => ?_⟩
  obtain ⟨P, ps, hTA, hP, ht, ha, h⟩ := h
  obtain ⟨c, hcode, TB⟩ := tabB_of I hbm hw hTA hP
  refine wpAny_Call_Name_kw (ld_glob I hg hm ?_ hdb)
  refine PySem.W.callWith_K (h₀ := X.base) I.ok.mod.kin hk ?_ (by rfl) (by rfl)
  show wpAny _ _ (spliced ((false, eval (.Lambda params body scope lpos) X.env) :: backTo pos (starEach [] X.env))) _ _ s
  refine Calls.spliced_cons (lam_make4 I TB hcode hq hP ht ha hdef (L.has I.ok) fun f c' pm' ctv H1 s' I1 made hfn hfr hf hco => ?_)
  refine Calls.spliced_nil ⟨I1.kIn, ?_⟩
  subst hq
  have rc : codeAny (model X.prog X.w) X.A (.call (.ref g) ⟨[.ref f], []⟩) (CR C8.CX0 X.stack X.prog X.w H1 s' Q C8.E0) s' := by
    refine run_ofS (N := Ng) (ps := [a]) (us := [.ref f]) (vs := [.ref f]) lk hcg Sg hr I1.env0 (hb s' [.ref f] I1.kIn rfl) (.cons rfl .nil) rfl fun hr' => ?_
    obtain ⟨t', ht', hq'⟩ := hG f c' s' H1 Q (fun E H' Q' => t E σ H' Q') (fun W pn xe p1 p2 tk => pe_actS (i := 0) I1 L hf hfn hfr (hbind _ _ _ _ _) tk hr' (fun A outer s H E hgd hr2 => hbody A outer s H E f c' hgd hr2) hNg hva hd hcd) hco (h f c' H1 made hfn hco)
    exact ⟨t', ht'.nox, hq'⟩
  refine wpAny_call (codeAny_mono rc fun r s2 hq => ?_)
  cases r with
  | error e => exact (show False from hq).elim
  | ok fl =>
    cases fl with
    | ret u => exact I1.after hq
    | next => exact False.elim hq
    | brk => exact False.elim hq
    | cont => exact False.elim hq
end
end DS
namespace DS
open PySem PySem.Spec PyProof.Rows L2
/-- the wish for errors: the class by its name, the fields -/
abbrev DXX := Str → List (Str × SD) → Mu → Prop
abbrev DSpX := List SD → Mu → (SD → Mu → Prop) → DXX → Prop
abbrev HInv := Hp → Hp → Mu → Prop
def Grows (An : HInv) : Prop := ∀ F H μ F' H' μ', An F H μ → Stp F H μ F' H' μ' → An F' H' μ'
theorem grows_stp (F H : Hp) (μ : Mu) : Grows (Stp F H μ) := fun _ _ _ _ _ _ a b => a.trans b
/-- the own dict of an error, known for good -/
def XRepF (K : PySem.W.Frag) (F : Hp) (od : Option Addr) (fs : List (Str × SD)) : Prop :=
  (od = none ∧ fs = []) ∨ ∃ d vs, od = some d ∧ F d = some (.xd vs) ∧ vs.map (·.1) = fs.map (·.1) ∧ RepL K F (fs.map (·.2)) (vs.map (·.2))
/-- an error in the air, told in data -/
def EX (K : PySem.W.Frag) (An : HInv) (Ex : DXX) : XK := fun cls od H => ∃ F μ C x fs, cls = .ref C ∧ An F H μ ∧ HReal K F H μ ∧ XcK K x C (fs.map (·.1)) ∧ XRepF K F od fs ∧ Ex x fs μ
def LSpX (K : PySem.W.Frag) (sp : DSpX) : Sp := fun vs H Q E => ∃ F μ ds Q' E', HReal K F H μ ∧ RepL K F ds vs ∧ sp ds μ Q' E' ∧
  (∀ d μ', Q' d μ' → ∀ F' H' v, Stp F H μ F' H' μ' → HReal K F' H' μ' → RepS K F' d v → Q v H') ∧ ∀ cls od H', EX K (Stp F H μ) E' cls od H' → E cls od H'
theorem EX.mono {K : PySem.W.Frag} {An An' : HInv} {Ex : DXX} {cls : Value} {od : Option Addr} {H : Hp} (h : EX K An Ex cls od H) (k : ∀ F H μ, An F H μ → An' F H μ) : EX K An' Ex cls od H := by
  obtain ⟨F, μ, C, x, fs, e, a, r⟩ := h
  exact ⟨F, μ, C, x, fs, e, k _ _ _ a, r⟩
def LEA (K : PySem.W.Frag) (An : HInv) (t : DTE) : TE := fun σ H Q => ∃ F ρ μ Q', HReal K F H μ ∧ Slots K F σ ρ ∧ An F H μ ∧ t ρ μ Q' ∧
  ∀ d μ', Q' d μ' → ∀ F' H' v, Stp F H μ F' H' μ' → HReal K F' H' μ' → RepS K F' d v → Q v H'
def LTA (K : PySem.W.Frag) (An : HInv) (t : DTT) : TT := fun σ H Q => ∃ F ρ μ Q', HReal K F H μ ∧ Slots K F σ ρ ∧ An F H μ ∧ t ρ μ Q' ∧
  ∀ b μ', Q' b μ' → ∀ F' H', Stp F H μ F' H' μ' → HReal K F' H' μ' → Q b H'
def LAA (K : PySem.W.Frag) (An : HInv) (t : DTA) : TA := fun σ H Q => ∃ F ρ μ Q', HReal K F H μ ∧ Slots K F σ ρ ∧ An F H μ ∧ t ρ μ Q' ∧
  ∀ ds μ', Q' ds μ' → ∀ F' H' vs, Stp F H μ F' H' μ' → HReal K F' H' μ' → RepL K F' ds vs → Q vs H'
def LSA (K : PySem.W.Frag) (An : HInv) (t : DTS) : TS := fun D σ H => ∃ F ρ μ D', HReal K F H μ ∧ Slots K F σ ρ ∧ An F H μ ∧ t D' ρ μ ∧
  (∀ ρ' μ', D'.nx ρ' μ' → ∀ F' H' σ', Stp F H μ F' H' μ' → HReal K F' H' μ' → Slots K F' σ' ρ' → D.nx σ' H') ∧
  (∀ d μ', D'.rt d μ' → ∀ F' H' v, Stp F H μ F' H' μ' → HReal K F' H' μ' → RepS K F' d v → D.rt v H') ∧
  (∀ ρ' μ', D'.bk ρ' μ' → ∀ F' H' σ', Stp F H μ F' H' μ' → HReal K F' H' μ' → Slots K F' σ' ρ' → D.bk σ' H') ∧
  (∀ ρ' μ', D'.ct ρ' μ' → ∀ F' H' σ', Stp F H μ F' H' μ' → HReal K F' H' μ' → Slots K F' σ' ρ' → D.ct σ' H')
abbrev EA (An : HInv) (X : Cx) (e : Expr) (t : DTE) : Prop := PE X e (LEA X.K An t)
abbrev TA_ (An : HInv) (X : Cx) (e : Expr) (t : DTT) : Prop := PT X e (LTA X.K An t)
abbrev AA (An : HInv) (X : Cx) (es : List Expr) (t : DTA) : Prop := PA X es (LAA X.K An t)
abbrev SA (An : HInv) (X : Cx) (s : Stmt) (t : DTS) : Prop := PS X s (LSA X.K An t)
abbrev SAs (An : HInv) (X : Cx) (s : List Stmt) (t : DTS) : Prop := PSs X s (LSA X.K An t)
section
variable {An : HInv} {X : Cx} {pos p : Pos} {a b c e o iter tg : Expr} {es : List Expr} {x : Str} {st : Stmt} {rest body ss uu : List Stmt} {te ta tb : DTE} {tt : DTT} {t u : DTS} {ts : DTA}
/-- what raises nothing -/
theorem ea (h : DE X e te) : EA An X e te := weakE h fun _ _ _ ⟨F, ρ, μ, Q', R, S, _, t, k⟩ => ⟨F, ρ, μ, Q', R, S, t, k⟩
theorem ta_ (h : DT X e tt) : TA_ An X e tt := weakT h fun _ _ _ ⟨F, ρ, μ, Q', R, S, _, t, k⟩ => ⟨F, ρ, μ, Q', R, S, t, k⟩
theorem aa (h : DA X es ts) : AA An X es ts := weakA h fun _ _ _ ⟨F, ρ, μ, Q', R, S, _, t, k⟩ => ⟨F, ρ, μ, Q', R, S, t, k⟩
theorem sa (h : DS_ X st t) : SA An X st t := weakS h fun _ _ _ ⟨F, ρ, μ, D', R, S, _, t, k⟩ => ⟨F, ρ, μ, D', R, S, t, k⟩
theorem sas (h : DSs X body t) : SAs An X body t := weakSs h fun _ _ _ ⟨F, ρ, μ, D', R, S, _, t, k⟩ => ⟨F, ρ, μ, D', R, S, t, k⟩
theorem sas_cons (hA : Grows An) (h1 : SA An X st t) (h2 : SAs An X rest u) : SAs An X (st :: rest) (dSeq t u) := weakSs (pss_cons h1 h2) fun D σ H h => by
  obtain ⟨F, ρ, μ, D', R, S, an, t, k, k2, k3, k4⟩ := h
  exact ⟨F, ρ, μ, _, R, S, an, t, fun ρ1 μ1 t1 F1 H1 σ1 s1 R1 S1 => ⟨F1, ρ1, μ1, D', R1, S1, hA _ _ _ _ _ _ an s1, t1, fun ρ' μ' q F' H' σ' s => k ρ' μ' q F' H' σ' (s1.trans s), fun d μ' q F' H' v s => k2 d μ' q F' H' v (s1.trans s),
    fun ρ' μ' q F' H' σ' s => k3 ρ' μ' q F' H' σ' (s1.trans s), fun ρ' μ' q F' H' σ' s => k4 ρ' μ' q F' H' σ' (s1.trans s)⟩, k2, k3, k4⟩
theorem sas_one (h1 : SA An X st t) : SAs An X [st] t := pss_one h1
theorem sa_if (hA : Grows An) (hc : TA_ An X c tt) (ha : SAs An X ss t) (hb : SAs An X uu u) : SA An X (.If c ss uu pos) (dIfS tt t u) := weakS (ps_if hc ha hb) fun D σ H h => by
  obtain ⟨F, ρ, μ, D', R, S, an, t, k, k2, k3, k4⟩ := h
  refine ⟨F, ρ, μ, _, R, S, an, t, fun d μ1 t1 F1 H1 s1 R1 => ?_⟩
  cases d with
  | true => exact ⟨F1, ρ, μ1, D', R1, S.mono s1.ext, hA _ _ _ _ _ _ an s1, t1, fun ρ' μ' q F' H' σ' s => k ρ' μ' q F' H' σ' (s1.trans s), fun d μ' q F' H' v s => k2 d μ' q F' H' v (s1.trans s),
    fun ρ' μ' q F' H' σ' s => k3 ρ' μ' q F' H' σ' (s1.trans s), fun ρ' μ' q F' H' σ' s => k4 ρ' μ' q F' H' σ' (s1.trans s)⟩
  | false => exact ⟨F1, ρ, μ1, D', R1, S.mono s1.ext, hA _ _ _ _ _ _ an s1, t1, fun ρ' μ' q F' H' σ' s => k ρ' μ' q F' H' σ' (s1.trans s), fun d μ' q F' H' v s => k2 d μ' q F' H' v (s1.trans s),
    fun ρ' μ' q F' H' σ' s => k3 ρ' μ' q F' H' σ' (s1.trans s), fun ρ' μ' q F' H' σ' s => k4 ρ' μ' q F' H' σ' (s1.trans s)⟩
theorem sa_for {wi : DTI} {g : DTG} (hA : Grows An) (hp : PassesOwn (model X.prog X.w) X.A X.env X.xe) (hc : X.calm = true) (hi : DI X tg iter wi) (hg : DG X tg g) (hb : SAs An X body t)
    (hs : ∀ x, foldedSetIterable iter X.env x = pure x := by intro _; rfl) : SA An X (.For tg iter body [] pos) (dFor wi g t) := weakS (ps_for hp hc hi hg hb hs) fun D σ H h => by
  obtain ⟨F0, ρ0, μ0, D', R0, S0, an, t, k, k2, k3, k4⟩ := h
  refine ⟨F0, ρ0, μ0, _, R0, S0, t, fun ds ok μ1 t1 F1 H1 J s1 R1 src => ?_⟩
  obtain ⟨W, w0, hok, turn, fin⟩ := t1
  refine ⟨fun i m σ' H' => i + m = ds.length ∧ ∃ F ρ μ, Stp F1 H1 μ1 F H' μ ∧ HReal X.K F H' μ ∧ Slots X.K F σ' ρ ∧ W i ρ μ, ⟨ds.length, by omega, F1, ρ0, μ1, Stp.refl _ _ _, R1, S0.mono s1.ext, w0⟩, ?_⟩
  rintro i m σ' H' ⟨him, F, ρ, μ, s, R, S, w⟩
  have hle : i ≤ ds.length := by omega
  by_cases hi : i < ds.length
  · refine .inr ⟨src.go i F H' μ s R (hok i ρ μ hle w) hi, fun σ2 H2 => ∃ F ρ μ, Stp F1 H1 μ1 F H2 μ ∧ HReal X.K F H2 μ ∧ Slots X.K F σ2 ρ ∧ W (i + 1) ρ μ, ?_, ?_⟩
    · rintro σ2 H2 ⟨F', ρ', μ', s', R', S', w'⟩
      exact ⟨ds.length - (i + 1), by omega, by omega, F', ρ', μ', s', R', S', w'⟩
    · intro x H2 y
      obtain ⟨F', s', R', r'⟩ := src.yld i F H' μ x H2 s R (hok i ρ μ hle w) y _ (List.getElem?_eq_getElem hi)
      refine ⟨F', ρ, μ, _, _, R', S.mono s'.ext, r', turn i _ ρ μ (List.getElem?_eq_getElem hi) w, fun ρ2 μ2 t2 F2 H3 σ2 s2 R2 S2 => ?_⟩
      refine ⟨F2, ρ2, μ2, _, R2, S2, hA _ _ _ _ _ _ an (s1.trans ((s.trans s').trans s2)), t2, ?_, ?_, ?_, ?_⟩
      · exact fun ρ' μ' q F'' H'' σ'' s'' R'' S'' => ⟨F'', ρ', μ', ((s.trans s').trans s2).trans s'', R'', S'', q⟩
      · exact fun d μ' q F'' H'' v s'' R'' r'' => k2 d μ' q F'' H'' v (s1.trans (((s.trans s').trans s2).trans s'')) R'' r''
      · exact fun ρ' μ' q F'' H'' σ'' s'' R'' S'' => k ρ' μ' q F'' H'' σ'' (s1.trans (((s.trans s').trans s2).trans s'')) R'' S''
      · exact fun ρ' μ' q F'' H'' σ'' s'' R'' S'' => ⟨F'', ρ', μ', ((s.trans s').trans s2).trans s'', R'', S'', q⟩
  · have e : i = ds.length := by omega
    subst e
    exact .inl ⟨src.stop F H' μ s R (hok _ ρ μ hle w), k ρ μ (fin ρ μ w) F H' σ' (s1.trans s) R S⟩
end
/-- C(e), about to be raised: the error is not known, its dict is -/
def tMkX (C : Addr) (f : Str) (te : TE) : L2.St → Hp → XK → Prop := fun σ H Q => te σ H fun y H1 => ∀ dx, H1 dx = none → Q (.ref C) (some dx) (upd H1 dx (.xd [(f, y)]))
section
variable {X : Cx} {x f q qual : Str} {st : Stmt} {k n : Nat} {e : Expr} {te : TE} {p pos : Pos}
theorem pmk_x {D : XDef X.K X.mg x f q qual st} (F : XIni X.prog X.w X.base D k) (hq : Quiet X.A) (hr : Room n X.A) (ha : PE X e te) (hk : k + 1 ≤ n := by omega) (hg : Gl X x := by rfl) (hdb : (x == ("__debug__" : Str)) = false := by decide)
    (he : starEach [e] X.env = (false, eval e X.env) :: starEach [] X.env := by rfl) : PMk X (.Call (.Name x p) [e] [] pos) (tMkX D.C f te) := by
  intro pins s σ H Q I h
  refine wpAny_Call_Name_kw (ld_glob I hg D.m ?_ hdb)
  refine PySem.W.callWith_K (h₀ := X.base) I.ok.mod.kin D.o.kC (thn ((pa_cons ha pa_nil he).run pos pins s σ H (fun vs H1 => match vs with | [y] => ∀ dx, H1 dx = none → Q (.ref D.C) (some dx) (upd H1 dx (.xd [(f, y)])) | _ => False) I h) fun us s1 z => ?_) he (by rfl)
  obtain ⟨vs, H1, I1, r1, q1⟩ := z
  match vs, us, r1, q1 with
  | [y], [u], .cons r0 .nil, q1 =>
    refine ⟨I1.kIn, ?_⟩
    have hr := hr.mono hk
    obtain ⟨nm, qn, N, bs, bm, sn, sub, ab, col, dd, k0, k1, k2, k3, k5, hC, hbm⟩ := D.o.cls
    obtain ⟨hp, g, dr, tk, os⟩ := s1
    have old : ∀ b o, hp.get? b = some o → ((hp.push (PySem.W.kdv_tup [u])).push (PySem.HandSPX.excO D.C hp.objs.size)).get? b = some o := fun b o e => Heap.get?_push_of_some _ (Heap.get?_push_of_some _ e)
    have new : ((hp.push (PySem.W.kdv_tup [u])).push (PySem.HandSPX.excO D.C hp.objs.size)).get? (hp.objs.size + 1) = some (PySem.HandSPX.excO D.C hp.objs.size) := by heap_get
    have na : H1 (hp.objs.size + 1) = none := I1.hok.fresh (Nat.le_succ _)
    have J := I1.laid (t' := tk) (a := hp.objs.size + 1) (o := exo (hp.objs.size + 1) D.C none) (h' := (hp.push (PySem.W.kdv_tup [u])).push (PySem.HandSPX.excO D.C hp.objs.size)) old (Nat.le_succ _) (exo_ok new)
    have want : spI D.C f [.ref (hp.objs.size + 1), y] (upd H1 (hp.objs.size + 1) (exo (hp.objs.size + 1) D.C none))
        (fun v H2 => v = .non ∧ ∃ dx, H1 dx = none ∧ dx ≠ hp.objs.size + 1 ∧ H2 = upd (upd (upd H1 (hp.objs.size + 1) (exo (hp.objs.size + 1) D.C none)) dx (exd dx [(f, y)])) (hp.objs.size + 1) (exo (hp.objs.size + 1) D.C (some dx))) E0 :=
      ⟨_, y, rfl, upd_same, fun dx n ne => ⟨rfl, dx, by rw [upd_ne ne] at n; exact n, ne, rfl⟩⟩
    have vals : Vals [V.ref (hp.objs.size + 1), y] [Value.ref (hp.objs.size + 1), u] := .cons rfl (.cons r0 .nil)
    have binds : BindsTo ⟨(hp.push (PySem.W.kdv_tup [u])).push (PySem.HandSPX.excO D.C hp.objs.size), g, dr, tk, os⟩ D.fd ⟨.ref (hp.objs.size + 1) :: [u], []⟩ ((["self", q] : List Str).zip [.ref (hp.objs.size + 1), u]) := D.b _ [_, _] J.kIn rfl
    have go := F.go (X.A.under (.builtin "type.__call__" ⟨.ref D.C :: [u], []⟩)) X.stack _ _ _ _ _ _ E0 (quiet_make hq D.C [u] []) (hr.make D.C [u] []) (J.env0.make D.C [u] []) binds vals want
    show wpAny _ _ (call (.ref D.C) [u]) _ _ _
    refine wpAny_call (PySem.HandSPX.call_own PySem.F.excBase_ValueError (fun Y => PySem.HandSPX.refsVE_contains Y bm hbm) (I1.kIn _ _ hC) (PySem.W.looks_findIn I1.kIn D.ini) (fun self => PySem.W.bind_fn I1.kIn self D.fn) (by show 1 ≤ sizeLine; decide)
      (codeAny_mono go fun r s' hq' => ?_))
    match r, hq' with
    | .error _, z => exact False.elim z
    | .ok .next, z => exact False.elim z
    | .ok .brk, z => exact False.elim z
    | .ok .cont, z => exact False.elim z
    | .ok (.ret w), z =>
      obtain ⟨v, H2, os2, bare2, un2, hok2, rv, ev, dx, nx, nex, eH⟩ := z
      subst ev
      obtain ⟨h2, g2, d2, t2, os'⟩ := s'
      have e1 : H2 (hp.objs.size + 1) = some (exo (hp.objs.size + 1) D.C (some dx)) := by rw [eH, upd_same]
      have e2 : H2 dx = some (exd dx [(f, y)]) := by rw [eH, upd_ne nex, upd_same]
      have e3 : upd (del H2 (hp.objs.size + 1)) dx (.xd [(f, y)]) = upd H1 dx (.xd [(f, y)]) := by
        funext b
        by_cases h1 : b = dx
        · rw [h1, upd_same, upd_same]
        · rw [upd_ne h1, upd_ne h1]
          by_cases h2 : b = hp.objs.size + 1
          · rw [h2, del_same, na]
          · rw [del_ne h2, eH, upd_ne h2, upd_ne h1, upd_ne h2]
      exact ⟨rv, mk_end (raises_own D.o.exC D.o.tyC) I1 (Nat.le_succ _) old un2 hok2 os2 bare2 e1 e2 nx (by rw [e3]; exact q1 dx nx)⟩
  | [], _, _, q1 => exact q1.elim
  | _ :: _ :: _, _, _, q1 => exact q1.elim
end
/-- where errors may leave: what is wished of them -/
structure Rz (An : HInv) (Ex : DXX) (X : Cx) : Prop where
  gr : Grows An
  tk : Takes X fun cls od _ H => EX X.K An Ex cls od H
theorem takes_mono {X : Cx} {W W' : WX} (t : Takes X W) (h : ∀ cls d σ H, W' cls d σ H → W cls d σ H) : Takes X W' := fun u s' z => t u s' (by
  obtain ⟨a, B, sI, pins, σ, H, cls, d, e1, e2, e3, e4, e5, e6, e7, e8, w⟩ := z
  exact ⟨a, B, sI, pins, σ, H, cls, d, e1, e2, e3, e4, e5, e6, e7, e8, h _ _ _ _ w⟩)
theorem Rz.mono {An : HInv} {Ex Ex' : DXX} {X : Cx} (R : Rz An Ex X) (h : ∀ x fs μ, Ex' x fs μ → Ex x fs μ) : Rz An Ex' X := ⟨R.gr, takes_mono R.tk fun cls d σ H z => by
  obtain ⟨F, μ, C, x, fs, e, a, r, c, o, q⟩ := z
  exact ⟨F, μ, C, x, fs, e, a, r, c, o, h _ _ _ q⟩⟩
abbrev dRaise (x f : Str) (Ex : DXX) (te : DTE) : DTS := fun _ ρ μ => te ρ μ fun d μ1 => Ex x [(f, d)] μ1
theorem passesX0 {X : Cx} : Passes (L2.CX X.prog X.w) X E0 := fun _ _ _ _ _ _ _ c => by
  obtain ⟨_, _, _, _, _, _, _, _, _, _, _, _, h⟩ := c
  exact h.elim
section
variable {An : HInv} {Ex : DXX} {X : Cx} {x f q qual : Str} {st : Stmt} {k n : Nat} {e : Expr} {es : List Expr} {te : DTE} {ta : DTA} {p pos cpos : Pos} {ps ks : List Str} {sp : DSpX}
theorem sa_raise {D : XDef X.K X.mg x f q qual st} (F : XIni X.prog X.w X.base D k) (hq : Quiet X.A) (hr : Room n X.A) (z : Rz An Ex X) (ha : EA An X e te) (hk : k + 1 ≤ n := by omega) (hg : Gl X x := by rfl) (hc : X.calm = true := by rfl) (hdb : (x == ("__debug__" : Str)) = false := by decide)
    (he : starEach [e] X.env = (false, eval e X.env) :: starEach [] X.env := by rfl) : SA An X (.Raise (some (.Call (.Name x p) [e] [] cpos)) none pos) (dRaise x f Ex te) := weakS (ps_raise hc z.tk (pmk_x F hq hr ha hk hg hdb he)) fun D' σ H h => by
  obtain ⟨F, ρ, μ, _, R, S, an, t, _⟩ := h
  refine ⟨F, ρ, μ, _, R, S, an, t, fun d μ1 t1 F1 H1 v s1 R1 r1 dx hdx => ?_⟩
  exact ⟨_, μ1, D.C, x, [(f, d)], rfl, z.gr _ _ _ _ _ _ an (s1.trans (Stp.newS R1 hdx)), R1.newS hdx, D.xk, .inr ⟨dx, [(f, v)], rfl, upd_same, rfl, RepL.one (r1.mono (Ext.new (R1.freeF hdx)))⟩, t1⟩
abbrev FnX (P : Program) (w : World) (base : Heap) {K : PySem.W.Frag} {mg : Str → Option Value} {x : Str} {st : Stmt} {ps : List Str} (D : Def K mg x st ps) (k : Nat) (sp : DSpX) : Prop := FnG P w K mg base (L2.CX P w) k D.f D.fd ps (LSpX K sp)
abbrev dCallX (sp : DSpX) (dvs : List SD) (Ex : DXX) (t : DTA) : DTE := fun ρ μ Q => t ρ μ fun ds μ1 => sp (ds ++ dvs) μ1 Q Ex
theorem LSpX_E {K : PySem.W.Frag} {F1 H1 : Hp} {μ1 : Mu} {E' : DXX} {E : XK} (gr : Grows An) (an : An F1 H1 μ1) (h : ∀ cls od H', EX K An E' cls od H' → E cls od H') : ∀ cls od H', EX K (Stp F1 H1 μ1) E' cls od H' → E cls od H' := fun _ _ _ z => h _ _ _ (z.mono fun _ _ _ s => gr _ _ _ _ _ _ an s)
theorem ea_call {dvs : List SD} {dvV : List V} {dv : List Value} {f : Addr} {fd : FuncData} (F : FnG X.prog X.w X.K X.mg X.base (L2.CX X.prog X.w) k f fd ps (LSpX X.K sp)) (hq : Quiet X.A) (hr : Room k X.A) (z : Rz An Ex X) (hg : Gl X x) (hm : X.mg x = some (.ref f)) (hk : PySem.W.keepIn X.K (.ref f) = true)
    (hb : Binds X.K fd ps dv) (hd : Vals dvV dv) (hp : Paired (fun d v => plain d = some v) dvs dvV) (ha : AA An X (e :: es) ta) (hdb : (x == ("__debug__" : Str)) = false := by decide) (he : starEach (e :: es) X.env = (false, eval e X.env) :: starEach es X.env := by rfl) (hpl : (backTo pos (starEach es X.env)).any (·.1) = false := by rfl) :
    EA An X (.Call (.Name x p) (e :: es) [] pos) (dCallX sp dvs Ex ta) := weakE (pe_g (E := EX X.K An Ex) F hq hr hg hm hk hb hd (passes_call z.tk fun _ _ _ _ h => h) ha hdb he hpl) fun σ H Q h => by
  obtain ⟨F, ρ, μ, Q', R, S, an, t, k⟩ := h
  refine ⟨F, ρ, μ, _, R, S, an, t, fun ds μ1 t1 F1 H1 vs s1 R1 r1 => ?_⟩
  exact ⟨F1, μ1, ds ++ dvs, Q', Ex, R1, r1.append (RepL.plain hp), t1, fun d μ' q F' H' v s R' r' => k d μ' q F' H' v (s1.trans s) R' r', LSpX_E z.gr (z.gr _ _ _ _ _ _ an s1) fun _ _ _ h => h⟩
theorem ea_def {D : Def X.K X.mg x st ps} (F : FnX X.prog X.w X.base D k sp) (hq : Quiet X.A) (hr : Room n X.A) (z : Rz An Ex X) (ha : AA An X (e :: es) ta) (hk : k ≤ n := by omega) (hg : Gl X x := by rfl)
    (hdb : (x == ("__debug__" : Str)) = false := by decide) (he : starEach (e :: es) X.env = (false, eval e X.env) :: starEach es X.env := by rfl) (hpl : (backTo pos (starEach es X.env)).any (·.1) = false := by rfl) :
    EA An X (.Call (.Name x p) (e :: es) [] pos) (dCallX sp [] Ex ta) := ea_call F hq (hr.mono hk) z hg D.m D.F.kp D.b .nil .nil ha hdb he hpl
/-- .. where it lets nothing out -/
theorem fnG_calm {f : Addr} {fd : FuncData} {P : Program} {w : World} {K : PySem.W.Frag} {mg : Str → Option Value} {base : Heap} {CX : CXT} (F : FnG P w K mg base CX k f fd ps (LSpX K sp)) : FnG P w K mg base CX k f fd ps (LSp K fun ds μ Q _ => sp ds μ Q fun _ _ _ => False) := F.imp fun vs H Q E h => by
  obtain ⟨F, μ, ds, Q', E', R, r, q, k, _⟩ := h
  refine ⟨F, μ, ds, Q', _, R, r, q, k, fun cls od H' z => ?_⟩
  obtain ⟨_, _, _, _, _, _, _, _, _, _, z⟩ := z
  exact z.elim
abbrev calmSp (sp : DSpX) : DSp := fun ds μ Q _ => sp ds μ Q fun _ _ _ => False
theorem de_defX {D : Def X.K X.mg x st ps} {t : DTA} (F : FnX X.prog X.w X.base D k sp) (hq : Quiet X.A) (hr : Room n X.A) (ha : DA X (e :: es) t) (hk : k ≤ n := by omega) (hg : Gl X x := by rfl)
    (hdb : (x == ("__debug__" : Str)) = false := by decide) (he : starEach (e :: es) X.env = (false, eval e X.env) :: starEach es X.env := by rfl) (hpl : (backTo pos (starEach es X.env)).any (·.1) = false := by rfl) :
    DE X (.Call (.Name x p) (e :: es) [] pos) (dCall (calmSp sp) [] t) := de_call (fnG_calm F) hq (hr.mono hk) hg D.m D.F.kp D.b passesX0 ha hdb he hpl
end
section
variable {P : Program} {w : World} {K : PySem.W.Frag} {mg : Str → Option Value} {base : Heap}
/-- a def that may raise -/
theorem def_okR {x : Str} {st : Stmt} {N ps : List Str} {k : Nat} {sp : DSpX} {f : Addr} {fd : FuncData} (F : Fun K x x st f fd) (S : FnScope N ps (defScope st)) (t : DXX → DTS) (len : ∀ ds μ Q E, sp ds μ Q E → ds.length = ps.length)
    (walk : ∀ (cdv : Value) (A : Around) (outer : List Env) (s : Shared) (H : Hp) (E : XK) (Ex : DXX) (An : HInv), Quiet A → Room k (A.deeper (envOfC x (defScope st) s.heap.objs.size f cdv)) → Rz An Ex (cxOf (L2.CX P w) P w K mg base N x (defScope st) f cdv A outer s H E) →
      SAs An (cxOf (L2.CX P w) P w K mg base N x (defScope st) f cdv A outer s H E) (defBody st) (t Ex))
    (read : ∀ ds μ Q E, sp ds μ Q E → t E { nx := fun _ μ' => Q .non μ', rt := Q } (begin_ N ds) μ) : FnG P w K mg base (L2.CX P w) (k + 1) f fd ps (LSpX K sp) := by
  obtain ⟨oc, od, kV, doc, pm, an, cdv, ct, osl, rfl, lk, hcd⟩ := F.ex
  refine fnG_of lk hcd S (fun vs H Q E h => ?_) fun A outer s H vs Q E quiet room want => ?_
  · obtain ⟨F, μ, ds, Q', E', _, r, q, _⟩ := h
    rw [← r.length]; exact len ds μ Q' E' q
  · obtain ⟨F, μ, ds, Q', E', R, r, q, k1, k2⟩ := want
    refine ⟨_, walk cdv A outer s H E E' (Stp F H μ) quiet room ⟨grows_stp _ _ _, takes_mono (takes_of rfl rfl rfl rfl) fun cls d σ H' z => k2 cls d H' z⟩, F, begin_ N ds, μ, _, R, slots_begin r, Stp.refl _ _ _, read ds μ Q' E' q, ?_, k1, fun _ _ z => False.elim z, fun _ _ z => False.elim z⟩
    exact fun ρ' μ' q F' H' σ' s' R' _ => k1 .non μ' q F' H' .non s' R' .non
end
end DS
namespace DS
open PySem PySem.Spec PyProof.Rows L2 LamX
/-- what a function without parameters does, over data -/
abbrev DTH := Mu → (SD → Mu → Prop) → DXX → Prop
theorem HReal.madeC {K : PySem.W.Frag} {F H H2 : Hp} {μ : Mu} {P c' : Addr} {x q : Str} (R : HReal K F H μ) (hP : μ P = some (.tab P x q)) (m : MadeC H P q c' H2) : ∃ F2, HReal K F2 H2 μ ∧ Stp F H μ F2 H2 μ ∧ F2 c' = some (CodeO c' q) := by
  rcases m with ⟨rfl, ps, pos, h1, h2⟩ | ⟨ps, more, h1, h2, rfl, h3, h4⟩
  · obtain ⟨_, o, hPH, ro⟩ := R.mus P _ hP
    rw [h1] at hPH; cases hPH
    cases ro with
    | tab t1 t2 t3 =>
      obtain ⟨c, e1, e2⟩ := t3 pos _ h2
      cases e1
      exact ⟨F, R, Stp.refl _ _ _, e2⟩
  · have hF := R.freeF h2
    have hPF := (R.mus P _ hP).1
    have Pc : P ≠ c' := fun z => by rw [z, h2] at h1; cases h1
    have ex : Ext F (upd F c' (LamX.CodeO c' q)) := Ext.new hF
    refine ⟨upd F c' (LamX.CodeO c' q), ⟨fun a o e => ?_, fun a n e => ?_⟩, ⟨ex, fun a z1 z2 z3 => ?_⟩, upd_same⟩
    · by_cases ha : a = c'
      · subst ha; rw [upd_same] at e ⊢; exact e
      · rw [upd_ne ha] at e
        have aP : a ≠ P := fun z => by rw [z, hPF] at e; cases e
        rw [upd_ne ha, upd_ne aP]; exact R.sub a o e
    · obtain ⟨z, o, q1, r⟩ := R.mus a n e
      have ha : a ≠ c' := fun z => by rw [z, h2] at q1; cases q1
      refine ⟨by rw [upd_ne ha]; exact z, ?_⟩
      by_cases aP : a = P
      · subst aP
        rw [hP] at e; cases e
        rw [h1] at q1; cases q1
        refine ⟨_, by rw [upd_ne Pc, upd_same], ?_⟩
        cases r with
        | tab t1 t2 t3 =>
          refine .tab t1 h3 fun pos cv hc => ?_
          rcases h4 pos cv hc with hc | rfl
          · obtain ⟨c, e1, e2⟩ := t3 pos cv hc
            exact ⟨c, e1, ex.st _ _ rfl e2⟩
          · exact ⟨c', rfl, upd_same⟩
      · exact ⟨o, by rw [upd_ne ha, upd_ne aP]; exact q1, r.mono ex⟩
    · have ha : a ≠ c' := fun z => z1 (by rw [z]; exact h2)
      have aP : a ≠ P := fun z => by rw [z, hP] at z3; cases z3
      exact ⟨by rw [upd_ne ha, upd_ne aP], by rw [upd_ne ha]; exact z2, z3⟩
/-- the function's reading at the heap is th -/
def Lnk (K : PySem.W.Frag) (F H : Hp) (μ : Mu) (th : DTH) (tl : XK → Hp → VK → Prop) : Prop := ∀ (F1 H1 : Hp) (μ1 : Mu) (Q1 : VK) (Q1' : SD → Mu → Prop) (Ex : DXX), Stp F H μ F1 H1 μ1 → HReal K F1 H1 μ1 → th μ1 Q1' Ex →
  (∀ d μ', Q1' d μ' → ∀ F' H' v, Stp F1 H1 μ1 F' H' μ' → HReal K F' H' μ' → RepS K F' d v → Q1 v H') → tl (EX K (Stp F1 H1 μ1) Ex) H1 Q1
/-- what the def that got it makes of it -/
def TTd (K : PySem.W.Frag) (q : Str) (ttd : DTH → Mu → (SD → Mu → Prop) → Prop) : Addr → Addr → (XK → Hp → VK → Prop) → Hp → VK → Prop := fun _ c' tl H Q => ∃ F μ th Q', HReal K F H μ ∧ F c' = some (CodeO c' q) ∧ Lnk K F H μ th tl ∧ ttd th μ Q' ∧
  ∀ d μ', Q' d μ' → ∀ F' H' v, Stp F H μ F' H' μ' → HReal K F' H' μ' → RepS K F' d v → Q v H'
/-- in the def that got it: its parameter a, called -/
def AskOk (X : Cx) (An : HInv) (a : Str) (f : Addr) (th : DTH) : Prop := ∀ (W : WX) (pn : List (Addr × Obj)) (xe : Value → Shared → Prop) (p1 p2 : Pos), Takes (X.tr pn xe) W → PE (X.tr pn xe) (.Call (.Name a p1) [] [] p2) fun σ H Q =>
  ∃ F ρ μ Q' Ex, HReal X.K F H μ ∧ Slots X.K F σ ρ ∧ An F H μ ∧ ρ[0]? = some (some (.ref f)) ∧ th μ Q' Ex ∧
    (∀ d μ', Q' d μ' → ∀ F' H' v, Stp F H μ F' H' μ' → HReal X.K F' H' μ' → RepS X.K F' d v → Q v H') ∧ ∀ cls d H', EX X.K (Stp F H μ) Ex cls d H' → W cls d σ H'
theorem gives_d {X : Cx} {Ng : List Str} {x a q : Str} {sg : Scope} {g : Addr} {cdg : Value} {bg : List Stmt} {ttd : DTH → Mu → (SD → Mu → Prop) → Prop} (t : Addr → DTH → DTS)
    (walk : ∀ (s : Shared) (H : Hp) (f : Addr) (An : HInv) (th : DTH), Grows An → AskOk (cxOf C8.CX0 X.prog X.w X.K X.mg X.base Ng x sg g cdg X.A X.stack s H C8.E0).nox An a f th → SAs An (cxOf C8.CX0 X.prog X.w X.K X.mg X.base Ng x sg g cdg X.A X.stack s H C8.E0).nox bg (t f th))
    (read : ∀ f th μ Q, ttd th μ Q → t f th { nx := fun _ μ' => Q .non μ', rt := Q } (begin_ Ng [.ref f]) μ) : GivesS X Ng x sg g cdg bg a q (TTd X.K q ttd) := by
  intro f c' s H Q tl hcall hco h
  obtain ⟨F, μ, th, Q', R, hc', lnk, tt, k⟩ := h
  refine ⟨_, walk s H f (Stp F H μ) th (grows_stp _ _ _) (fun W pn xe p1 p2 tk => weakE (hcall W pn xe p1 p2 tk) fun σ HZ Q1 z => ?_), F, begin_ Ng [.ref f], μ, _, R, slots_begin (.cons (.ref f) .nil), Stp.refl _ _ _, read f th μ Q' tt, ?_, k, fun _ _ z => False.elim z, fun _ _ z => False.elim z⟩
  · obtain ⟨F1, ρ1, μ1, Q1', Ex, R1, S1, an, h0, th1, lift, hW⟩ := z
    obtain ⟨v, e1, e2⟩ := S1.at_ 0 _ h0
    cases e2
    exact ⟨e1, R1.sub _ _ (an.ext.st _ _ rfl hc'), EX X.K (Stp F1 HZ μ1) Ex, hW, lnk F1 HZ μ1 Q1 Q1' Ex an R1 th1 lift⟩
  · exact fun ρ' μ' q F' H' σ' s' R' _ => k .non μ' q F' H' .non s' R' .non
/-- x(lambda: body), in the def named y -/
def dLam (y q : Str) (ttd : DTH → Mu → (SD → Mu → Prop) → Prop) (tb : DXX → DTE) : DTE := fun ρ μ Q => ∃ P, μ P = some (.tab P y q) ∧ ttd (fun μ' Q' Ex => tb Ex ρ μ' Q') μ Q
section
variable {X : Cx} {ttd : DTH → Mu → (SD → Mu → Prop) → Prop} {tb : DXX → DTE} {x a y q : Str} {st : Stmt} {k n : Nat} {Ng : List Str} {params : Arguments} {body : Expr} {scope : Scope} {p lpos pos : Pos}
theorem de_lam {D : Def X.K X.mg x st [a]} (hbm : BM X.base X.mg) (hw : OwnC X y) (hquiet : Quiet X.A) (hr : Room n X.A) (hG : ∀ cdv : Value, GivesS X Ng x (defScope st) D.f cdv (defBody st) a q (TTd X.K q ttd)) (Sg : FnScope Ng [a] (defScope st)) (L : LamS X.env.scope scope)
    (hbody : ∀ (A : Around) (outer : List Env) (s : Shared) (H : Hp) (E : XK) (f c' : Addr) (An : HInv) (Ex : DXX), Quiet A → Room k (A.deeper (lamEnv X scope s.heap.objs.size f c')) → Rz An Ex (lamCx X A outer s H E scope f c') → EA An (lamCx X A outer s H E scope f c') body (tb Ex))
    (hk : k + 2 ≤ n := by omega) (hq : q = X.env.qual ++ "<lambda>" := by rfl) (hg : Gl X x := by rfl) (hNg : Ng[0]? = some a := by rfl) (hva : Vis (defScope st) a := by first | exact Or.inl rfl | exact Or.inr (Or.inl rfl) | exact Or.inr (Or.inr rfl))
    (hdef : defaultsOf params X.env = ([], []) := by rfl)
    (hbind : ∀ (q : Str) (cl : List (Str × Addr)) (pm cv ctv : Value), bindArgs (PySem.W.kla_fn "<lambda>" q params body scope cl pm cv ctv) ⟨[], []⟩ = pure [] := by intros; rfl)
    (hdb : (x == ("__debug__" : Str)) = false := by decide) (hd : (a == ("__debug__" : Str)) = false := by decide) (hcd : (a == ("__classdict__" : Str)) = false := by decide) :
    DE X (.Call (.Name x p) [.Lambda params body scope lpos] [] pos) (dLam y q ttd tb) := by
  obtain ⟨f, fd, DF, Dm, Db⟩ := D
  obtain ⟨oc, od, kV, doc, pm, an, cdv, ct, osl, rfl, lk, hcc⟩ := id DF.ex
  refine weakE (pe_lamcallS (TT := TTd X.K q ttd) (a := a) (k := k) (Ng := Ng) (t := fun E σ H Q => ∃ An Ex, Grows An ∧ (∀ cls od H', EX X.K An Ex cls od H' → E cls od H') ∧ LEA X.K An (tb Ex) σ H Q)
    hbm hw hq hg Dm DF.kp lk hcc Db Sg hNg hva (hG cdv) (hr.mono hk) L hdef hbind (fun A outer s H E f c' hgd hr2 => ⟨fun pins s' σ H' Q I z => ?_⟩) hdb hd hcd) fun σ H Q h => ?_
  · obtain ⟨An, Ex, gr, hE, h⟩ := z
    exact (hbody A outer s H E f c' An Ex (hgd.trans hquiet) hr2 ⟨gr, takes_mono (takes_of rfl rfl rfl rfl) fun cls d σ H z => hE cls d H z⟩).run pins s' σ H' Q I h
  · obtain ⟨F, ρ, μ, Q', R, S, ⟨P, hP, tt⟩, k⟩ := h
    obtain ⟨hPF, o, hPH, ro⟩ := R.mus P _ hP
    cases ro with
    | tab ta tt' tc =>
      refine ⟨P, _, ta, hPH, tt', fun pos cv hcv => ?_, fun f c' H1 made hf hco => ?_⟩
      · obtain ⟨c, e1, e2⟩ := tc pos cv hcv
        exact ⟨c, e1, R.sub _ _ e2⟩
      · obtain ⟨F2, R2, s2, hc'⟩ := R.madeC hP made
        refine ⟨F2, μ, _, Q', R2, hc', fun F1 H1' μ1 Q1 Q1' Ex s R1 th1 lift => ?_, tt, fun d μ' q F' H' v s R' r' => k d μ' q F' H' v (s2.trans s) R' r'⟩
        exact ⟨Stp F1 H1' μ1, Ex, grows_stp _ _ _, fun _ _ _ z => z, F1, ρ, μ1, Q1', R1, S.mono (s2.trans s).ext, Stp.refl _ _ _, th1, lift⟩
end
theorem rep_err {K : PySem.W.Frag} {F H : Hp} {μ : Mu} {x : Str} {C a : Addr} {od : Option Addr} {fs : List (Str × SD)} (R : HReal K F H μ) (c : XcK K x C (fs.map (·.1))) (r : XRepF K F od fs) (n : H a = none) : RepS K (upd F a (exq a C od)) (.exc x fs) (.ref a) := by
  have ex : Ext F (upd F a (exq a C od)) := Ext.new (R.freeF n)
  rcases r with ⟨rfl, rfl⟩ | ⟨d, vs, rfl, e, hm, rl⟩
  · exact .exc0 c upd_same
  · exact .exc c upd_same (ex.st _ _ rfl e) hm (rl.mono ex)
/-- try: slot k = a() / except .. as (slot i): slot j = the error -/
def dTryA (f : Addr) (th : DTH) (kx : Str → Option Bool) (k i j : Nat) : DTS := fun D ρ μ => (ρ[0]? = some (some (.ref f)) ∧ i < ρ.length) ∧ th μ (fun d μ1 => D.nx (ρ.set k (some d)) μ1) fun x fs μ1 => kx x = some true ∧
  D.nx (((ρ.set i (some (.exc x fs))).set j (some (.exc x fs))).set i none) μ1
section
variable {An : HInv} {X : Cx} {c a n v cn : Str} {cv : Value} {f : Addr} {th : DTH} {k i j : Nat} {kx : Str → Option Bool} {np p1 p2 p3 p4 p5 p6 p7 pos' pos : Pos}
theorem sa_try (hA : Grows An) (ask : AskOk X An a f th) (hs : X.stack = X.env :: X.outer) (hf : X.env.frame = some X.env.locals) (hex : X.ex = []) (hN : X.N.Nodup) (hc : Names X c cv)
    (hkx : ∀ x b C, kx x = some b → PySem.W.nsIn X.K mainGlobals x = some (some (.ref C)) → PySem.W.exmOne X.K (.ref C) cv = some b)
    (hi : X.N[i]? = some n) (hk : X.N[k]? = some v) (hj : X.N[j]? = some cn) (hln : X.env.kindOf n = some .local) (hlv : Loc X.env.scope v) (hlj : Loc X.env.scope cn) (hlvn : Vis X.env.scope n)
    (hfk : X.fn v = true ∨ X.env.scope.names.lookup v = some .local := by first | exact .inl rfl | exact .inr rfl) (hfj : X.fn cn = true ∨ X.env.scope.names.lookup cn = some .local := by first | exact .inl rfl | exact .inr rfl)
    (hsw : swapsWith (.Call (.Name a p1) [] [] p2) (some (.Name v p3)) p4.line X.env = pure false := by rfl) (hsw2 : swapsWith (.Name n p5) (some (.Name cn p6)) p7.line X.env = pure false := by rfl)
    (hnd : (n == ("__debug__" : Str)) = false := by decide) (hncd : (n == ("__classdict__" : Str)) = false := by decide) :
    SA An X (.Try [.Assign [.Name v p3] (.Call (.Name a p1) [] [] p2) p4] [.ExceptHandler (some (.Name c np)) (some n) [.Assign [.Name cn p6] (.Name n p5) p7] pos'] [] [] pos) (dTryA f th kx k i j) := by
  refine weakS (ps_try_trk (c := cv) (i := i) (Wout := fun _ _ _ _ => False) (ts := fun _ _ _ D σ H => tVar i σ H fun w H' => D.nx (σ.set j (some w)) H')
    (tb := fun W D σ H => ∃ F ρ μ Q' Ex, HReal X.K F H μ ∧ Slots X.K F σ ρ ∧ An F H μ ∧ ρ[0]? = some (some (.ref f)) ∧ th μ Q' Ex ∧
      (∀ d μ', Q' d μ' → ∀ F' H' w, Stp F H μ F' H' μ' → HReal X.K F' H' μ' → RepS X.K F' d w → D.nx (σ.set k (some w)) H') ∧ ∀ cls d H', EX X.K (Stp F H μ) Ex cls d H' → W cls d σ H')
    hs hf hex hN hi hln hc L2.takes0 (fun W pn xe tk _ => ?_) (fun ea oe cls d pn _ _ => ?_)) fun D σ H h => ?_
  · exact pss_one (ps_set (X := X.tr pn xe) hN hk hlv (ask W pn xe p1 p2 tk) hsw hfk)
  · exact pss_one (ps_set (X := X.suite ea ((ea, oe) :: pn)) hN hj hlj (pe_var (X := X.suite ea ((ea, oe) :: pn)) hi hlvn hnd hncd) hsw2 hfj)
  · obtain ⟨F, ρ, μ, D', R, S, an, ⟨⟨h0, hl⟩, t⟩, kn, _⟩ := h
    refine ⟨F, ρ, μ, _, _, R, S, an, h0, t, fun d μ' q F' H' w s R' r' => kn _ μ' q F' H' _ s R' ((S.mono s.ext).set k r'), fun cls od H' z => ?_⟩
    obtain ⟨F', μ', C, x, fs, rfl, s, R', xc, xr, e, q⟩ := z
    refine ⟨true, hkx x true C e xc.at_, fun _ => ⟨C, rfl, fun a' na => ?_⟩, fun z => by cases z⟩
    have SA' := Stp.newS R' (o := exq a' C od) na
    have RA := R'.newS (o := exq a' C od) na
    have rr := rep_err R' xc xr na
    refine ⟨.ref a', List.getElem?_set_self (by rw [S.len]; exact hl), ?_⟩
    exact kn _ μ' q _ _ _ (s.trans SA') RA ((((S.mono (s.trans SA').ext).set i rr).set j rr).setN i)
end
end DS
namespace DS
open PySem PySem.Spec PyProof.Rows L2
theorem exm_row {K : PySem.W.Frag} {D : Addr} {r : Str × Addr × List Value} (h : XRow K r) (hD : (PySem.W.clsIn K D).isSome = true) (tD : PySem.W.typeIn K (.ref D) = some (.type "type")) (sD : PySem.W.subIn K (.ref D) (.type "BaseException") = some true) : PySem.W.exmOne K (.ref r.2.1) (.ref D) = some (r.2.1 == D || r.2.2.contains (.ref D)) := by
  unfold PySem.W.exmOne
  rw [if_pos (by rw [sD]; rfl)]
  unfold PySem.W.kitCls
  dsimp only
  rw [hD, tD]
  show PySem.W.mroIn K r.2.1 (.ref D) = _
  rw [xrow_mro h, List.contains_cons]
  have : (Value.ref D == Value.ref r.2.1) = (r.2.1 == D) := by
    by_cases e : r.2.1 = D
    · rw [e]; simp
    · rw [beq_eq_false_iff_ne.mpr e, beq_eq_false_iff_ne]
      intro z
      exact e (Value.ref.inj z).symm
  rw [this]
theorem exm_ok {K : PySem.W.Frag} {D : Addr} {rows : List (Str × Addr × List Value)} {c : Str} (q : kitQ rows c D = true) (h : ∀ r ∈ rows, XRow K r) (hD : (PySem.W.clsIn K D).isSome = true) (tD : PySem.W.typeIn K (.ref D) = some (.type "type")) (sD : PySem.W.subIn K (.ref D) (.type "BaseException") = some true) (y : Str) (b : Bool) (C : Addr) (e : kX (rows.map (·.1)) c y = some b)
    (a : PySem.W.nsIn K mainGlobals y = some (some (.ref C))) : PySem.W.exmOne K (.ref C) (.ref D) = some b := by
  unfold kX at e
  split at e
  · rename_i hm
    obtain ⟨r, hr, rfl⟩ := List.mem_map.mp hm
    have hx := h r hr
    obtain rfl : r.2.1 = C := by
      have z := hx.1.symm.trans a
      cases z; rfl
    rw [exm_row hx hD tD sD]
    have z := List.all_eq_true.mp q r hr
    rw [beq_iff_eq.mp z, e]
  · cases e
theorem args_sum2 (a b : Value) : argsOk "sum" ⟨[a, b], []⟩ := by unfold argsOk; kernel_rfl
theorem sub_tuple_str : isSubtype (.type "tuple") (.type "str") = pure false := by rw [isSubtype_type]; kernel_rfl
theorem sub_tuple_bytes : isSubtype (.type "tuple") (.type "bytes") = pure false := by rw [isSubtype_type]; kernel_rfl
theorem sub_tuple_bytearray : isSubtype (.type "tuple") (.type "bytearray") = pure false := by rw [isSubtype_type]; kernel_rfl
def totL (part : Nat → List Value) : Nat → List Value
  | 0 => []
  | j + 1 => totL part j ++ part j
theorem _root_.PyProof.Rows.IsTup.keepAt {h h' : Heap} {a : Addr} {items : Array Value} (x : IsTup h a items) (hk : ∀ o, h.get? a = some o → h'.get? a = some o) : IsTup h' a items := let ⟨o, ho, r⟩ := x; ⟨o, hk o ho, r⟩
section
variable {prog : Program} {w : World} {A : Around} {R : Result → Shared → Prop} {I : Addr} {fp wr : List Addr} {n : Nat} {P : Nat → Value → Prop} {St : Nat → Heap → Prop}
theorem sumT_loop (W : Walks prog w A.in1 I fp wr n P St) (h0 : Heap) (part : Nat → List Value) (Old : Addr → List Value → Prop)
    (ho : ∀ a vs, Old a vs → IsTup h0 a vs.toArray ∧ a ∉ wr) (hp : ∀ i v, P i v → ∃ a, v = .ref a ∧ Old a (part i)) (hf : ∀ b ∈ fp, b < h0.objs.size) (hz : ∀ i, i ≤ n → (totL part i).length ≤ sizeLine) :
    ∀ (k i : Nat) (s : Shared) (T : Addr) (c : Nat), n - i = k → i ≤ n → St i s.heap → s.heap.get? h0.objs.size = some { cls := .type "list", dict := none, data := .seq #[.ref T] c, slots := #[] } →
    (∀ b o, b ∉ wr → h0.get? b = some o → s.heap.get? b = some o) → IsTup s.heap T (totL part i).toArray → (Old T (totL part i) ∨ h0.objs.size < T) →
    (∀ h' tk T', (∀ b o, b ∉ wr → h0.get? b = some o → h'.get? b = some o) → IsTup h' T' (totL part n).toArray → (Old T' (totL part n) ∨ h0.objs.size < T') → R (.ok (.ret (.ref T'))) { s with heap := h', toks := tk }) →
    codeAny (model prog w) A (.builtin "sum.loop" ⟨[.ref I, .ref h0.objs.size, rawInt 2, rawInt 0], []⟩) R s := by
  have hSf : h0.objs.size ∉ fp := fun h => Nat.lt_irrefl _ (hf _ h)
  have hSw : h0.objs.size ∉ wr := fun h => hSf (W.sub _ h)
  have Tw : ∀ {T : Addr} {vs : List Value}, (Old T vs ∨ h0.objs.size < T) → T ∉ wr := fun {T vs} h hm => by
    rcases h with h | h
    · exact (ho _ _ h).2 hm
    · exact Nat.lt_irrefl _ (Nat.lt_trans h (hf _ (W.sub _ hm)))
  have TS : ∀ {T : Addr} {vs : List Value}, (Old T vs ∨ h0.objs.size < T) → T ≠ h0.objs.size := fun {T vs} h e => by
    rcases h with h | h
    · obtain ⟨⟨o, e1, _⟩, _⟩ := ho _ _ h
      exact Nat.lt_irrefl _ (e ▸ Heap.lt_size e1)
    · exact Nat.lt_irrefl _ (e ▸ h)
  intro k
  induction k with
  | zero =>
    intro i s T c hk hi hst hS old hT orig hR
    have hin : i = n := by omega
    subst hin
    refine codeAny_builtin F.entry_sum_loop ?_
    rw [Around.under_plainId F.plain_sum_loop _]
    show wpAny _ A.in1 (seqItems? (.ref h0.objs.size) >>= _) _ _ s
    refine wpAny_bind (wpAny_seqItems hS rfl ?_)
    show wpAny _ A.in1 (tryCatch (pyNext (.ref I)) _ >>= _) _ _ s
    refine wpAny_bind (wpAny_tryCatch (W.done s _ _ hst fun h' tk hk' => ?_))
    exact wpAny_pure (hR h' tk T (fun b o hb e => hk' b o hb (old b o hb e)) (hT.keepAt fun o e => hk' T o (Tw orig) e) orig)
  | succ k ih =>
    intro i s T c hk hi hst hS old hT orig hR
    have hlt : i < n := by omega
    refine codeAny_builtin F.entry_sum_loop ?_
    rw [Around.under_plainId F.plain_sum_loop _]
    show wpAny _ A.in1 (seqItems? (.ref h0.objs.size) >>= _) _ _ s
    refine wpAny_bind (wpAny_seqItems hS rfl ?_)
    show wpAny _ A.in1 (tryCatch (pyNext (.ref I)) _ >>= _) _ _ s
    refine wpAny_bind (wpAny_tryCatch (W.item i s _ _ hlt hst fun v h' tk hP hst' hk' => ?_))
    obtain ⟨a, rfl, ha⟩ := hp i v hP
    have hS' := hk' _ _ hSw hS
    have hT' : IsTup h' T (totL part i).toArray := hT.keepAt fun o e => hk' T o (Tw orig) e
    have haT : IsTup h' a (part i).toArray := (ho _ _ ha).1.keepAt fun o e => hk' a o (ho _ _ ha).2 (old a o (ho _ _ ha).2 e)
    show wpAny _ A.in1 ((holding [Value.ref a] (binaryOp .Add (.ref T) (.ref a))).attempt >>= _) _ _ _
    refine wpAny_bind (wpAny_attempt (wpAny_holding ?_))
    have step : ∀ (h2 : Heap) (T2 : Addr), (∀ b o, h'.get? b = some o → h2.get? b = some o) → IsTup h2 T2 (totL part (i + 1)).toArray → (Old T2 (totL part (i + 1)) ∨ h0.objs.size < T2) →
        codeAny (model prog w) A (.builtin "sum.loop" ⟨[.ref I, .ref h0.objs.size, rawInt 2, rawInt 0], []⟩) R
          { s with heap := (h2.update h0.objs.size (Obj.mapSeq fun _ => #[Value.ref T2])).update h0.objs.size (Obj.mapSeq fun _ => #[Value.ref T2]), toks := tk } := fun h2 T2 k2 hT2 o2 => by
      have hS1 := k2 _ _ hS'
      have hS2 := Heap.get?_update_self (Obj.mapSeq fun _ => #[Value.ref T2]) hS1 rfl
      have other : ∀ b, b ≠ h0.objs.size → ((h2.update h0.objs.size (Obj.mapSeq fun _ => #[Value.ref T2])).update h0.objs.size (Obj.mapSeq fun _ => #[Value.ref T2])).get? b = h2.get? b := fun b hb =>
        (Heap.get?_update_other _ _ (Ne.symm hb)).trans (Heap.get?_update_other _ _ (Ne.symm hb))
      refine ih (i + 1) _ T2 _ (by omega) hlt (W.frame _ _ _ hst' fun b hb o e => ?_) (Heap.get?_update_self _ hS2 rfl) (fun b o hb e => ?_) (hT2.keepAt fun o e => ?_) o2 fun h'' tk'' T'' old'' ht'' or'' => hR h'' tk'' T'' old'' ht'' or''
      · show ((h2.update h0.objs.size _).update h0.objs.size _).get? b = some o
        rw [other b (fun z => hSf (by rw [← z]; exact hb))]
        exact k2 b o e
      · show ((h2.update h0.objs.size _).update h0.objs.size _).get? b = some o
        rw [other b (Nat.ne_of_lt (Heap.lt_size e))]
        exact k2 b o (hk' b o hb (old b o hb e))
      · show ((h2.update h0.objs.size _).update h0.objs.size _).get? T2 = some o
        rw [other T2 (TS o2)]
        exact e
    have e1 : totL part (i + 1) = totL part i ++ part i := rfl
    by_cases hx : totL part i = []
    · refine cat_tup0 (by rw [← hx]; exact hT') haT ?_
      show wpAny _ A.in1 (updateSeq h0.objs.size (fun _ => #[Value.ref a]) >>= _) _ _ _
      refine wpAny_bind (wpAny_updateSeq hS' rfl ?_)
      refine wpAny_bind (wpAny_letGo ?_)
      refine wpAny_bind (wpAny_updateSeq (Heap.get?_update_self (Obj.mapSeq fun _ => #[Value.ref a]) hS' rfl) rfl (wpAny_pure ⟨plainId_quiet F.plain_sum_loop _, step h' a (fun _ _ e => e) ?_ (.inl ?_)⟩))
      · rw [e1, hx, List.nil_append]; exact haT
      · rw [e1, hx, List.nil_append]; exact ha
    · refine HT.cat_tup hT' haT hx (fun hw => ?_) (fun hw => ?_) (by rw [← List.length_append, ← e1]; exact hz _ hlt)
      · show wpAny _ A.in1 (updateSeq h0.objs.size (fun _ => #[Value.ref T]) >>= _) _ _ _
        refine wpAny_bind (wpAny_updateSeq hS' rfl ?_)
        refine wpAny_bind (wpAny_letGo ?_)
        refine wpAny_bind (wpAny_updateSeq (Heap.get?_update_self (Obj.mapSeq fun _ => #[Value.ref T]) hS' rfl) rfl (wpAny_pure ⟨plainId_quiet F.plain_sum_loop _, step h' T (fun _ _ e => e) ?_ ?_⟩))
        · rw [e1, hw, List.append_nil]; exact hT'
        · rw [e1, hw, List.append_nil]; exact orig
      · have hS3 : (h'.push { cls := .type "tuple", data := .seq (totL part i ++ part i).toArray }).get? h0.objs.size = _ := Heap.get?_push_of_some _ hS'
        show wpAny _ A.in1 (updateSeq h0.objs.size (fun _ => #[Value.ref h'.objs.size]) >>= _) _ _ _
        refine wpAny_bind (wpAny_updateSeq hS3 rfl ?_)
        refine wpAny_bind (wpAny_letGo ?_)
        refine wpAny_bind (wpAny_updateSeq (Heap.get?_update_self (Obj.mapSeq fun _ => #[Value.ref h'.objs.size]) hS3 rfl) rfl (wpAny_pure ⟨plainId_quiet F.plain_sum_loop _, step _ h'.objs.size (fun _ _ e => Heap.get?_push_of_some _ e) ?_ (.inr (Heap.lt_size hS'))⟩))
        rw [e1]; exact IsTup.new _ _
end
section
variable {prog : Program} {w : World} {A : Around} {E : Value → Shared → Prop} {s : Shared}
theorem sumT_call {x : Value} {t0 : Addr} {Q : Value → Shared → Prop}
    (h : wpAny (model prog w) A.in1 (pyIter x) (fun it s₂ => ∃ (I : Addr) (fp wr : List Addr) (n : Nat) (P : Nat → Value → Prop) (St : Nat → Heap → Prop) (part : Nat → List Value) (Old : Addr → List Value → Prop), it = .ref I ∧ Walks prog w A.in1 I fp wr n P St ∧ St 0 s₂.heap ∧ (∀ b ∈ fp, b < s₂.heap.objs.size) ∧
      (∀ a vs, Old a vs → IsTup s₂.heap a vs.toArray ∧ a ∉ wr) ∧ (∀ i v, P i v → ∃ a, v = .ref a ∧ Old a (part i)) ∧ (∀ i, i ≤ n → (totL part i).length ≤ sizeLine) ∧ Old t0 [] ∧
      ∀ h' tk T', (∀ b o, b ∉ wr → s₂.heap.get? b = some o → h'.get? b = some o) → IsTup h' T' (totL part n).toArray → (Old T' (totL part n) ∨ s₂.heap.objs.size < T') → Q (.ref T') { s₂ with heap := h', toks := tk }) E s) :
    wpAny (model prog w) A (call (.builtin "sum") [x, .ref t0]) Q E s := by
  refine call_function_tree F.kind_sum F.plain_sum F.entry_sum (args_sum2 _ _) ?_
  unfold Builtin.«sum»
  simp only [List.length_cons, List.length_nil]
  rw [if_neg (by decide)]
  refine wpAny_bind (wpAny_of_eq (show Builtin.Builtins.bindParams "sum" ["start"] 0 ⟨[.ref t0], []⟩ = pure [some (.ref t0)] from rfl) ?_)
  refine wpAny_bind (wpAny_mono h (fun it s₂ h₂ => ?_) fun _ _ e => e)
  obtain ⟨I, fp, wr, n, P, St, part, Old, rfl, W, hst, hfp, ho, hp, hz, h0, hQ⟩ := h₂
  have hT0 := (ho _ _ h0).1
  refine wpAny_bind (wpAny_pure ?_)
  simp only [List.forIn_cons, List.forIn_nil]
  refine wpAny_bind (wpAny_bind (wpAny_bind (wpAny_isInstance (T := "tuple") (b := false) hT0.typeIs sub_tuple_str ?_)))
  simp only [Bool.false_eq_true, if_false]
  refine wpAny_pure (wpAny_bind (wpAny_bind (wpAny_isInstance (T := "tuple") (b := false) hT0.typeIs sub_tuple_bytes ?_)))
  simp only [Bool.false_eq_true, if_false]
  refine wpAny_pure (wpAny_bind (wpAny_bind (wpAny_isInstance (T := "tuple") (b := false) hT0.typeIs sub_tuple_bytearray ?_)))
  simp only [Bool.false_eq_true, if_false]
  refine wpAny_pure (wpAny_pure ?_)
  refine wpAny_bind (wpAny_newObj_type ?_)
  refine wpAny_pure ⟨plainId_quiet F.plain_sum_loop _, sumT_loop W s₂.heap part Old ho hp hfp hz n 0 _ t0 _ rfl (Nat.zero_le _)
    (W.frame _ _ _ hst fun b _ o e => Heap.get?_push_of_some _ e) (Heap.get?_push_size _ rfl) (fun b o _ e => Heap.get?_push_of_some _ e) (hT0.push _) (.inl h0) fun h' tk T' old hT or => hQ h' tk T' old hT or⟩
end
theorem vals_getV : ∀ {xs : List V} {us : List Value} {i : Nat} {u : Value}, Vals xs us → us[i]? = some u → ∃ x, xs[i]? = some x ∧ RelV x u
  | _, _, _, _, .nil, e => by simp at e
  | _, _, 0, _, .cons r _, e => by simp at e; subst e; exact ⟨_, rfl, r⟩
  | _, _, i + 1, u, .cons _ t, e => by
    obtain ⟨x, h1, h2⟩ := vals_getV (i := i) (u := u) t (by simpa using e)
    exact ⟨x, by simpa using h1, h2⟩
def totV (pt : Nat → List V) : Nat → List V
  | 0 => []
  | j + 1 => totV pt j ++ pt j
theorem totV_le (pt : Nat → List V) : ∀ {i n : Nat}, i ≤ n → (totV pt i).length ≤ (totV pt n).length
  | i, 0, h => by rw [Nat.le_zero.mp h]; exact Nat.le_refl _
  | i, n + 1, h => by
    rcases Nat.lt_or_ge i (n + 1) with g | g
    · have := totV_le pt (i := i) (n := n) (by omega)
      show _ ≤ (totV pt n ++ pt n).length
      rw [List.length_append]; omega
    · rw [show i = n + 1 from by omega]; exact Nat.le_refl _
def rSumT (K : PySem.W.Frag) : List V → Hp → VK → Prop := fun vs H Q => ∃ (a t : Addr) (ps : List V) (pt : Nat → List V), vs = [V.ref a, V.ref t] ∧ (SqL K H a ps ∨ SqT K H a ps) ∧ SqT K H t [] ∧
  (∀ i v, ps[i]? = some v → ∃ b, v = .ref b ∧ SqT K H b (pt i)) ∧ (totV pt ps.length).length ≤ sizeLine ∧
  ∀ p H', ((H' = H ∧ ((p = t ∧ totV pt ps.length = []) ∨ ∃ i : Nat, ps[i]? = some (.ref p) ∧ totV pt ps.length = pt i)) ∨ (H p = none ∧ H' = upd H p (.tup (totV pt ps.length)))) → Q (.ref p) H'
theorem cr_sumT {X : Cx} (hc : X.calm = true) : CallR X (.builtin "sum") (rSumT X.K) := by
  intro pins s σ H vs us Q I r h
  obtain ⟨a, t, ps, pt, rfl, ha, ht, hps, hz, q⟩ := h
  obtain ⟨ua, ut, rfl, ra, rt⟩ : ∃ ua ut, us = [ua, ut] ∧ RelV (.ref a) ua ∧ RelV (.ref t) ut := by
    match us, r with
    | [_, _], .cons ra (.cons rt .nil) => exact ⟨_, _, rfl, ra, rt⟩
  cases ra
  cases rt
  obtain ⟨t0s, t0r, t0t, _⟩ := I.tuple ht
  cases t0r
  -- the parts as they stand
  have pick : ∀ i : Nat, ∃ its : List Value, ∀ v, ps[i]? = some v → ∃ b, v = .ref b ∧ IsTup s.heap b its.toArray ∧ Vals (pt i) its := fun i => by
    cases e : ps[i]? with
    | none => exact ⟨[], fun _ z => by cases z⟩
    | some v =>
      obtain ⟨b, rfl, hb⟩ := hps i v e
      obtain ⟨its, r', tb, _⟩ := I.tuple hb
      exact ⟨its, fun _ z => by cases z; exact ⟨b, rfl, tb, r'⟩⟩
  let part : Nat → List Value := fun i => Classical.choose (pick i)
  have hpart : ∀ i v, ps[i]? = some v → ∃ b, v = .ref b ∧ IsTup s.heap b (part i).toArray ∧ Vals (pt i) (part i) := fun i => Classical.choose_spec (pick i)
  have rel : ∀ i, i ≤ ps.length → Vals (totV pt i) (totL part i) := fun i => by
    induction i with
    | zero => intro _; exact .nil
    | succ i ih =>
      intro hi
      obtain ⟨b, _, _, r'⟩ := hpart i _ (List.getElem?_eq_getElem (show i < ps.length from hi))
      exact (ih (by omega)).append r'
  let Old : Addr → List Value → Prop := fun p us => (p = t ∧ us = []) ∨ ∃ i : Nat, ps[i]? = some (.ref p) ∧ us = part i
  have isT : ∀ p us, Old p us → IsTup s.heap p us.toArray := fun p us h => by
    rcases h with ⟨rfl, rfl⟩ | ⟨i, e, rfl⟩
    · exact t0t
    · obtain ⟨b, e2, tb, _⟩ := hpart i _ e
      cases e2
      exact tb
  have small : ∀ i, i ≤ ps.length → (totL part i).length ≤ sizeLine := fun i hi => by
    rw [← (rel i hi).length]
    exact Nat.le_trans (totV_le pt hi) hz
  -- the end
  have fin : ∀ (s₂ : Shared) (h' : Heap) (tk : Nat) (T' : Addr), s.heap.objs.size < s₂.heap.objs.size → s₂.os = s.os → s₂.gens = s.gens → s₂.drawn = s.drawn → (∀ b o, s.heap.get? b = some o → h'.get? b = some o) → IsTup h' T' (totL part ps.length).toArray →
      (Old T' (totL part ps.length) ∨ s₂.heap.objs.size < T') → EP X pins σ Q (.ref T') { s₂ with heap := h', toks := tk } := fun s₂ h' tk T' hlt e1 e2 e3 old hT orig => by
    obtain ⟨hp2, g2, d2, t2, os2⟩ := s₂
    obtain ⟨hp, g, d, tt, os⟩ := s
    simp only at e1 e2 e3
    subst e1 e2 e3
    rcases orig with h | h
    · refine ⟨.ref T', H, I.kept old, rfl, q T' H (.inl ⟨rfl, ?_⟩)⟩
      rcases h with ⟨rfl, e⟩ | ⟨i, e, e'⟩
      · refine .inl ⟨rfl, ?_⟩
        have := rel _ (Nat.le_refl _)
        rw [e] at this
        exact Vals.inj this .nil
      · refine .inr ⟨i, e, ?_⟩
        have := rel _ (Nat.le_refl _)
        rw [e'] at this
        obtain ⟨b, _, _, r'⟩ := hpart i _ e
        exact Vals.inj this r'
    · have ge : hp.objs.size ≤ T' := Nat.le_of_lt (Nat.lt_trans hlt h)
      have hn : H T' = none := I.hok.fresh ge
      exact ⟨.ref T', _, I.laid (t' := tk) (o := .tup (totV pt ps.length)) old ge ⟨hz, _, rel _ (Nat.le_refl _), hT⟩, rfl, q T' _ (.inr ⟨hn, rfl⟩)⟩
  rcases ha with ha | ha
  · obtain ⟨its, rv, hl, _⟩ := I.list ha
    refine sumT_call (iter_any hl.isList fun s₂ e2 st hne => ?_)
    subst e2
    have hnew : ∀ {p us}, Old p us → p ∉ [s.heap.objs.size] := fun {p us} h hm => by
      obtain ⟨o, e, _⟩ := isT p us h
      rw [List.mem_singleton] at hm
      exact Nat.lt_irrefl _ (hm ▸ Heap.lt_size e)
    refine ⟨_, _, _, _, _, _, part, Old, rfl, Walks.list (A := X.A.in1) (I.ok.hd hc) _ a hne its.toArray, st, fun b hb => ?_, fun p us h => ⟨(isT p us h).push _, hnew h⟩, fun i v e => ?_, fun i hi => small i (by have := rv.length; simp at hi; omega), .inl ⟨rfl, rfl⟩, fun h' tk T' old hT or => ?_⟩
    · show b < (s.heap.push _).objs.size
      rw [Heap.size_push]
      rcases List.mem_cons.mp hb with rfl | hb
      · exact Nat.lt_succ_self _
      · rw [List.mem_singleton] at hb
        obtain ⟨o, _, e, _⟩ := hl
        exact Nat.lt_succ_of_lt (hb ▸ Heap.lt_size e)
    · have : its[i]? = some v := by simpa using e
      obtain ⟨x, ex, rx⟩ := vals_getV rv this
      obtain ⟨b, eb, _⟩ := hpart i x ex
      subst eb
      cases rx
      exact ⟨b, rfl, .inr ⟨i, ex, rfl⟩⟩
    · have hn : its.toArray.size = ps.length := by rw [List.size_toArray]; exact rv.length.symm
      rw [hn] at hT or
      refine fin _ h' tk T' (by rw [Heap.size_push]; exact Nat.lt_succ_self _) rfl rfl rfl (fun b o e => old b o (fun hm => ?_) (Heap.get?_push_of_some _ e)) hT or
      rw [List.mem_singleton] at hm
      exact Nat.lt_irrefl _ (hm ▸ Heap.lt_size e)
  · obtain ⟨its, rv, hl, _⟩ := I.tuple ha
    have alt : a < s.heap.objs.size := by obtain ⟨o, e, _⟩ := hl; exact Heap.lt_size e
    have hne : a ≠ s.heap.objs.size := Nat.ne_of_lt alt
    refine sumT_call (PyProof.Rows.iter_tuple hl ?_)
    have hnew : ∀ {p us}, Old p us → p ∉ [s.heap.objs.size] := fun {p us} h hm => by
      obtain ⟨o, e, _⟩ := isT p us h
      rw [List.mem_singleton] at hm
      exact Nat.lt_irrefl _ (hm ▸ Heap.lt_size e)
    refine ⟨_, _, _, _, _, _, part, Old, rfl, Walks.tuple (A := X.A.in1) (I.ok.hd hc) _ a hne its.toArray, ⟨⟨_, Heap.get?_push_size _ rfl, rfl, rfl⟩, hl.push _⟩, fun b hb => ?_, fun p us h => ⟨(isT p us h).push _, hnew h⟩, fun i v e => ?_, fun i hi => small i (by have := rv.length; simp at hi; omega), .inl ⟨rfl, rfl⟩, fun h' tk T' old hT or => ?_⟩
    · show b < (s.heap.push _).objs.size
      rw [Heap.size_push]
      rcases List.mem_cons.mp hb with rfl | hb
      · exact Nat.lt_succ_self _
      · rw [List.mem_singleton] at hb
        exact Nat.lt_succ_of_lt (hb ▸ alt)
    · have : its[i]? = some v := by simpa using e
      obtain ⟨x, ex, rx⟩ := vals_getV rv this
      obtain ⟨b, eb, _⟩ := hpart i x ex
      subst eb
      cases rx
      exact ⟨b, rfl, .inr ⟨i, ex, rfl⟩⟩
    · have hn : its.toArray.size = ps.length := by rw [List.size_toArray]; exact rv.length.symm
      rw [hn] at hT or
      refine fin _ h' tk T' (by rw [Heap.size_push]; exact Nat.lt_succ_self _) rfl rfl rfl (fun b o e => old b o (fun hm => ?_) (Heap.get?_push_of_some _ e)) hT or
      rw [List.mem_singleton] at hm
      exact Nat.lt_irrefl _ (hm ▸ Heap.lt_size e)
def drSumT : DRc := fun ds μ Q => match ds with
  | [d, .tup []] => (match seqD μ d with
    | some zs => ∃ ls : List (List SD), zs = ls.map SD.tup ∧ ls.flatten.length ≤ sizeLine ∧ Q (.tup ls.flatten) μ
    | none => False)
  | _ => False
theorem lc_sumT {K : PySem.W.Frag} : LRc K drSumT (rSumT K) := fun F H μ xs ds Q' Q R r t k => by
  unfold drSumT at t
  split at t
  · rename_i d
    cases e : seqD μ d with
    | none => rw [e] at t; exact t.elim
    | some zs =>
      rw [e] at t
      obtain ⟨ls, rfl, hz, q⟩ := t
      match xs, r with
      | [_, _], .cons rd (.cons rt .nil) =>
        obtain ⟨a, vs, rfl, rl, h3⟩ := R.seq' rd e
        cases rt with
        | @tup t0 _ ws ht rt =>
        cases rt
        have pick : ∀ i : Nat, ∃ ws : List V, ∀ es, ls[i]? = some es → ∃ b, vs[i]? = some (.ref b) ∧ SqT K F b ws ∧ RepL K F es ws := fun i => by
          cases e2 : ls[i]? with
          | none => exact ⟨[], fun _ z => by cases z⟩
          | some es =>
            obtain ⟨v, ev, rv⟩ := rl.get (i := i) (d := .tup es) (by rw [List.getElem?_map, e2]; rfl)
            cases rv with
            | tup hq rq => exact ⟨_, fun _ z => by cases z; exact ⟨_, ev, hq, rq⟩⟩
        let pt : Nat → List V := fun i => Classical.choose (pick i)
        have hpt : ∀ i es, ls[i]? = some es → ∃ b, vs[i]? = some (.ref b) ∧ SqT K F b (pt i) ∧ RepL K F es (pt i) := fun i => Classical.choose_spec (pick i)
        have hlen : vs.length = ls.length := by have := rl.length; simpa using this.symm
        have rel : ∀ i, i ≤ ls.length → RepL K F (ls.take i).flatten (totV pt i) := fun i => by
          induction i with
          | zero => intro _; exact .nil
          | succ i ih =>
            intro hi
            have hi' : i < ls.length := hi
            obtain ⟨b, _, _, r'⟩ := hpt i _ (List.getElem?_eq_getElem hi')
            rw [List.take_succ, List.getElem?_eq_getElem hi', List.flatten_append]
            have : ([ls[i]] : List (List SD)).flatten = ls[i] := by simp
            show RepL K F ((ls.take i).flatten ++ ([ls[i]] : List (List SD)).flatten) (totV pt i ++ pt i)
            rw [this]
            exact (ih (by omega)).append r'
        have whole : RepL K F ls.flatten (totV pt vs.length) := by
          have := rel ls.length (Nat.le_refl _)
          rw [List.take_length] at this
          rw [hlen]; exact this
        refine ⟨a, t0, vs, pt, rfl, h3, R.ext.sqT ht, fun i v ev => ?_, by rw [← whole.length]; exact hz, fun p H' hp => ?_⟩
        · have hi : i < ls.length := by
            have := (List.getElem?_eq_some_iff.mp ev).1
            omega
          obtain ⟨b, e1, e2, _⟩ := hpt i _ (List.getElem?_eq_getElem hi)
          rw [e1] at ev; cases ev
          exact ⟨b, rfl, R.ext.sqT e2⟩
        · rcases hp with ⟨rfl, ⟨rfl, e0⟩ | ⟨i, ei, e0⟩⟩ | ⟨hn, rfl⟩
          · exact k _ μ q F H' _ (Stp.refl _ _ _) R (.tup ht (by rw [e0] at whole; exact whole))
          · have hi : i < ls.length := by
              have := (List.getElem?_eq_some_iff.mp ei).1
              omega
            obtain ⟨b, e1, e2, _⟩ := hpt i _ (List.getElem?_eq_getElem hi)
            rw [e1] at ei; cases ei
            exact k _ μ q F H' _ (Stp.refl _ _ _) R (.tup e2 (by rw [e0] at whole; exact whole))
          · exact k _ μ q _ _ _ (Stp.newS R hn) (R.newS hn) (.tup (.inl (.inl upd_same)) (whole.mono (Ext.new (R.freeF hn))))
  · exact t.elim
end DS
namespace DS
open PySem PySem.Spec PyProof.Rows L2
section
variable {X : Cx} {to te : DTE} {apos cpos : Pos} {o e : Expr}
theorem countP_eqU {x : V} : ∀ {xs : List V} {us : List Value}, Vals xs us → xs.all flatV = true → us.countP (eqU x) = xs.countP fun y => eqV y x
  | _, _, .nil, _ => rfl
  | y :: xs, u :: us, .cons r t, f => by
    rw [List.all_cons, Bool.and_eq_true] at f
    rw [List.countP_cons, List.countP_cons, eqU_of r f.1, countP_eqU t f.2]
def rCountF : V → List V → Hp → VK → Prop := fun x xs H Q => ∃ (l : Addr) (ns : List V) (k : V), x = .ref l ∧ xs = [k] ∧ SqL X.K H l ns ∧ flatV k = true ∧ ns.all flatV = true ∧ Q (.int (ns.countP fun y => eqV y k : Nat)) H
theorem mt_countF : MtR X "list.count" (rCountF (X := X)) := by
  intro pins s σ H x xs v us Q I rx rxs h
  obtain ⟨l, ns, k, rfl, rfl, hs, fk, fs, q⟩ := h
  cases rx
  match us, rxs with
  | [u], .cons ru .nil =>
    obtain ⟨its, rv, pl, hlen⟩ := I.list hs
    obtain ⟨⟨cls, dd, data, sl⟩, ho, hc, n, hd⟩ := id pl.isList
    simp only at hc hd
    subst hc hd
    refine call_meets PySem.F.slot_list_count ⟨_, ho, rfl⟩ PySem.F.entry_list_count (PySem.F.args_list_count_2 _ _) (SeqAt.list_countAt l its.toArray n dd sl u (eqU k)) ⟨ho, fun y hy => (mem_eqAt ru fk rv fs y (by simpa using hy)), ?_⟩
    rw [show its.toArray.toList = its from rfl, countP_eqU rv fs]
    exact ⟨.int _, H, I.tok _, ⟨_, rfl⟩, q⟩
def dmCountF : DRm := fun d ds μ Q => match ds with
  | [k] => (match lstD μ d with
    | some xs => (flatD k = true ∧ xs.all flatD = true) ∧ Q (.int (xs.countP fun y => eqA y k : Nat)) μ
    | none => False)
  | _ => False
theorem countP_V {K : PySem.W.Frag} {F : Hp} {x : SD} {v : V} (hx : plain x = some v) : ∀ {ds : List SD} {vs : List V}, RepL K F ds vs → ds.all flatD = true → (ds.countP fun y => eqA y x) = vs.countP fun y => eqV y v
  | _, _, .nil, _ => rfl
  | d :: ds, _, .cons h r, e => by
    rw [List.all_cons, Bool.and_eq_true] at e
    obtain ⟨p, f⟩ := flatD_V h e.1
    rw [List.countP_cons, List.countP_cons, countP_V hx r e.2]
    unfold eqA; rw [p, hx]

theorem lm_countF : LRm X.K dmCountF (rCountF (X := X)) := fun F H μ x xs d ds Q' Q R r rs t k => by
  unfold dmCountF at t
  split at t
  · rename_i z
    cases rs with
    | cons r1 r2 =>
      cases r2
      cases e : lstD μ d with
      | none => simp only [e] at t
      | some ys =>
        simp only [e] at t
        obtain ⟨⟨f1, f2⟩, t⟩ := t
        obtain ⟨a, vs, rfl, ha, rl⟩ := R.lst r e
        obtain ⟨p, f⟩ := flatD_V r1 f1
        refine ⟨a, vs, _, rfl, rfl, SqL.of ha, f, (flatL_V rl f2).1, ?_⟩
        rw [← countP_V p rl f2]
        exact k _ _ t F _ _ (Stp.refl _ _ _) R (.int _)
  · exact t.elim
theorem de_countF (ho : DE X o to) (ha : DE X e te) (hs : starEach [e] X.env = (false, eval e X.env) :: starEach [] X.env := by rfl) (hbase : attributeBase o "count" X.env (eval o X.env) = eval o X.env := by rfl)
    (hfew : ((backTo cpos (starEach [e] X.env)).all (fun x => !x.1) && (backToKw cpos (keywordEach [] X.env)).all (fun x => x.1.isSome)
      && decide (([e] : List Expr).length + ([] : List Keyword).length + (if ([] : List Keyword).isEmpty then 0 else 1) < 30)) = true := by rfl)
    (hline : (apos.endLine == cpos.line) = true := by rfl) (hplain : (backTo cpos (starEach [] X.env)).any (·.1) = false := by rfl) :
    DE X (.Call (.Attribute o "count" apos) [e] [] cpos) (dLM dmCountF to (dCons te dNil)) := de_lm F.plainAttrs_list F.slot_list_count F.type_list_count mt_countF lm_countF ho (da_cons ha da_nil hs) hbase hfew hline hs hplain
def rInDT (K : PySem.W.Frag) : R2 := fun x y H Q => ∃ d ds, Dp K H x d ∧ Dp K H y (.tuple ds) ∧ SeqAt.shaped d = true ∧ SeqAt.shaped (.tuple ds) = true ∧ Q (.bl (ds.any fun z => PyData.eqv z d)) H
theorem op_inDT (hu : X.A.units + 65 < cLine) : OpR X (compareOp .In) (rInDT X.K) := by
  intro pins s σ H x y v u Q I rx ry h
  obtain ⟨d, ds, hd, he, sd, se, q⟩ := h
  obtain ⟨as, r1⟩ := Dp.reads I d x v hd rx
  obtain ⟨bs, r2⟩ := Dp.reads I (.tuple ds) y u he ry
  exact SeqAt.in_tuple_reads r2 r1 (SeqAt.canLay_of_shaped se) (SeqAt.canLay_of_shaped sd) (room_in_shaped sd hu) ⟨.bl _, H, I, rfl, q⟩
def dInTT : DR2 := fun x y μ Q => match pd μ x, pd μ y with
  | some d, some (.tuple ds) => SeqAt.shaped d = true ∧ SeqAt.shaped (.tuple ds) = true ∧ Q (.bl (ds.any fun z => PyData.eqv z d)) μ
  | _, _ => False
theorem lr_inTT {K : PySem.W.Frag} : LR2 K dInTT (rInDT K) := fun F H μ x y dx dy Q' Q R rx ry t k => by
  unfold dInTT at t
  cases e1 : pd μ dx with
  | none => rw [e1] at t; exact False.elim t
  | some p => cases e2 : pd μ dy with
    | none => rw [e1, e2] at t; exact False.elim t
    | some q =>
      rw [e1, e2] at t
      cases q with
      | tuple ds => exact ⟨p, ds, R.dp rx e1, R.dp ry e2, t.1, t.2.1, k _ μ t.2.2 F H _ (Stp.refl _ _ _) R (.bl _)⟩
      | _ => exact t.elim
end
end DS
namespace MA
open PySem PySem.Spec PyProof.Rows L2 DS
structure Good (d : SD) (p : PyData) (D B : Nat) : Prop where
  e : pdS d = some p
  cl : p.canLay0 = true
  dp : p.depth ≤ D
  sh : p.showable = true
  ls : p.leavesShort 13 = true
  bk : p.bulk ≤ B
structure GoodL (ds : List SD) (ps : List PyData) (D B : Nat) : Prop where
  e : pdL ds = some ps
  cl : PyData.canLayAll0 ps = true
  dp : PyData.depthAll ps ≤ D
  sh : PyData.showableAll ps = true
  ls : PyData.leavesShortAll 13 ps = true
  bk : PyData.bulkAll ps ≤ B
theorem Good.mono {d p D B D' B'} (g : Good d p D B) (h1 : D ≤ D') (h2 : B ≤ B') : Good d p D' B' := ⟨g.e, g.cl, Nat.le_trans g.dp h1, g.sh, g.ls, Nat.le_trans g.bk h2⟩
theorem GoodL.mono {d p D B D' B'} (g : GoodL d p D B) (h1 : D ≤ D') (h2 : B ≤ B') : GoodL d p D' B' := ⟨g.e, g.cl, Nat.le_trans g.dp h1, g.sh, g.ls, Nat.le_trans g.bk h2⟩
theorem Good.non : Good .non .none 0 0 := ⟨rfl, by simp [PyData.canLay0], by simp [PyData.depth], by simp [PyData.showable], by simp [PyData.leavesShort], by simp [PyData.bulk]⟩
theorem Good.bl (b : Bool) : Good (.bl b) (.bool b) 0 0 := ⟨rfl, by simp [PyData.canLay0], by simp [PyData.depth], by simp [PyData.showable], by simp [PyData.leavesShort], by simp [PyData.bulk]⟩
theorem Good.str {x : Str} (h : PyData.strOk x = true) : Good (.str x) (.str x) 0 x.cps.size := by
  refine ⟨rfl, by simp [PyData.canLay0, h], by simp [PyData.depth], by simp [PyData.showable], ?_, by simp [PyData.bulk]⟩
  unfold PyData.leavesShort
  rw [List.all_eq_true]
  intro c hc
  have := (Array.all_eq_true_iff_forall_mem.mp h) c (by simpa using hc)
  simp at this ⊢
  omega
theorem GoodL.nil : GoodL [] [] 0 0 := ⟨rfl, by simp [PyData.canLayAll0], by simp [PyData.depthAll], by simp [PyData.showableAll], by simp [PyData.leavesShortAll], by simp [PyData.bulkAll]⟩
theorem GoodL.cons {d ds p ps D B C} (g : Good d p D B) (h : GoodL ds ps D C) : GoodL (d :: ds) (p :: ps) D (B + 1 + C) := by
  refine ⟨by rw [pdL, g.e, h.e], by simp [PyData.canLayAll0, g.cl, h.cl], ?_, by simp [PyData.showableAll, g.sh, h.sh], by simp [PyData.leavesShortAll, g.ls, h.ls], ?_⟩
  · have := g.dp; have := h.dp; rw [PyData.depthAll]; omega
  · have := g.bk; have := h.bk; rw [PyData.bulkAll]; omega
theorem Good.tup {ds ps D B} (h : GoodL ds ps D B) : Good (.tup ds) (.tuple ps) (D + 1) B :=
  ⟨by rw [pdS, h.e], by simp [PyData.canLay0, h.cl], by rw [PyData.depth]; exact Nat.succ_le_succ h.dp, by simp [PyData.showable, h.sh], by simp [PyData.leavesShort, h.ls], by rw [PyData.bulk]; exact h.bk⟩
theorem Good.lst {ds ps D B} (h : GoodL ds ps D B) : Good (.lst ds) (.list ps) (D + 1) B :=
  ⟨by rw [pdS, h.e], by simp [PyData.canLay0, h.cl], by rw [PyData.depth]; exact Nat.succ_le_succ h.dp, by simp [PyData.showable, h.sh], by simp [PyData.leavesShort, h.ls], by rw [PyData.bulk]; exact h.bk⟩
theorem GoodL.append {D B C} : ∀ {ds ps es qs}, GoodL ds ps D B → GoodL es qs D C → GoodL (ds ++ es) (ps ++ qs) D (B + C)
  | [], _, _, _, g, h => by
    have e := g.e; rw [pdL] at e; cases e
    exact h.mono (Nat.le_refl _) (by omega)
  | d :: ds, ps0, es, qs, g, h => by
    have e := g.e
    rw [pdL] at e
    split at e
    · rename_i p ps e1 e2
      cases e
      have cl := g.cl; have sh := g.sh; have ls := g.ls; have dp := g.dp; have bk := g.bk
      simp only [PyData.canLayAll0, Bool.and_eq_true] at cl
      simp only [PyData.showableAll, Bool.and_eq_true] at sh
      simp only [PyData.leavesShortAll, Bool.and_eq_true] at ls
      rw [PyData.depthAll] at dp
      rw [PyData.bulkAll] at bk
      have g1 : Good d p D p.bulk := ⟨e1, cl.1, by omega, sh.1, ls.1, Nat.le_refl _⟩
      have g2 : GoodL ds ps D (PyData.bulkAll ps) := ⟨e2, cl.2, by omega, sh.2, ls.2, Nat.le_refl _⟩
      exact (GoodL.cons g1 (GoodL.append g2 h)).mono (Nat.le_refl _) (by omega)
    · cases e
/-- each of so many good ones -/
theorem GoodL.of {D B} : ∀ {ds : List SD}, (∀ d ∈ ds, ∃ p, Good d p D B) → ∃ ps, GoodL ds ps D (ds.length * (B + 1))
  | [], _ => ⟨[], GoodL.nil.mono (Nat.zero_le _) (Nat.zero_le _)⟩
  | d :: ds, h => by
    obtain ⟨p, g⟩ := h d (List.mem_cons_self ..)
    obtain ⟨ps, gs⟩ := GoodL.of fun x hx => h x (List.mem_cons_of_mem _ hx)
    exact ⟨p :: ps, (GoodL.cons g gs).mono (Nat.le_refl _) (by rw [List.length_cons, Nat.add_mul]; omega)⟩
theorem Good.shaped {d p D B} (g : Good d p D B) (h : D ≤ 64) : SeqAt.shaped p = true := by
  unfold SeqAt.shaped
  rw [g.cl, Bool.true_and, decide_eq_true_eq]
  exact Nat.le_trans g.dp h
theorem Good.notref {d p D B} (g : Good d p D B) (μ : Mu) : pd μ d = some p := by
  have e := g.e
  cases d <;> first | exact e | (simp [pdS] at e)
theorem Good.repr {d p D B μ} {Q : SD → Mu → Prop} (g : Good d p D B) (h1 : D ≤ 64) (h2 : B ≤ 2 ^ 20) (q : Q (.str p.shown) μ) : drRepr [d] μ Q := by
  unfold drRepr
  simp only [g.notref μ]
  exact ⟨⟨g.sh, PyData.shown_fits_bulk (B := 13) (by decide) (by decide) g.ls (Nat.le_trans g.bk h2), Nat.le_trans g.dp h1⟩, q⟩
theorem eq_nil {μ : Mu} {a : Addr} {xs ps D B} (h : μ a = some (.lst xs)) (g : GoodL xs ps D B) (hD : D < 64) : eqD μ (.ref a) (.lst []) = some (decide (xs = [])) := by
  have e1 : pd μ (.ref a) = some (.list ps) := by simp [pd, h, g.e]
  have e2 : pd μ (.lst []) = some (.list []) := by simp [pd, pdS, pdL]
  have s1 : SeqAt.shaped (.list ps) = true := by
    unfold SeqAt.shaped
    rw [PyData.depth, PyData.canLay0, g.cl, Bool.true_and, decide_eq_true_eq]
    have := g.dp; omega
  have s2 : SeqAt.shaped (.list []) = true := by decide
  show (match pd μ (.ref a), pd μ (.lst []) with
    | some p, some q => if SeqAt.shaped p = true ∧ SeqAt.shaped q = true then some (PyData.eqv p q) else none
    | _, _ => none) = _
  rw [e1, e2]
  show (if SeqAt.shaped (.list ps) = true ∧ SeqAt.shaped (.list []) = true then some (PyData.eqv (.list ps) (.list [])) else none) = _
  rw [if_pos ⟨s1, s2⟩, PyData.eqv]
  have e := g.e
  cases xs with
  | nil => rw [pdL] at e; cases e; rfl
  | cons x xs =>
    rw [pdL] at e
    split at e
    · cases e; rfl
    · cases e
section
variable {α : Type} {k k' : Key} {v : α}
theorem valD_nil : valD ([] : List (Key × α)) k = none := rfl
theorem valD_cons {kv : Key × α} {r : List (Key × α)} : valD (kv :: r) k = if kv.1 = k then some kv.2 else valD r k := by
  unfold valD
  rw [List.find?_cons]
  by_cases h : kv.1 = k
  · simp [h]
  · simp [h]
theorem valD_append {xs ys : List (Key × α)} : valD (xs ++ ys) k = (valD xs k).or (valD ys k) := by
  induction xs with
  | nil => simp [valD_nil]
  | cons x r ih => rw [List.cons_append, valD_cons, valD_cons, ih]; split <;> simp
theorem valD_map {kvs : List (Key × α)} (h : (kvs.any fun kv => decide (kv.1 = k)) = true) : valD (kvs.map fun kv => if kv.1 = k then (kv.1, v) else kv) k' = if k = k' then some v else valD kvs k' := by
  induction kvs with
  | nil => simp at h
  | cons x r ih =>
    rw [List.map_cons, valD_cons, valD_cons]
    by_cases h1 : x.1 = k
    · rw [if_pos h1]
      by_cases h2 : k = k'
      · subst h2; simp [h1]
      · have h3 : x.1 ≠ k' := fun e => h2 (h1.symm.trans e)
        rw [if_neg h3, if_neg h3, if_neg h2]
        by_cases h4 : (r.any fun kv => decide (kv.1 = k)) = true
        · rw [ih h4, if_neg h2]
        · have : (r.map fun kv => if kv.1 = k then (kv.1, v) else kv) = r := by
            refine (List.map_congr_left fun y hy => ?_).trans (List.map_id _)
            rw [if_neg, id]
            intro e; exact h4 (List.any_eq_true.mpr ⟨y, hy, by simpa using e⟩)
          rw [this]
    · rw [if_neg h1]
      have h4 : (r.any fun kv => decide (kv.1 = k)) = true := by simpa [h1] using h
      rw [ih h4]
      by_cases h2 : k = k'
      · subst h2; simp [h1]
      · simp [h2]
theorem valD_put {kvs : List (Key × α)} : valD (putD kvs k v) k' = if k = k' then some v else valD kvs k' := by
  unfold putD
  split
  · rename_i h; exact valD_map h
  · rename_i h
    rw [valD_append, valD_cons, valD_nil]
    by_cases e : k = k'
    · subst e
      have : valD kvs k = none := by
        unfold valD
        rw [List.find?_eq_none.mpr, Option.map_none]
        intro x hx e; exact h (List.any_eq_true.mpr ⟨x, hx, e⟩)
      simp [this]
    · simp [e]
theorem putD_length {kvs : List (Key × α)} : (putD kvs k v).length ≤ kvs.length + 1 := by
  unfold putD
  split
  · simp
  · simp
end
def Le (μ μ' : Mu) : Prop := ∀ a m, μ a = some m → μ' a = some m
theorem Le.refl (μ : Mu) : Le μ μ := fun _ _ h => h
theorem Le.trans {μ μ1 μ2 : Mu} (h : Le μ μ1) (k : Le μ1 μ2) : Le μ μ2 := fun a m e => k a m (h a m e)
theorem Le.up {μ0 μ : Mu} {p : Addr} {m : MO} (h : Le μ0 μ) (hp : μ0 p = none) : Le μ0 (up μ p m) := fun a n e => by
  have : a ≠ p := fun z => by subst z; rw [hp] at e; cases e
  rw [up_ne this]; exact h a n e
theorem Le.rm {μ0 μ : Mu} {p : Addr} (h : Le μ0 μ) (hp : μ0 p = none) : Le μ0 (rm μ p) := fun a n e => by
  have : a ≠ p := fun z => by subst z; rw [hp] at e; cases e
  rw [rm_ne this]; exact h a n e
theorem Le.none {μ0 μ : Mu} {p : Addr} (h : Le μ0 μ) (hp : μ p = none) : μ0 p = none := by
  cases e : μ0 p with
  | none => rfl
  | some m => rw [h p m e] at hp; cases hp
/-- all but what stands at h stays -/
def LeX (h : Addr) (μ μ' : Mu) : Prop := ∀ a m, a ≠ h → μ a = some m → μ' a = some m
theorem LeX.refl (h : Addr) (μ : Mu) : LeX h μ μ := fun _ _ _ e => e
theorem Le.x {μ μ' : Mu} (h : Addr) (l : Le μ μ') : LeX h μ μ' := fun a m _ e => l a m e
theorem LeX.trans {h : Addr} {μ μ1 μ2 : Mu} (a : LeX h μ μ1) (b : LeX h μ1 μ2) : LeX h μ μ2 := fun x m n e => b x m n (a x m n e)
theorem LeX.put {h : Addr} {μ0 μ : Mu} {m : MO} (l : LeX h μ0 μ) : LeX h μ0 (up μ h m) := fun a n z e => by rw [up_ne z]; exact l a n z e
theorem LeX.up {h p : Addr} {μ0 μ : Mu} {m : MO} (l : LeX h μ0 μ) (hp : μ0 p = none) : LeX h μ0 (up μ p m) := fun a n z e => by
  have : a ≠ p := fun z => by subst z; rw [hp] at e; cases e
  rw [up_ne this]; exact l a n z e
theorem LeX.rm {h p : Addr} {μ0 μ : Mu} (l : LeX h μ0 μ) (hp : μ0 p = none) : LeX h μ0 (rm μ p) := fun a n z e => by
  have : a ≠ p := fun z => by subst z; rw [hp] at e; cases e
  rw [rm_ne this]; exact l a n z e
end MA
namespace MA
open PySem PySem.Spec PyProof.Rows L2 DS
inductive T where
  | node (k : Str) (cs : List T)
def T.key : T → Str
  | .node k _ => k
def T.kids : T → List T
  | .node _ cs => cs
mutual
def pre : T → List Str
  | .node k cs => k :: preL cs
def preL : List T → List Str
  | [] => []
  | t :: r => pre t ++ preL r
end
mutual
def dep : T → Nat
  | .node _ cs => depL cs + 1
def depL : List T → Nat
  | [] => 0
  | t :: r => max (dep t) (depL r)
end
theorem preL_append : ∀ a b : List T, preL (a ++ b) = preL a ++ preL b
  | [], b => by rw [List.nil_append, preL]; rfl
  | t :: r, b => by rw [List.cons_append, preL, preL, preL_append r b, List.append_assoc]
theorem preL_mem {ts : List T} {k : Str} : k ∈ preL ts ↔ ∃ t ∈ ts, k ∈ pre t := by
  induction ts with
  | nil => simp [preL]
  | cons t r ih => rw [preL, List.mem_append, ih]; simp
theorem depL_mem {ts : List T} {t : T} (h : t ∈ ts) : dep t ≤ depL ts := by
  induction ts with
  | nil => cases h
  | cons u r ih =>
    rw [depL]
    rcases List.mem_cons.mp h with rfl | h
    · exact Nat.le_max_left _ _
    · exact Nat.le_trans (ih h) (Nat.le_max_right _ _)
theorem key_mem (t : T) : t.key ∈ pre t := by cases t; rw [pre]; exact List.mem_cons_self ..
theorem preL_sub {ts : List T} {t : T} (h : t ∈ ts) : ∀ k ∈ pre t, k ∈ preL ts := fun k hk => preL_mem.mpr ⟨t, h, hk⟩
theorem preL_len {ts : List T} {t : T} (h : t ∈ ts) : (pre t).length ≤ (preL ts).length := by
  induction ts with
  | nil => cases h
  | cons u r ih =>
    rw [preL, List.length_append]
    rcases List.mem_cons.mp h with rfl | h
    · omega
    · have := ih h; omega
def KeyOk (k : Str) : Prop := PyData.strOk k = true ∧ k.cps.size ≤ 61
mutual
def Fits (f : Str → List Str) : T → Prop
  | .node k cs => f k = cs.map T.key ∧ FitsL f cs
def FitsL (f : Str → List Str) : List T → Prop
  | [] => True
  | t :: r => Fits f t ∧ FitsL f r
end
theorem FitsL_mem {f : Str → List Str} {ts : List T} : FitsL f ts ↔ ∀ t ∈ ts, Fits f t := by
  induction ts with
  | nil => simp [FitsL]
  | cons u r ih => rw [FitsL, ih]; simp
def optS : Option Str → SD
  | none => .non
  | some k => .str k
end MA
namespace MA
open PySem PySem.Spec PyProof.Rows L2 DS
section
variable {ρ : Rho} {μ : Mu} {i : Nat} {a : Addr} {d x y : SD} {xs ys : List SD} {Q : SD → Mu → Prop} {te ti tb : DTE}
theorem r_var (h : ρ[i]? = some (some d)) (q : Q d μ) : dVar i ρ μ Q := by unfold dVar; rw [h]; exact q
theorem isSome_ref (m : μ a = some (.lst xs)) : (lstD μ (.ref a)).isSome = true := by simp [lstD, m]
theorem dm_append (m : μ a = some (.lst xs)) (l : xs.length < sizeLine) (q : Q .non (up μ a (.lst (xs ++ [y])))) : dmAppend (.ref a) [y] μ Q := by
  unfold dmAppend
  have e : mlst μ (.ref a) = some (a, xs) := by simp [mlst, m]
  simp only [e]
  exact ⟨l, q⟩
theorem dm_extendL (m : μ a = some (.lst xs)) (l : xs.length + ys.length ≤ sizeLine) (q : Q .non (up μ a (.lst (xs ++ ys)))) : dmExtend (.ref a) [.lst ys] μ Q := by
  unfold dmExtend
  have e : mlst μ (.ref a) = some (a, xs) := by simp [mlst, m]
  simp only [e]
  exact ⟨l, q⟩
theorem eq_nilR {ps D B neg} (m : μ a = some (.lst xs)) (g : GoodL xs ps D B) (hD : D < 64) (k : Q (.bl (neg != decide (xs = []))) μ) : dEq neg (.ref a) (.lst []) μ Q := by
  unfold dEq
  simp only [eq_nil m g hD]
  exact k
theorem dr_tupleL (q : Q (.tup xs) μ) : drTuple [.lst xs] μ Q := q
theorem dr_tupleR (m : μ a = some (.lst xs)) (q : Q (.tup xs) μ) : drTuple [.ref a] μ Q := by
  unfold drTuple; simp only [seqD, m]; exact q
theorem ix_at {k : Int} (e : seqD μ x = some xs) (hs : ∀ z, x ≠ .str z) (h : atI xs k = some d) (q : Q d μ) : dIx x (.int k) μ Q := by
  unfold dIx
  cases x with
  | str z => exact (hs z rfl).elim
  | _ => simp only [e, h]; exact q
theorem ix_tup {k : Int} (h : atI xs k = some d) (q : Q d μ) : dIx (.tup xs) (.int k) μ Q := ix_at rfl (fun _ z => by cases z) h q
theorem ix_lst {k : Int} (h : atI xs k = some d) (q : Q d μ) : dIx (.lst xs) (.int k) μ Q := ix_at rfl (fun _ z => by cases z) h q
theorem ix_rol {k : Int} (h : atI xs k = some d) (q : Q d μ) : dIx (.rol xs) (.int k) μ Q := ix_at rfl (fun _ z => by cases z) h q
theorem ix_ref {k : Int} (m : μ a = some (.lst xs)) (h : atI xs k = some d) (q : Q d μ) : dIx (.ref a) (.int k) μ Q := ix_at (by simp [seqD, m]) (fun _ z => by cases z) h q
theorem dicD_ref {kvs : List (Key × SD)} (m : μ a = some (.dic kvs)) : dicD μ (.ref a) = some kvs := by simp [dicD, m]
theorem ifT {c : Bool} {A B : Prop} (hc : c = true) (h : A) : if c = true then A else B := by rw [if_pos hc]; exact h
theorem ifF {c : Bool} {A B : Prop} (hc : c = false) (h : B) : if c = true then A else B := by rw [if_neg (by rw [hc]; exact Bool.false_ne_true)]; exact h
theorem lt_line {n m : Nat} (h : n ≤ m) (h2 : m ≤ 1000000) : n < sizeLine := by rw [sizeLine_eq]; omega
theorem le_line {n m : Nat} (h : n ≤ m) (h2 : m ≤ 1000000) : n ≤ sizeLine := by rw [sizeLine_eq]; omega
/-- a comprehension that changes nothing -/
theorem lc_pure {ds zs : List SD} {ok : Mu → Prop} {j : Nat} {R : List SD → Mu → Prop} (hok : ok μ) (hl : ds.length ≤ 1000000) (hy : zs.length = ds.length) (el : ∀ (i : Nat) (d y : SD), ds[i]? = some d → zs[i]? = some y → ∀ R : SD → Mu → Prop, R y μ → te ((wipeR ρ [j]).set j (some d)) μ R) (q : R zs μ) :
    ds.length ≤ sizeLine ∧ ∃ W : Nat → List SD → Mu → Prop, W 0 [] μ ∧ (∀ i acc μ', i ≤ ds.length → W i acc μ' → ok μ') ∧ (∀ i d acc μ', ds[i]? = some d → W i acc μ' → hName j d (wipeR ρ [j]) μ' fun ρ2 μ2 => dYes ρ2 μ2 fun b μ3 => if b = true then te ρ2 μ3 fun y μ4 => W (i+1) (acc ++ [y]) μ4 else W (i+1) acc μ3) ∧ ∀ acc μ', W ds.length acc μ' → R acc μ' := by
  refine ⟨le_line hl (Nat.le_refl _), fun i acc μ' => acc = zs.take i ∧ μ' = μ, ⟨rfl, rfl⟩, ?_, ?_, ?_⟩
  · rintro i acc μ' _ ⟨_, rfl⟩; exact hok
  · rintro i d acc μ' hd ⟨rfl, rfl⟩
    have hi := (List.getElem?_eq_some_iff.mp hd).1
    have hz : zs[i]? = some zs[i] := List.getElem?_eq_getElem (by omega)
    refine ifT rfl (el i d _ hd hz _ ⟨?_, rfl⟩)
    rw [List.take_succ, hz]; rfl
  · rintro acc μ' ⟨rfl, rfl⟩
    rw [List.take_of_length_le (by omega)]; exact q
theorem isi_of {n t : String} {b : Bool} (ht : tyD μ d = some t) (hb : kitB t n = some b) (q : Q (.bl b) μ) : drIsi [d, .ty n] μ Q := by
  unfold drIsi
  have : isiB μ d n = some b := by unfold isiB; simp only [ht, hb]
  simp only [this]; exact q
variable {m n : Int}
theorem i_add (q : Q (.int (m + n)) μ) : dAdd (.int m) (.int n) μ Q := q
theorem i_sub (q : Q (.int (m - n)) μ) : dSub (.int m) (.int n) μ Q := q
theorem i_mul (h : IntMulOk m n) (q : Q (.int (m * n)) μ) : dMul (.int m) (.int n) μ Q := ⟨h, q⟩
theorem i_mod (h : 0 < n) (q : Q (.int (m % n)) μ) : dMod (.int m) (.int n) μ Q := ⟨h, q⟩
theorem i_div (h : CDivW m n) (q : Q (.int (m / n)) μ) : dDiv (.int m) (.int n) μ Q := ⟨h, q⟩
theorem i_pow (h : CPowW m n) (q : Q (.int (m ^ n.toNat)) μ) : dPow (.int m) (.int n) μ Q := ⟨h, q⟩
theorem i_lt (q : Q (.bl (decide (m < n))) μ) : dLt (.int m) (.int n) μ Q := q
theorem i_gt (q : Q (.bl (decide (n < m))) μ) : dGt (.int m) (.int n) μ Q := q
theorem i_le (q : Q (.bl (decide (m ≤ n))) μ) : dLe (.int m) (.int n) μ Q := q
theorem i_ge (q : Q (.bl (decide (n ≤ m))) μ) : dGe (.int m) (.int n) μ Q := q
theorem s_add {u v : Str} (h : u.length + v.length ≤ sizeLine) (q : Q (.str (u ++ v)) μ) : dAdd (.str u) (.str v) μ Q := ⟨h, q⟩
theorem s_mul {u : Str} (h : (0 ≤ n ∧ n ≤ 1000000 ∧ u.length * n.toNat ≤ sizeLine)) (q : Q (.str (repS u n.toNat)) μ) : dMul (.str u) (.int n) μ Q := ⟨h, q⟩
theorem l_add (h : xs.length + ys.length ≤ sizeLine) (q : Q (.lst (xs ++ ys)) μ) : dAdd (.lst xs) (.lst ys) μ Q := by
  unfold dAdd; exact ⟨h, q⟩
theorem l_mul (h : (-(2 ^ 63) ≤ n ∧ n < 2 ^ 63 ∧ xs.length * n.toNat ≤ sizeLine)) (q : Q (.lst (List.replicate n.toNat xs).flatten) μ) : dMul (.lst xs) (.int n) μ Q := by
  unfold dMul; exact ⟨h, q⟩
theorem l_len (q : Q (.int xs.length) μ) : drLen [.lst xs] μ Q := q
theorem l_lenR (hm : μ a = some (.lst xs)) (q : Q (.int xs.length) μ) : drLen [.ref a] μ Q := by
  unfold drLen; simp only [seqD, hm]; exact q
theorem l_lenT (q : Q (.int xs.length) μ) : drLen [.tup xs] μ Q := q
theorem l_lenO (q : Q (.int xs.length) μ) : drLen [.rol xs] μ Q := q
theorem l_lenS {u : Str} (h : u.length ≤ sizeLine) (q : Q (.int u.length) μ) : drLen [.str u] μ Q := ⟨h, q⟩
theorem ix_str {u : Str} {k : Int} {c : Nat} (h : u.length ≤ sizeLine) (e : atI u.cps.toList k = some c) (q : Q (.str ⟨#[c]⟩) μ) : dIx (.str u) (.int k) μ Q := by
  unfold dIx; simp only [e]; exact ⟨h, q⟩
theorem sl_L {l u : Option Int} (q : Q (.lst (cutL xs l u)) μ) : drSl (.lst xs) l u μ Q := q
theorem sl_T {l u : Option Int} (q : Q (.tup (cutL xs l u)) μ) : drSl (.tup xs) l u μ Q := q
theorem cutL_from {α : Type} (xs : List α) (k : Nat) : cutL xs (some k) none = xs.drop k := by
  unfold cutL
  rw [HT.sIx_nat, HT.sIx_none]
  by_cases h : k ≤ xs.length
  · rw [Nat.min_eq_left h, List.take_of_length_le (by simp)]
  · rw [Nat.min_eq_right (by omega), List.drop_of_length_le (Nat.le_refl _), List.drop_of_length_le (by omega)]; simp
theorem cutL_to {α : Type} (xs : List α) (k : Nat) : cutL xs none (some k) = xs.take k := by
  unfold cutL
  rw [HT.sIx_nat, HT.sIx_none]
  simp
theorem valD_mapk {α : Type} {ks : List Str} {g : Str → α} {k : Str} : valD (ks.map fun k => ((Sum.inr k : Key), g k)) (.inr k) = if k ∈ ks then some (g k) else none := by
  induction ks with
  | nil => simp [valD_nil]
  | cons x r ih =>
    rw [List.map_cons, valD_cons, ih]
    by_cases h : x = k
    · subst h; simp
    · have : ¬ ((Sum.inr x : Key) = Sum.inr k) := fun z => h (by cases z; rfl)
      rw [if_neg this]
      by_cases h2 : k ∈ r
      · rw [if_pos h2, if_pos (List.mem_cons_of_mem _ h2)]
      · rw [if_neg h2, if_neg (by simp [Ne.symm h, h2])]
theorem putD_mapk {α : Type} {ks : List Str} {g : Str → α} {x : Str} {v : α} (h : x ∉ ks) : putD (ks.map fun k => ((Sum.inr k : Key), g k)) (.inr x) v = (ks.map fun k => ((Sum.inr k : Key), g k)) ++ [(.inr x, v)] := by
  unfold putD
  rw [if_neg]
  intro z
  rw [List.any_map] at z
  obtain ⟨k, hk, e⟩ := List.any_eq_true.mp z
  simp at e
  exact h (e ▸ hk)
theorem up_none {p : Addr} {o : MO} (h : up μ a o p = none) : p ≠ a ∧ μ p = none := by
  by_cases e : p = a
  · subst e; rw [up_same] at h; cases h
  · rw [up_ne e] at h; exact ⟨e, h⟩
end
end MA
namespace LK
open PySem PySem.Spec PyProof.Rows L2 DS MA
def sts (ks : List Str) : List SD := ks.map SD.str
end LK
namespace LK
open PySem PySem.Spec PyProof.Rows L2 DS MA
/-- from k upwards -/
inductive Up (par : Str → Option Str) : Str → List Str → Prop where
  | root {k : Str} (h : par k = none) : Up par k [k]
  | step {k p : Str} {l : List Str} (h : par k = some p) (r : Up par p l) : Up par k (k :: l)
theorem Up.head {par : Str → Option Str} {k : Str} {l : List Str} (h : Up par k l) : ∃ r, l = k :: r := by cases h <;> exact ⟨_, rfl⟩
theorem Up.uniq {par : Str → Option Str} {k : Str} {l l' : List Str} (h : Up par k l) : Up par k l' → l = l' := by
  induction h generalizing l' with
  | root h => intro q; cases q with
    | root => rfl
    | step h2 _ => rw [h] at h2; cases h2
  | step h r ih => intro q; cases q with
    | root h2 => rw [h] at h2; cases h2
    | step h2 r2 => rw [h] at h2; cases h2; rw [ih r2]
/-- s is t, or inside it -/
inductive Sub : T → T → Prop where
  | refl (t : T) : Sub t t
  | kid {s c : T} {k : Str} {cs : List T} (h : c ∈ cs) (r : Sub s c) : Sub s (.node k cs)
theorem Sub.pre {s t : T} (h : Sub s t) : ∀ k ∈ pre s, k ∈ MA.pre t := by
  induction h with
  | refl => exact fun _ h => h
  | kid h r ih => intro k hk; rw [MA.pre]; exact List.mem_cons_of_mem _ (preL_sub h _ (ih k hk))
theorem Sub.len {s t : T} (h : Sub s t) : (MA.pre s).length ≤ (MA.pre t).length := by
  induction h with
  | refl => exact Nat.le_refl _
  | kid h r ih => rw [MA.pre, List.length_cons]; have := preL_len h; omega
theorem Sub.dep {s t : T} (h : Sub s t) : MA.dep s ≤ MA.dep t := by
  induction h with
  | refl => exact Nat.le_refl _
  | kid h r ih => rw [MA.dep]; have := depL_mem h; omega
theorem Sub.fits {f : Str → List Str} {s t : T} (h : Sub s t) : Fits f t → Fits f s := by
  induction h with
  | refl => exact fun h => h
  | kid h r ih => intro q; rw [Fits] at q; exact ih (FitsL_mem.mp q.2 _ h)
end LK
namespace LK
open PySem PySem.Spec PyProof.Rows L2 DS MA
theorem log2_lt {i : Int} {k : Nat} (hk : 0 < k) (h : i.natAbs < 2 ^ k) : i.natAbs.log2 < k := by
  by_cases e : i.natAbs = 0
  · rw [e]; simpa using hk
  · exact (Nat.log2_lt e).mpr h
theorem mul_ok {i j : Int} (hi : i.natAbs < 2 ^ 2000) (hj : j.natAbs < 2 ^ 2000) : IntMulOk i j := CMulW.ok (by
  have := log2_lt (by decide) hi; have := log2_lt (by decide) hj; unfold CMulW; omega)
theorem pow_ok {i : Int} {n : Nat} (hi : i.natAbs < 2 ^ 2000) (hn : n ≤ 60) : CPowW i n := by
  refine ⟨by omega, ?_⟩
  have h1 := log2_lt (by decide) hi
  have h2 : Builtin.Int.intBits i ≤ 2001 := by unfold Builtin.Int.intBits; split <;> omega
  have h3 : (Builtin.Int.intBits i : Int) * (n : Int) ≤ 2001 * 60 := by
    exact_mod_cast Nat.mul_le_mul h2 hn
  omega
theorem div_ok {i j : Int} (h0 : 0 < j) (h : j.natAbs < 2 ^ 2000) : CDivW i j := ⟨h0, by have := log2_lt (by decide) h; omega⟩
theorem abs_lt {i : Int} {a b : Nat} (h0 : 0 ≤ i) (h : i < (2 : Int) ^ a) (hab : a ≤ b) : i.natAbs < 2 ^ b := by
  have h1 : i.natAbs < 2 ^ a := by
    have : ((i.natAbs : Nat) : Int) = i := Int.natAbs_of_nonneg h0
    have h2 : ((2 ^ a : Nat) : Int) = (2 : Int) ^ a := by norm_cast
    omega
  exact Nat.lt_of_lt_of_le h1 (Nat.pow_le_pow_right (by decide) hab)
/-- the hand: a great number, a number to mix, the turn -/
structure HandAt (μ : Mu) (h : Addr) (T : Nat) : Prop where
  ex : ∃ g m t : Int, μ h = some (.lst [.int g, .int m, .int t]) ∧ 0 ≤ g ∧ 0 ≤ m ∧ m < 2305843009213693921 ∧ 0 ≤ t ∧ t ≤ T
theorem HandAt.mono {μ : Mu} {h : Addr} {T T' : Nat} (H : HandAt μ h T) (l : T ≤ T') : HandAt μ h T' := by
  obtain ⟨g, m, t, e, a, b, c, d, f⟩ := H.ex
  exact ⟨g, m, t, e, a, b, c, d, by omega⟩
theorem HandAt.le {μ μ' : Mu} {h : Addr} {T : Nat} (H : HandAt μ h T) (l : Le μ μ') : HandAt μ' h T := by
  obtain ⟨g, m, t, e, r⟩ := H.ex
  exact ⟨g, m, t, l _ _ e, r⟩
theorem HandAt.ne {μ : Mu} {h p : Addr} {T : Nat} (H : HandAt μ h T) (hp : μ p = none) : h ≠ p := by
  obtain ⟨g, m, t, e, r⟩ := H.ex
  intro z; subst z; rw [hp] at e; cases e
theorem HandAt.up {μ : Mu} {h p : Addr} {T : Nat} {m : MO} (H : HandAt μ h T) (hp : h ≠ p) : HandAt (up μ p m) h T := by
  obtain ⟨g, m, t, e, r⟩ := H.ex
  exact ⟨g, m, t, by rw [up_ne hp]; exact e, r⟩
theorem HandAt.rm {μ : Mu} {h p : Addr} {T : Nat} (H : HandAt μ h T) (hp : h ≠ p) : HandAt (rm μ p) h T := by
  obtain ⟨g, m, t, e, r⟩ := H.ex
  exact ⟨g, m, t, by rw [rm_ne hp]; exact e, r⟩
def sp__law_take : DSp := fun ds μ Q _ => ∃ h many T, ds = [.ref h, .int many] ∧ 0 < many ∧ many ≤ 10000000000000000000000000000000000000000 ∧ T ≤ 1000000000 ∧ HandAt μ h T ∧ ∀ (d : Int) μ', 0 ≤ d → d < many → HandAt μ' h (T + 1) → LeX h μ μ' → Q (.int d) μ'
theorem len__law_take : ∀ ds μ Q E, sp__law_take ds μ Q E → ds.length = 2 := by rintro ds μ Q E ⟨h, many, T, rfl, _⟩; rfl
def t__law_take : DTS := (dSeq (dIfS (dTest (dOp dGt (dOp dIx (dVar 0) (dC (.int 0))) (dC (.int 0)))) (dSeq (dSet (dOp dMod (dOp dIx (dVar 0) (dC (.int 0))) (dVar 1)) 5)
    (dSeq (dAsg (dOp dDiv (dOp dIx (dVar 0) (dC (.int 0))) (dVar 1)) (hSub (dVar 0) (dC (.int 0)) dsetL))
    (dRet (dVar 5)))) dNext)
    (dSeq (dSet (dOp dAdd (dOp dIx (dVar 0) (dC (.int 2))) (dC (.int 1))) 2)
    (dSeq (dAsg (dVar 2) (hSub (dVar 0) (dC (.int 2)) dsetL))
    (dSeq (dSet (dOp dIx (dLst (dCons (dC (.int 2147483647)) (dCons (dC (.int 2147483629)) (dCons (dC (.int 2147483587)) (dCons (dC (.int 2147483579)) (dCons (dC (.int 2147483563)) (dCons (dC (.int 2147483549)) dNil))))))) (dOp dMod (dVar 2) (dC (.int 6)))) 3)
    (dSeq (dSet (dOp dMod (dOp dPow (dOp dAdd (dOp dAdd (dOp dIx (dVar 0) (dC (.int 1))) (dOp dMul (dOp dMul (dC (.int 65537)) (dVar 2)) (dVar 2))) (dOp dMul (dC (.int 31)) (dVar 2))) (dC (.int 3))) (dVar 3)) 4)
    (dRet (dOp dMod (dOp dDiv (dOp dMod (dOp dMul (dVar 4) (dOp dAdd (dOp dMod (dVar 4) (dC (.int 10007))) (dOp dMul (dC (.int 13)) (dVar 2)))) (dC (.int 2305843009213693907))) (dC (.int 97))) (dVar 1))))))))
theorem setL_ok {μ : Mu} {a : Addr} {xs : List SD} {k : Int} {j : Nat} {v : SD} {R : Mu → Prop} (m : μ a = some (.lst xs)) (h : ixN xs.length k = some j) (q : R (up μ a (.lst (xs.set j v)))) : dsetL (.ref a) (.int k) v μ R := by
  unfold dsetL
  have e : mlst μ (.ref a) = some (a, xs) := by simp [mlst, m]
  simp only [e, h]; exact q
theorem read__law_take : ∀ ds μ Q E, sp__law_take ds μ Q E → t__law_take { nx := fun _ μ' => Q .non μ', rt := Q } (begin_ ["_law_hand_here", "_law_many", "_law_turn", "_law_prime", "_law_mixed", "_law_digit"] ds) μ := by
  rintro ds μ Q E ⟨h, many, T, rfl, hm0, hm1, hT, H, q⟩
  unfold t__law_take
  obtain ⟨g, m, t, e, g0, m0, m1, t0, t1⟩ := H.ex
  refine r_var rfl ?_
  refine ix_ref (d := .int g) e rfl ?_
  by_cases hg : 0 < g
  · refine ifT (decide_eq_true hg) ?_
    refine r_var rfl ?_
    refine ix_ref (d := .int g) e rfl ?_
    refine r_var rfl ?_
    refine ⟨hm0, ?_⟩
    dsimp only
    refine r_var rfl ?_
    refine ix_ref (d := .int g) e rfl ?_
    refine r_var rfl ?_
    refine ⟨div_ok hm0 (abs_lt (a := 140) (by omega) (by omega) (by decide)), ?_⟩
    refine r_var rfl ?_
    refine setL_ok (j := 0) e rfl ?_
    dsimp only
    refine r_var rfl ?_
    refine q _ _ (Int.emod_nonneg _ (by omega)) (Int.emod_lt_of_pos _ hm0) ⟨g / many, m, t, by rw [up_same]; rfl, Int.ediv_nonneg g0 (by omega), m0, m1, t0, by omega⟩ ((LeX.refl h μ).put)
  · refine ifF (decide_eq_false hg) ?_
    simp only [dNext]
    refine r_var rfl ?_
    refine ix_ref (d := .int t) e rfl ?_
    refine i_add ?_
    dsimp only
    refine r_var rfl ?_
    refine r_var rfl ?_
    refine setL_ok (j := 2) e rfl ?_
    dsimp only
    refine ⟨(by show 6 ≤ sizeLine; decide), ?_⟩
    refine r_var rfl ?_
    refine i_mod (by decide) ?_
    have hp : ∃ p : Int, atI [SD.int 2147483647, .int 2147483629, .int 2147483587, .int 2147483579, .int 2147483563, .int 2147483549] ((t + 1) % 6) = some (.int p) ∧ 0 < p ∧ p ≤ 2147483647 := by
      have h0 := Int.emod_nonneg (t + 1) (show (6 : Int) ≠ 0 by decide)
      have h1 := Int.emod_lt_of_pos (t + 1) (show (0 : Int) < 6 by decide)
      generalize (t + 1) % 6 = r at h0 h1
      have : r = 0 ∨ r = 1 ∨ r = 2 ∨ r = 3 ∨ r = 4 ∨ r = 5 := by omega
      rcases this with rfl | rfl | rfl | rfl | rfl | rfl <;> exact ⟨_, rfl, by decide, by decide⟩
    obtain ⟨p, hat, p0, p1⟩ := hp
    refine ix_lst hat ?_
    dsimp only
    have e2 : up μ h (.lst (([SD.int g, .int m, .int t] : List SD).set 2 (.int (t + 1)))) h = some (.lst [.int g, .int m, .int (t + 1)]) := by rw [up_same]; rfl
    refine r_var rfl ?_
    refine ix_ref (d := .int m) e2 rfl ?_
    have T1 : (t + 1).natAbs < 2 ^ 2000 := abs_lt (a := 40) (by omega) (by omega) (by decide)
    refine r_var rfl ?_
    refine i_mul (mul_ok (by decide) T1) ?_
    refine r_var rfl ?_
    have T2 : (65537 * (t + 1)).natAbs < 2 ^ 2000 := abs_lt (a := 60) (by omega) (by omega) (by decide)
    refine i_mul (mul_ok T2 T1) ?_
    refine i_add ?_
    refine r_var rfl ?_
    refine i_mul (mul_ok (by decide) T1) ?_
    refine i_add ?_
    have sq : 0 ≤ 65537 * (t + 1) * (t + 1) ∧ 65537 * (t + 1) * (t + 1) ≤ 65537 * 1000000001 * 1000000001 := by
      have a1 : 0 ≤ 65537 * (t + 1) := by omega
      have a2 : 65537 * (t + 1) ≤ 65537 * 1000000001 := by omega
      exact ⟨Int.mul_nonneg a1 (by omega), Int.mul_le_mul a2 (by omega) (by omega) (by decide)⟩
    refine i_pow (n := 3) (pow_ok (n := 3) (abs_lt (a := 100) (by omega) (by omega) (by decide)) (by decide)) ?_
    refine r_var rfl ?_
    refine i_mod p0 ?_
    dsimp only
    refine r_var rfl ?_
    refine r_var rfl ?_
    refine i_mod (by decide) ?_
    refine r_var rfl ?_
    refine i_mul (mul_ok (by decide) T1) ?_
    refine i_add ?_
    generalize hx : (m + 65537 * (t + 1) * (t + 1) + 31 * (t + 1)) ^ (Int.toNat 3) % p = x
    have x0 : 0 ≤ x := by rw [← hx]; exact Int.emod_nonneg _ (by omega)
    have x1 : x < p := by rw [← hx]; exact Int.emod_lt_of_pos _ p0
    have y0 := Int.emod_nonneg x (show (10007 : Int) ≠ 0 by decide)
    have y1 := Int.emod_lt_of_pos x (show (0 : Int) < 10007 by decide)
    refine i_mul (mul_ok (abs_lt (a := 40) x0 (by omega) (by decide)) (abs_lt (a := 60) (by omega) (by omega) (by decide))) ?_
    refine i_mod (by decide) ?_
    refine i_div (div_ok (by decide) (abs_lt (a := 40) (by omega) (by omega) (by decide))) ?_
    refine r_var rfl ?_
    refine i_mod hm0 ?_
    exact q _ _ (Int.emod_nonneg _ (by omega)) (Int.emod_lt_of_pos _ hm0) ⟨g, m, t + 1, e2, g0, m0, m1, by omega, by omega⟩ ((LeX.refl h μ).put)
end LK
namespace LK
open PySem PySem.Spec PyProof.Rows L2 DS MA
def sp__law_hand : DSp := fun ds μ Q _ => ∃ (ns : List Int) (k : Nat), ds = [.rol (ns.map SD.int), .int k] ∧ k ≤ 1000000 ∧ ∀ p μ', μ p = none → Le μ μ' → HandAt μ' p 0 → Q (.ref p) μ'
theorem len__law_hand : ∀ ds μ Q E, sp__law_hand ds μ Q E → ds.length = 2 := by rintro ds μ Q E ⟨ns, k, rfl, _⟩; rfl
def t__law_hand : DTS := (dSeq (dSet (dIf (dTest (dOp dLt (dVar 1) (dCB drLen (dCons (dVar 0) dNil)))) (dOp dIx (dVar 0) (dVar 1)) (dOp dAdd (dOp dMul (dC (.int 7)) (dVar 1)) (dC (.int 5)))) 2)
    (dSeq (dSet (dOp dMul (dOp dMul (dOp dMul (dOp dMul (dOp dPow (dC (.int 10)) (dC (.int 60))) (dOp dPow (dC (.int 10)) (dC (.int 60)))) (dOp dPow (dC (.int 10)) (dC (.int 60)))) (dOp dPow (dC (.int 10)) (dC (.int 60)))) (dOp dPow (dC (.int 10)) (dC (.int 60)))) 3)
    (dSeq (dSet (dOp dMul (dOp dMod (dCB (drI1 fun i => if i < 0 then -i else i) (dCons (dVar 2) dNil)) (dVar 3)) (dCB drInt (dCons (dOp dGe (dCB (drI1 fun i => if i < 0 then -i else i) (dCons (dVar 2) dNil)) (dOp dPow (dC (.int 10)) (dC (.int 18)))) dNil))) 4)
    (dRet (dLstM (dCons (dVar 4) (dCons (dOp dMod (dOp dMul (dOp dAdd (dOp dAdd (dOp dMod (dVar 2) (dC (.int 2305843009213693951))) (dOp dMul (dOp dMul (dC (.int 104729)) (dVar 1)) (dVar 1))) (dC (.int 41))) (dC (.int 48271))) (dC (.int 2305843009213693921))) (dCons (dC (.int 0)) dNil))))))))
theorem i_abs {μ : Mu} {Q : SD → Mu → Prop} {i : Int} (q : ∀ j : Int, 0 ≤ j → Q (.int j) μ) : drI1 (fun i => if i < 0 then -i else i) [.int i] μ Q := by
  refine q _ ?_
  dsimp only
  split <;> omega
theorem i_bool {μ : Mu} {Q : SD → Mu → Prop} {b : Bool} (q : Q (.int (if b then 1 else 0)) μ) : drInt [.bl b] μ Q := q
theorem t60 : ((10 : Int) ^ Int.toNat 60).natAbs < 2 ^ 2000 := by decide +kernel
theorem t120 : ((10 : Int) ^ Int.toNat 60 * 10 ^ Int.toNat 60).natAbs < 2 ^ 2000 := by decide +kernel
theorem t180 : ((10 : Int) ^ Int.toNat 60 * 10 ^ Int.toNat 60 * 10 ^ Int.toNat 60).natAbs < 2 ^ 2000 := by decide +kernel
theorem t240 : ((10 : Int) ^ Int.toNat 60 * 10 ^ Int.toNat 60 * 10 ^ Int.toNat 60 * 10 ^ Int.toNat 60).natAbs < 2 ^ 2000 := by decide +kernel
theorem t300 : (0 : Int) < (10 : Int) ^ Int.toNat 60 * 10 ^ Int.toNat 60 * 10 ^ Int.toNat 60 * 10 ^ Int.toNat 60 * 10 ^ Int.toNat 60 ∧ (10 : Int) ^ Int.toNat 60 * 10 ^ Int.toNat 60 * 10 ^ Int.toNat 60 * 10 ^ Int.toNat 60 * 10 ^ Int.toNat 60 < 2 ^ 1000 := by decide +kernel
theorem read__law_hand : ∀ ds μ Q E, sp__law_hand ds μ Q E → t__law_hand { nx := fun _ μ' => Q .non μ', rt := Q } (begin_ ["_law_script", "_law_k", "_law_cell", "_law_bound", "_law_great"] ds) μ := by
  rintro ds μ Q E ⟨ns, k, rfl, hk, q⟩
  unfold t__law_hand
  have cell : ∀ (D : DEnds), (∀ c : Int, D.nx ((begin_ ["_law_script", "_law_k", "_law_cell", "_law_bound", "_law_great"] [.rol (ns.map SD.int), .int k]).set 2 (some (.int c))) μ) → dSet (dIf (dTest (dOp dLt (dVar 1) (dCB drLen (dCons (dVar 0) dNil)))) (dOp dIx (dVar 0) (dVar 1)) (dOp dAdd (dOp dMul (dC (.int 7)) (dVar 1)) (dC (.int 5)))) 2 D (begin_ ["_law_script", "_law_k", "_law_cell", "_law_bound", "_law_great"] [.rol (ns.map SD.int), .int k]) μ := fun D h => by
    refine r_var rfl ?_
    refine r_var rfl ?_
    refine l_lenO ?_
    refine i_lt ?_
    by_cases hc : k < ns.length
    · refine ifT (by simpa using hc) ?_
      refine r_var rfl ?_
      refine r_var rfl ?_
      refine ix_rol (d := .int ns[k]) (atI_nat (by simp [hc])) (h _)
    · refine ifF (by simpa using hc) ?_
      refine r_var rfl ?_
      refine i_mul (mul_ok (by decide) (abs_lt (a := 40) (by omega) (by omega) (by decide))) ?_
      exact i_add (h _)
  refine cell _ fun c => ?_
  dsimp only
  refine i_pow (n := 60) (pow_ok (n := 60) (by decide) (by decide)) ?_
  refine i_pow (n := 60) (pow_ok (n := 60) (by decide) (by decide)) ?_
  refine i_mul (mul_ok t60 t60) ?_
  refine i_pow (n := 60) (pow_ok (n := 60) (by decide) (by decide)) ?_
  refine i_mul (mul_ok t120 t60) ?_
  refine i_pow (n := 60) (pow_ok (n := 60) (by decide) (by decide)) ?_
  refine i_mul (mul_ok t180 t60) ?_
  refine i_pow (n := 60) (pow_ok (n := 60) (by decide) (by decide)) ?_
  refine i_mul (mul_ok t240 t60) ?_
  obtain ⟨m0, m1⟩ := t300
  generalize (10 : Int) ^ Int.toNat 60 * 10 ^ Int.toNat 60 * 10 ^ Int.toNat 60 * 10 ^ Int.toNat 60 * 10 ^ Int.toNat 60 = M at m0 m1
  dsimp only
  refine r_var rfl ?_
  refine i_abs fun A hA => ?_
  refine r_var rfl ?_
  refine i_mod m0 ?_
  refine r_var rfl ?_
  refine i_abs fun B hB => ?_
  refine i_pow (n := 18) (pow_ok (n := 18) (by decide) (by decide)) ?_
  refine i_ge ?_
  refine i_bool ?_
  have g0 := Int.emod_nonneg A (show M ≠ 0 by omega)
  have g1 := Int.lt_trans (Int.emod_lt_of_pos A m0) m1
  have b0 : ∀ b : Bool, (if b = true then (1 : Int) else 0).natAbs < 2 ^ 2000 ∧ 0 ≤ (if b = true then (1 : Int) else 0) := by decide
  refine i_mul (mul_ok (abs_lt (a := 1000) g0 g1 (by decide)) (b0 _).1) ?_
  dsimp only
  refine r_var rfl ?_
  refine r_var rfl ?_
  refine i_mod (by decide) ?_
  refine r_var rfl ?_
  refine i_mul (mul_ok (by decide) (abs_lt (a := 40) (by omega) (by omega) (by decide))) ?_
  refine r_var rfl ?_
  have k1 : 0 ≤ 104729 * (k : Int) * (k : Int) ∧ 104729 * (k : Int) * (k : Int) ≤ 104729 * 1000000 * 1000000 := ⟨Int.mul_nonneg (by omega) (by omega), Int.mul_le_mul (by omega) (by omega) (by omega) (by decide)⟩
  refine i_mul (mul_ok (abs_lt (a := 60) (by omega) (by omega) (by decide)) (abs_lt (a := 40) (by omega) (by omega) (by decide))) ?_
  refine i_add ?_
  refine i_add ?_
  have c0 := Int.emod_nonneg c (show (2305843009213693951 : Int) ≠ 0 by decide)
  have c1 := Int.emod_lt_of_pos c (show (0 : Int) < 2305843009213693951 by decide)
  refine i_mul (mul_ok (abs_lt (a := 100) (by omega) (by omega) (by decide)) (by decide)) ?_
  refine i_mod (by decide) ?_
  refine ⟨(by show 3 ≤ sizeLine; decide), fun p hp => ?_⟩
  exact q p _ hp ((Le.refl μ).up hp) ⟨_, _, _, up_same, Int.mul_nonneg g0 (b0 _).2, Int.emod_nonneg _ (by decide), Int.emod_lt_of_pos _ (by decide), Int.le_refl 0, Int.le_refl 0⟩
def sp__law_of : DSp := fun ds μ Q _ => ∃ h x xs T, ds = [.ref h, x] ∧ (x = .lst xs ∨ ∃ u : Str, x = .str u ∧ xs = u.cps.toList.map fun c => .str ⟨#[c]⟩) ∧ xs ≠ [] ∧ xs.length ≤ 1000000 ∧ T ≤ 1000000000 ∧ HandAt μ h T ∧ ∀ (i : Nat) d μ', xs[i]? = some d → HandAt μ' h (T + 1) → LeX h μ μ' → Q d μ'
theorem len__law_of : ∀ ds μ Q E, sp__law_of ds μ Q E → ds.length = 2 := by rintro ds μ Q E ⟨h, x, xs, T, rfl, _⟩; rfl
def t__law_of : DTS := (dRet (dOp dIx (dVar 1) (dCall sp__law_take [] (dCons (dVar 0) (dCons (dCB drLen (dCons (dVar 1) dNil)) dNil)))))
theorem read__law_of : ∀ ds μ Q E, sp__law_of ds μ Q E → t__law_of { nx := fun _ μ' => Q .non μ', rt := Q } (begin_ ["_law_hand_here", "_law_some"] ds) μ := by
  rintro ds μ Q E ⟨h, x, xs, T, rfl, hx, hne, hl, hT, H, q⟩
  unfold t__law_of
  refine r_var rfl ?_
  refine r_var rfl ?_
  refine r_var rfl ?_
  have hpos : 0 < xs.length := List.length_pos_iff.mpr hne
  rcases hx with rfl | ⟨u, rfl, rfl⟩
  · refine l_len ?_
    refine ⟨h, xs.length, T, rfl, by omega, by omega, hT, H, fun d μ' d0 d1 H' l => ?_⟩
    obtain ⟨i, rfl⟩ := Int.eq_ofNat_of_zero_le d0
    have hi : i < xs.length := by omega
    have e : xs[i]? = some xs[i] := List.getElem?_eq_getElem hi
    exact ix_lst (atI_nat e) (q i _ μ' e H' l)
  · rw [List.length_map] at hpos hl
    have hu : u.length = u.cps.toList.length := rfl
    refine l_lenS (le_line (by rw [hu]; exact hl) (by omega)) ?_
    refine ⟨h, u.length, T, rfl, by omega, by omega, hT, H, fun d μ' d0 d1 H' l => ?_⟩
    obtain ⟨i, rfl⟩ := Int.eq_ofNat_of_zero_le d0
    have hi : i < u.cps.toList.length := by omega
    have e : u.cps.toList[i]? = some u.cps.toList[i] := List.getElem?_eq_getElem hi
    refine ix_str (le_line (by rw [hu]; exact hl) (by omega)) (atI_nat e) (q i _ μ' ?_ H' l)
    rw [List.getElem?_map, e]; rfl
end LK
namespace LK
open PySem PySem.Spec PyProof.Rows L2 DS MA
theorem lex_none {h p : Addr} {μ μ' : Mu} {T : Nat} (l : LeX h μ μ') (H : HandAt μ' h T) (hp : μ' p = none) : μ p = none ∧ h ≠ p := by
  have hne := H.ne hp
  refine ⟨?_, hne⟩
  cases e : μ p with
  | none => rfl
  | some m => rw [l p m (Ne.symm hne) e] at hp; cases hp
theorem abc : ("abcdefghijklmnopqrstuvwxyz" : Str).cps.toList = (List.range 26).map (97 + ·) := by decide +kernel
theorem abc_at {x : Int} (h0 : 0 ≤ x) (h1 : x < 26) : atI ("abcdefghijklmnopqrstuvwxyz" : Str).cps.toList x = some (97 + x.toNat) := by
  obtain ⟨i, rfl⟩ := Int.eq_ofNat_of_zero_le h0
  rw [abc]
  have hi : i < 26 := by omega
  exact atI_nat (by rw [List.getElem?_map, List.getElem?_range hi]; rfl)
end LK
namespace LK
open PySem PySem.Spec PyProof.Rows L2 DS MA
/-- 1 to 8 small letters -/
def LowK (k : Str) : Prop := 1 ≤ k.cps.size ∧ k.cps.size ≤ 8 ∧ ∀ c ∈ k.cps.toList, 97 ≤ c ∧ c < 123
end LK
namespace LK
open PySem PySem.Spec PyProof.Rows L2 DS MA
/-- a dict of lists -/
def encD (L : List (Str × List Str)) : List (Key × SD) := L.map fun kc => (.inr kc.1, .lst (sts kc.2))
end LK
namespace LK
open PySem PySem.Spec PyProof.Rows L2 DS MA
structure Grow (names : List Str) (deep n : Nat) (f : Str → List Str) (lev : Str → Nat) : Prop where
  l0 : ∀ k, names[0]? = some k → lev k = 1
  lv : ∀ k ∈ names.take n, 1 ≤ lev k ∧ lev k ≤ deep
  kid : ∀ k ∈ names.take n, ∀ c ∈ f k, c ∈ names.take n ∧ lev c = lev k + 1
  perm : ((names.take n).flatMap f).Perm (names.take n).tail
def putIn (f : Str → List Str) (home x : Str) (j : Nat) : Str → List Str := fun k => if k = x then [] else if k = home then (f home).take j ++ [x] ++ (f home).drop j else f k
def levIn (lev : Str → Nat) (home x : Str) : Str → Nat := fun k => if k = x then lev home + 1 else lev k
theorem flatMap_same {f g : Str → List Str} : ∀ {ks : List Str}, (∀ k ∈ ks, f k = g k) → ks.flatMap f = ks.flatMap g
  | [], _ => rfl
  | k :: r, h => by rw [List.flatMap_cons, List.flatMap_cons, h k (List.mem_cons_self ..), flatMap_same fun x hx => h x (List.mem_cons_of_mem _ hx)]
theorem perm_putIn {f : Str → List Str} {home x : Str} {j : Nat} : ∀ {ks : List Str}, ks.Nodup → home ∈ ks → x ∉ ks → (ks.flatMap (putIn f home x j)).Perm (x :: ks.flatMap f)
  | [], _, h, _ => by cases h
  | k :: r, nd, h, hx => by
    rw [List.flatMap_cons, List.flatMap_cons]
    have nd2 := List.nodup_cons.mp nd
    have hxk : k ≠ x := fun e => hx (by rw [e]; exact List.mem_cons_self ..)
    by_cases e : k = home
    · subst e
      have : r.flatMap (putIn f k x j) = r.flatMap f := flatMap_same fun y hy => by
        have h1 : y ≠ k := fun e => nd2.1 (e ▸ hy)
        have h2 : y ≠ x := fun e => hx (by rw [← e]; exact List.mem_cons_of_mem _ hy)
        unfold putIn; rw [if_neg h2, if_neg h1]
      rw [this]
      have e2 : putIn f k x j k = (f k).take j ++ [x] ++ (f k).drop j := by unfold putIn; rw [if_neg hxk, if_pos rfl]
      rw [e2]
      have : ((f k).take j ++ [x] ++ (f k).drop j).Perm (x :: f k) := by
        conv => rhs; rw [← List.take_append_drop j (f k)]
        rw [List.append_assoc]
        exact List.perm_middle
      exact this.append_right _
    · have h2 : home ∈ r := by
        rcases List.mem_cons.mp h with h | h
        · exact (e h.symm).elim
        · exact h
      have e2 : putIn f home x j k = f k := by unfold putIn; rw [if_neg hxk, if_neg e]
      rw [e2]
      have ih := perm_putIn (f := f) (j := j) nd2.2 h2 (fun z => hx (List.mem_cons_of_mem _ z))
      exact (ih.append_left (f k)).trans List.perm_middle
theorem take_snoc {names : List Str} {n : Nat} {x : Str} (h : names[n]? = some x) : names.take (n + 1) = names.take n ++ [x] := by
  rw [List.take_succ, h]; rfl
theorem not_in_take {names : List Str} {n : Nat} {x : Str} (nd : names.Nodup) (h : names[n]? = some x) : x ∉ names.take n := by
  have h1 : (names.take (n + 1)).Nodup := nd.sublist (List.take_sublist ..)
  rw [take_snoc h, List.nodup_append] at h1
  intro z; exact h1.2.2 x z x (List.mem_singleton.mpr rfl) rfl
theorem Grow.step {names : List Str} {deep n : Nat} {f : Str → List Str} {lev : Str → Nat} {home x : Str} {j : Nat} (G : Grow names deep n f lev) (nd : names.Nodup) (hn : 0 < n) (hx : names[n]? = some x) (hh : home ∈ names.take n) (hd : lev home < deep) :
    Grow names deep (n + 1) (putIn f home x j) (levIn lev home x) := by
  have xn := not_in_take nd hx
  have nx : ∀ k ∈ names.take n, k ≠ x := fun k hk e => xn (e ▸ hk)
  have mem : ∀ k ∈ names.take n, k ∈ names.take (n + 1) := fun k hk => by rw [take_snoc hx]; exact List.mem_append_left _ hk
  have split : ∀ k ∈ names.take (n + 1), k ∈ names.take n ∨ k = x := fun k hk => by rw [take_snoc hx] at hk; simpa using hk
  refine ⟨fun k hk => ?_, fun k hk => ?_, fun k hk c hc => ?_, ?_⟩
  · have hk2 : k ∈ names.take n := by
      have : (names.take n)[0]? = some k := by rw [List.getElem?_take]; simp [hn, hk]
      exact List.mem_of_getElem? this
    unfold levIn; rw [if_neg (nx k hk2)]; exact G.l0 k hk
  · unfold levIn
    rcases split k hk with hk | rfl
    · rw [if_neg (nx k hk)]; exact G.lv k hk
    · rw [if_pos rfl]; omega
  · rcases split k hk with hk | rfl
    · have hkx := nx k hk
      have key : ∀ c ∈ f k, c ∈ names.take (n + 1) ∧ levIn lev home x c = levIn lev home x k + 1 := fun c hc => by
        obtain ⟨a, b⟩ := G.kid k hk c hc
        refine ⟨mem c a, ?_⟩
        unfold levIn; rw [if_neg (nx c a), if_neg hkx]; exact b
      unfold putIn at hc
      rw [if_neg hkx] at hc
      by_cases e : k = home
      · subst e
        rw [if_pos rfl] at hc
        rcases List.mem_append.mp hc with hc | hc
        · rcases List.mem_append.mp hc with hc | hc
          · exact key c (List.mem_of_mem_take hc)
          · have : c = x := by simpa using hc
            subst this
            refine ⟨by rw [take_snoc hx]; simp, ?_⟩
            unfold levIn; rw [if_pos rfl, if_neg hkx]
        · exact key c (List.mem_of_mem_drop hc)
      · rw [if_neg e] at hc; exact key c hc
    · unfold putIn at hc; rw [if_pos rfl] at hc; cases hc
  · rw [take_snoc hx, List.flatMap_append]
    have e1 : [x].flatMap (putIn f home x j) = [] := by simp [putIn]
    rw [e1, List.append_nil]
    have h1 := perm_putIn (f := f) (j := j) (nd.sublist (List.take_sublist n names)) hh xn
    have e2 : (names.take n ++ [x]).tail = (names.take n).tail ++ [x] := by
      cases e : names.take n with
      | nil => rw [e] at hh; cases hh
      | cons a r => rfl
    rw [e2]
    exact (h1.trans (List.Perm.cons x G.perm)).trans (List.perm_append_singleton x _).symm
end LK
namespace LK
open PySem PySem.Spec PyProof.Rows L2 DS MA
theorem Sub.trans {a b c : T} (h : Sub a b) (k : Sub b c) : Sub a c := by
  induction k with
  | refl => exact h
  | kid hc _ ih => exact .kid hc ih
theorem kids_in {f : Str → List Str} {p x : Str} : ∀ {s : T}, Fits f s → p ∈ pre s → x ∈ f p → x ∈ pre s := by
  have : ∀ (n : Nat) (s : T), dep s ≤ n → Fits f s → p ∈ pre s → x ∈ f p → x ∈ pre s := by
    intro n
    induction n with
    | zero => intro s h; cases s; rw [dep] at h; omega
    | succ n ih =>
      intro s h fit hp hx
      obtain ⟨k, cs⟩ := s
      rw [Fits] at fit
      rw [dep] at h
      rw [pre] at hp ⊢
      rcases List.mem_cons.mp hp with rfl | hp
      · rw [fit.1] at hx
        obtain ⟨c, hc, rfl⟩ := List.mem_map.mp hx
        exact List.mem_cons_of_mem _ (preL_sub hc _ (key_mem c))
      · obtain ⟨c, hc, hpc⟩ := preL_mem.mp hp
        have := depL_mem hc
        exact List.mem_cons_of_mem _ (preL_sub hc _ (ih c (by omega) (FitsL_mem.mp fit.2 c hc) hpc hx))
  exact fun {s} => this (dep s) s (Nat.le_refl _)
theorem Up.next {par : Str → Option Str} {x y z : Str} {l : List Str} (h : Up par x l) : y ∈ l → par y = some z → z ∈ l := by
  induction h with
  | root h => intro hy e; have := List.mem_singleton.mp hy; subst this; rw [h] at e; cases e
  | step h r ih =>
    intro hy e
    rcases List.mem_cons.mp hy with rfl | hy
    · rw [h] at e; cases e
      obtain ⟨q, rfl⟩ := r.head; simp
    · exact List.mem_cons_of_mem _ (ih hy e)
end LK
namespace MA
open PySem PySem.Spec PyProof.Rows L2 DS
mutual
def okV (m : Nat) : SD → Prop
  | .non => True
  | .bl _ => True
  | .int i => i.natAbs ≤ 10 ^ 20 + m
  | .str x => PyData.strOk x = true
  | .ref _ => False
  | .ty _ => False
  | .tup xs => okVL m xs
  | .lst xs => okVL m xs
  | .rol _ => False
  | .exc _ _ => False
  | .ptp _ => False
  | .dic kvs => kvs = []
def okVL (m : Nat) : List SD → Prop
  | [] => True
  | d :: r => okV m d ∧ okVL m r
end
mutual
def dpV : SD → Nat
  | .non => 0
  | .bl _ => 0
  | .int _ => 0
  | .str _ => 0
  | .ref _ => 0
  | .ty _ => 0
  | .tup xs => dpVL xs + 1
  | .lst xs => dpVL xs + 1
  | .rol _ => 0
  | .exc _ _ => 0
  | .ptp _ => 0
  | .dic _ => 1
def dpVL : List SD → Nat
  | [] => 0
  | d :: r => max (dpV d) (dpVL r)
end
mutual
def wtV : SD → Nat
  | .non => 0
  | .bl _ => 0
  | .int _ => 0
  | .str x => x.cps.size
  | .ref _ => 0
  | .ty _ => 0
  | .tup xs => wtVL xs
  | .lst xs => wtVL xs
  | .rol _ => 0
  | .exc _ _ => 0
  | .ptp _ => 0
  | .dic _ => 0
def wtVL : List SD → Nat
  | [] => 0
  | d :: r => wtV d + 1 + wtVL r
end
theorem okVL_mem {m : Nat} {xs : List SD} : okVL m xs ↔ ∀ d ∈ xs, okV m d := by
  induction xs with
  | nil => simp [okVL]
  | cons x r ih => rw [okVL, ih]; simp
theorem dpVL_le {n : Nat} {xs : List SD} : dpVL xs ≤ n ↔ ∀ d ∈ xs, dpV d ≤ n := by
  induction xs with
  | nil => simp [dpVL]
  | cons x r ih => rw [dpVL, Nat.max_le, ih]; simp
theorem wtVL_append (a b : List SD) : wtVL (a ++ b) = wtVL a + wtVL b := by
  induction a with
  | nil => simp [wtVL]
  | cons x r ih => rw [List.cons_append, wtVL, wtVL, ih]; omega
theorem wtVL_cut (a : List SD) (k : Nat) : wtVL (a.take k) + wtVL (a.drop k) = wtVL a := by rw [← wtVL_append, List.take_append_drop]
theorem wtVL_mem {xs : List SD} {d : SD} (h : d ∈ xs) : wtV d + 1 ≤ wtVL xs := by
  obtain ⟨s, t, rfl⟩ := List.append_of_mem h
  rw [wtVL_append, wtVL]; omega
/-- a value: its ints no greater, no deeper, no heavier -/
structure Val (m D B : Nat) (d : SD) : Prop where
  ok : okV m d
  dp : dpV d ≤ D
  wt : wtV d ≤ B
structure ValL (m D B : Nat) (xs : List SD) : Prop where
  ok : okVL m xs
  dp : dpVL xs ≤ D
  wt : wtVL xs ≤ B
mutual
theorem okV_mono {m m' : Nat} (h : m ≤ m') : ∀ {d : SD}, okV m d → okV m' d
  | .non, _ => by rw [okV]; trivial
  | .bl _, _ => by rw [okV]; trivial
  | .int i, q => by rw [okV] at q ⊢; omega
  | .str x, q => by rw [okV] at q ⊢; exact q
  | .ref _, q => by rw [okV] at q; exact q.elim
  | .ty _, q => by rw [okV] at q; exact q.elim
  | .tup xs, q => by rw [okV] at q ⊢; exact okVL_mono h q
  | .lst xs, q => by rw [okV] at q ⊢; exact okVL_mono h q
  | .rol _, q => by rw [okV] at q; exact q.elim
  | .exc _ _, q => by rw [okV] at q; exact q.elim
  | .ptp _, q => by rw [okV] at q; exact q.elim
  | .dic kvs, q => by rw [okV] at q ⊢; exact q
theorem okVL_mono {m m' : Nat} (h : m ≤ m') : ∀ {xs : List SD}, okVL m xs → okVL m' xs
  | [], _ => by rw [okVL]; trivial
  | d :: r, q => by rw [okVL] at q ⊢; exact ⟨okV_mono h q.1, okVL_mono h q.2⟩
end
theorem Val.mono {m D B m' D' B' : Nat} {d : SD} (v : Val m D B d) (h1 : m ≤ m') (h2 : D ≤ D') (h3 : B ≤ B') : Val m' D' B' d := ⟨okV_mono h1 v.ok, Nat.le_trans v.dp h2, Nat.le_trans v.wt h3⟩
theorem ValL.mono {m D B m' D' B' : Nat} {d : List SD} (v : ValL m D B d) (h1 : m ≤ m') (h2 : D ≤ D') (h3 : B ≤ B') : ValL m' D' B' d := ⟨okVL_mono h1 v.ok, Nat.le_trans v.dp h2, Nat.le_trans v.wt h3⟩
theorem Val.non : Val 0 0 0 .non := ⟨by rw [okV]; trivial, by rw [dpV]; exact Nat.le_refl 0, by rw [wtV]; exact Nat.le_refl 0⟩
theorem Val.bl (b : Bool) : Val 0 0 0 (.bl b) := ⟨by rw [okV]; trivial, by rw [dpV]; exact Nat.le_refl 0, by rw [wtV]; exact Nat.le_refl 0⟩
theorem Val.int {m : Nat} {i : Int} (h : i.natAbs ≤ 10 ^ 20 + m) : Val m 0 0 (.int i) := ⟨by rw [okV]; exact h, by rw [dpV]; exact Nat.le_refl 0, by rw [wtV]; exact Nat.le_refl 0⟩
theorem Val.str {x : Str} (h : PyData.strOk x = true) : Val 0 0 x.cps.size (.str x) := ⟨by rw [okV]; exact h, by rw [dpV]; exact Nat.le_refl 0, by rw [wtV]; exact Nat.le_refl _⟩
theorem Val.dic : Val 0 1 0 (.dic []) := ⟨by rw [okV], by rw [dpV]; exact Nat.le_refl 1, by rw [wtV]; exact Nat.le_refl 0⟩
theorem ValL.nil : ValL 0 0 0 [] := ⟨by rw [okVL]; trivial, by rw [dpVL]; exact Nat.le_refl 0, by rw [wtVL]; exact Nat.le_refl 0⟩
theorem ValL.cons {m D B C : Nat} {d : SD} {r : List SD} (v : Val m D B d) (w : ValL m D C r) : ValL m D (B + 1 + C) (d :: r) :=
  ⟨by rw [okVL]; exact ⟨v.ok, w.ok⟩, by rw [dpVL]; exact Nat.max_le.mpr ⟨v.dp, w.dp⟩, by have := v.wt; have := w.wt; rw [wtVL]; omega⟩
theorem ValL.one {m D B : Nat} {d : SD} (v : Val m D B d) : ValL m D (B + 1) [d] := ValL.cons v (ValL.nil.mono (Nat.zero_le _) (Nat.zero_le _) (Nat.le_refl 0))
theorem ValL.append {m D B C : Nat} {a b : List SD} (v : ValL m D B a) (w : ValL m D C b) : ValL m D (B + C) (a ++ b) :=
  ⟨okVL_mem.mpr fun d hd => (List.mem_append.mp hd).elim (okVL_mem.mp v.ok d) (okVL_mem.mp w.ok d), dpVL_le.mpr fun d hd => (List.mem_append.mp hd).elim (dpVL_le.mp v.dp d) (dpVL_le.mp w.dp d), by have := v.wt; have := w.wt; rw [wtVL_append]; omega⟩
theorem ValL.take {m D B : Nat} {a : List SD} (v : ValL m D B a) (k : Nat) : ValL m D B (a.take k) :=
  ⟨okVL_mem.mpr fun d hd => okVL_mem.mp v.ok d (List.mem_of_mem_take hd), dpVL_le.mpr fun d hd => dpVL_le.mp v.dp d (List.mem_of_mem_take hd), by have := v.wt; have := wtVL_cut a k; omega⟩
theorem ValL.drop {m D B : Nat} {a : List SD} (v : ValL m D B a) (k : Nat) : ValL m D B (a.drop k) :=
  ⟨okVL_mem.mpr fun d hd => okVL_mem.mp v.ok d (List.mem_of_mem_drop hd), dpVL_le.mpr fun d hd => dpVL_le.mp v.dp d (List.mem_of_mem_drop hd), by have := v.wt; have := wtVL_cut a k; omega⟩
theorem ValL.of {m D B n : Nat} {a : List SD} (h : ∀ d ∈ a, Val m D B d) (hn : a.length ≤ n) : ValL m D (n * (B + 1)) a := by
  refine ⟨okVL_mem.mpr fun d hd => (h d hd).ok, dpVL_le.mpr fun d hd => (h d hd).dp, Nat.le_trans ?_ (Nat.mul_le_mul_right _ hn)⟩
  clear hn
  induction a with
  | nil => simp [wtVL]
  | cons x r ih =>
    have := (h x (List.mem_cons_self ..)).wt
    have := ih fun d hd => h d (List.mem_cons_of_mem _ hd)
    rw [wtVL, List.length_cons, Nat.add_mul]; omega
theorem ValL.mem {m D B : Nat} {a : List SD} (v : ValL m D B a) {d : SD} (hd : d ∈ a) : Val m D B d :=
  ⟨okVL_mem.mp v.ok d hd, dpVL_le.mp v.dp d hd, by have := v.wt; have := wtVL_mem hd; omega⟩
theorem Val.tup {m D B : Nat} {a : List SD} (v : ValL m D B a) : Val m (D + 1) B (.tup a) := ⟨by rw [okV]; exact v.ok, by rw [dpV]; exact Nat.succ_le_succ v.dp, by rw [wtV]; exact v.wt⟩
theorem Val.lst {m D B : Nat} {a : List SD} (v : ValL m D B a) : Val m (D + 1) B (.lst a) := ⟨by rw [okV]; exact v.ok, by rw [dpV]; exact Nat.succ_le_succ v.dp, by rw [wtV]; exact v.wt⟩
theorem Val.pos {m D B : Nat} {a : List SD} (v : Val m D B (.tup a)) : 0 < D := by have := v.dp; rw [dpV] at this; omega
theorem int_short {m : Nat} (hm : m ≤ 10 ^ 20) {i : Int} (h : i.natAbs ≤ 10 ^ 20 + m) : (PyData.shown (.int i)).length ≤ 31 ∧ i.natAbs.log2 < 1920 := by
  have h30 : i.natAbs < 10 ^ 30 := by have : (10 : Nat) ^ 30 = 10 ^ 20 * 10 ^ 10 := by decide
                                      omega
  constructor
  · have := int_text_length_le10 (k := 30) (by decide) h30
    simp only [PyData.shown]
    show (Str.ofString (toString i)).length ≤ 31
    rw [PySem.ofString_length]; exact this
  · by_cases e : i.natAbs = 0
    · rw [e]; decide
    · refine (Nat.log2_lt e).mpr (Nat.lt_of_lt_of_le h30 ?_)
      decide +kernel
mutual
theorem okV_shows {m : Nat} (hm : m ≤ 10 ^ 20) : ∀ {d : SD}, okV m d → ∃ p, pqS d = some p ∧ p.depth = dpV d ∧ p.showable = true ∧ p.leavesShort 40 = true ∧ p.bulk = wtV d
  | .non, _ => ⟨.none, rfl, by simp [PyData.depth, dpV], by simp [PyData.showable], by simp [PyData.leavesShort], by simp [PyData.bulk, wtV]⟩
  | .bl b, _ => ⟨.bool b, rfl, by simp [PyData.depth, dpV], by simp [PyData.showable], by simp [PyData.leavesShort], by simp [PyData.bulk, wtV]⟩
  | .int i, q => by
    rw [okV] at q
    obtain ⟨h1, h2⟩ := int_short hm q
    exact ⟨.int i, rfl, by simp [PyData.depth, dpV], by simpa [PyData.showable] using h2, by simp only [PyData.leavesShort, decide_eq_true_eq]; omega, by simp [PyData.bulk, wtV]⟩
  | .str x, q => by
    rw [okV] at q
    refine ⟨.str x, rfl, by simp [PyData.depth, dpV], by simp [PyData.showable], ?_, by simp [PyData.bulk, wtV]⟩
    unfold PyData.leavesShort
    rw [List.all_eq_true]
    intro c hc
    have := (Array.all_eq_true_iff_forall_mem.mp q) c (by simpa using hc)
    simp at this ⊢
    omega
  | .ref _, q => by rw [okV] at q; exact q.elim
  | .ty _, q => by rw [okV] at q; exact q.elim
  | .tup xs, q => by
    rw [okV] at q
    obtain ⟨ps, e, h1, h2, h3, h4⟩ := okVL_shows hm q
    exact ⟨.tuple ps, by rw [pqS, e], by rw [PyData.depth, dpV, h1], by simp [PyData.showable, h2], by simp [PyData.leavesShort, h3], by rw [PyData.bulk, wtV, h4]⟩
  | .lst xs, q => by
    rw [okV] at q
    obtain ⟨ps, e, h1, h2, h3, h4⟩ := okVL_shows hm q
    exact ⟨.list ps, by rw [pqS, e], by rw [PyData.depth, dpV, h1], by simp [PyData.showable, h2], by simp [PyData.leavesShort, h3], by rw [PyData.bulk, wtV, h4]⟩
  | .rol _, q => by rw [okV] at q; exact q.elim
  | .exc _ _, q => by rw [okV] at q; exact q.elim
  | .ptp _, q => by rw [okV] at q; exact q.elim
  | .dic kvs, q => by
    rw [okV] at q; subst q
    exact ⟨.dict [], rfl, by simp [PyData.depth, PyData.depthKv, dpV], by simp [PyData.showable, PyData.showableKv], by simp [PyData.leavesShort, PyData.leavesShortKv], by simp [PyData.bulk, PyData.bulkKv, wtV]⟩
theorem okVL_shows {m : Nat} (hm : m ≤ 10 ^ 20) : ∀ {xs : List SD}, okVL m xs → ∃ ps, pqL xs = some ps ∧ PyData.depthAll ps = dpVL xs ∧ PyData.showableAll ps = true ∧ PyData.leavesShortAll 40 ps = true ∧ PyData.bulkAll ps = wtVL xs
  | [], _ => ⟨[], rfl, by simp [PyData.depthAll, dpVL], by simp [PyData.showableAll], by simp [PyData.leavesShortAll], by simp [PyData.bulkAll, wtVL]⟩
  | d :: r, q => by
    rw [okVL] at q
    obtain ⟨p, e, h1, h2, h3, h4⟩ := okV_shows hm q.1
    obtain ⟨ps, e', g1, g2, g3, g4⟩ := okVL_shows hm q.2
    exact ⟨p :: ps, by rw [pqL, e, e'], by rw [PyData.depthAll, dpVL, h1, g1], by simp [PyData.showableAll, h2, g2], by simp [PyData.leavesShortAll, h3, g3], by rw [PyData.bulkAll, wtVL, h4, g4]⟩
end
/-- the text that is shown -/
def shw (d : SD) : Str := match pqS d with
  | some p => p.shown
  | none => ""
theorem r_reprQ {m D B : Nat} {d : SD} {μ : Mu} {Q : SD → Mu → Prop} (v : Val m D B d) (hm : m ≤ 10 ^ 20) (hD : D ≤ 64) (hB : B ≤ 250000) (q : Q (.str (shw d)) μ) : drReprQ [d] μ Q := by
  obtain ⟨p, e, h1, h2, h3, h4⟩ := okV_shows hm v.ok
  have e2 : pq μ d = some p := by
    have hv := v.ok
    cases d <;> first | exact e | (rw [okV] at hv; exact hv.elim)
  have es : shw d = p.shown := by unfold shw; rw [e]
  unfold drReprQ
  simp only [e2]
  refine ⟨⟨h2, ?_, by rw [h1]; exact Nat.le_trans v.dp hD⟩, by rw [← es]; exact q⟩
  have hs := PyData.shown_le_bulk 40 (by decide) p h3
  have hw := v.wt
  rw [h4] at hs
  rw [sizeLine_eq]
  have : (40 + 2) * wtV d ≤ 42 * 250000 := Nat.mul_le_mul_left _ (by omega)
  omega
end MA
namespace LK
open PySem PySem.Spec PyProof.Rows L2 DS MA
section
variable {μ : Mu} {Q : SD → Mu → Prop} {a b : Addr} {xs ys : List SD}
theorem rl_add (m : μ a = some (.lst xs)) (l : xs.length + ys.length ≤ sizeLine) (q : Q (.lst (xs ++ ys)) μ) : dAdd (.ref a) (.lst ys) μ Q := by
  unfold dAdd; simp only [lstD, m]; exact ⟨l, q⟩
end
end LK
namespace LK
open PySem PySem.Spec PyProof.Rows L2 DS MA
section
variable {μ : Mu} {Q : SD → Mu → Prop} {m n : Int} {c : Nat} {z : Str}
theorem i_eq (q : Q (.bl (decide (m = n))) μ) : dEq false (.int m) (.int n) μ Q := by
  have : eqD μ (.int m) (.int n) = some (decide (m = n)) := by simp [eqD]
  unfold dEq; rw [this]
  show Q (.bl (false != decide (m = n))) μ
  rw [Bool.false_bne]; exact q
theorem i_ne (q : Q (.bl (!decide (m = n))) μ) : dEq true (.int m) (.int n) μ Q := by
  have : eqD μ (.int m) (.int n) = some (decide (m = n)) := by simp [eqD]
  unfold dEq; rw [this]
  show Q (.bl (true != decide (m = n))) μ
  rw [Bool.true_bne]; exact q
end
def abcS : Str := "abcdefghijklmnopqrstuvwxyz"
def keyB : SD → Bool
  | .str x => decide (1 ≤ x.length) && decide (x.length ≤ 8) && x.cps.toList.all fun c => decide (c ∈ abcS.cps.toList)
  | _ => false
theorem keyB_eq (x : Str) : keyB (.str x) = (decide (1 ≤ x.length) && decide (x.length ≤ 8) && x.cps.toList.all fun c => decide (c ∈ abcS.cps.toList)) := rfl
def strD : SD → Str
  | .str x => x
  | _ => ""
def allO {α β : Type} (f : α → Option (List β)) : List α → Option (List β)
  | [] => some []
  | c :: r => match f c, allO f r with
    | some a, some b => some (a ++ b)
    | _, _ => none
def kin : Nat → SD → Option (List Str)
  | 0, _ => none
  | n + 1, d => match d with
    | .tup [x, .tup cs] => if keyB x = true then (match allO (kin n) cs with
      | some l => some (strD x :: l)
      | none => none) else none
    | _ => none
end LK
namespace LK
open PySem PySem.Spec PyProof.Rows L2 DS MA
theorem Fits.congr {f g : Str → List Str} : ∀ (n : Nat) {t : T}, dep t ≤ n → (∀ k ∈ pre t, g k = f k) → Fits f t → Fits g t := by
  intro n
  induction n with
  | zero => intro t h; cases t; rw [dep] at h; omega
  | succ n ih =>
    intro t h e fit
    obtain ⟨k, cs⟩ := t
    rw [Fits] at fit ⊢
    rw [dep] at h
    rw [pre] at e
    refine ⟨by rw [e k (List.mem_cons_self ..)]; exact fit.1, FitsL_mem.mpr fun c hc => ?_⟩
    have := depL_mem hc
    exact ih (by omega) (fun x hx => e x (List.mem_cons_of_mem _ (preL_sub hc x hx))) (FitsL_mem.mp fit.2 c hc)
theorem Fits.same {f g : Str → List Str} {t : T} (e : ∀ k ∈ pre t, g k = f k) (h : Fits f t) : Fits g t := Fits.congr (dep t) (Nat.le_refl _) e h
mutual
theorem Fits.uniq {f : Str → List Str} : ∀ {t t' : T}, Fits f t → Fits f t' → t.key = t'.key → t = t'
  | .node k cs, .node k' cs', h, h', e => by
    have e : k = k' := e
    subst e
    rw [Fits] at h h'
    rw [FitsL.uniq h.2 h'.2 (h.1.symm.trans h'.1)]
theorem FitsL.uniq {f : Str → List Str} : ∀ {a b : List T}, FitsL f a → FitsL f b → a.map T.key = b.map T.key → a = b
  | [], [], _, _, _ => rfl
  | [], _ :: _, _, _, e => by cases e
  | _ :: _, [], _, _, e => by cases e
  | x :: a, y :: b, h, h', e => by
    rw [FitsL] at h h'
    simp only [List.map_cons, List.cons.injEq] at e
    rw [Fits.uniq h.1 h'.1 e.1, FitsL.uniq h.2 h'.2 e.2]
end
theorem keys_sub : ∀ cs : List T, (cs.map T.key).Sublist (preL cs)
  | [] => by rw [preL]; exact List.Sublist.refl _
  | .node k ks :: r => by
    rw [List.map_cons, preL, pre, List.cons_append]
    exact List.Sublist.cons_cons k (List.Sublist.trans (keys_sub r) (List.sublist_append_right _ _))
theorem Fits.parent {f : Str → List Str} {x : Str} : ∀ (n : Nat) {t : T}, dep t ≤ n → Fits f t → x ∈ pre t → x = t.key ∨ ∃ p ∈ pre t, x ∈ f p := by
  intro n
  induction n with
  | zero => intro t h; cases t; rw [dep] at h; omega
  | succ n ih =>
    intro t h fit hx
    obtain ⟨k, cs⟩ := t
    rw [Fits] at fit
    rw [dep] at h
    rw [pre] at hx ⊢
    rcases List.mem_cons.mp hx with rfl | hx
    · exact .inl rfl
    · obtain ⟨c, hc, hxc⟩ := preL_mem.mp hx
      have := depL_mem hc
      rcases ih (by omega) (FitsL_mem.mp fit.2 c hc) hxc with rfl | ⟨p, hp, h2⟩
      · exact .inr ⟨k, List.mem_cons_self .., by rw [fit.1]; exact List.mem_map.mpr ⟨c, hc, rfl⟩⟩
      · exact .inr ⟨p, List.mem_cons_of_mem _ (preL_sub hc p hp), h2⟩
/-- t with a hole where the children of h are -/
inductive Hole (h : Str) (cs : List T) : T → (List T → T) → List Str → List Str → Prop where
  | here : Hole h cs (.node h cs) (fun c => .node h c) [h] []
  | down {k : Str} {l r : List T} {c : T} {F : List T → T} {a b : List Str} (H : Hole h cs c F a b) :
      Hole h cs (.node k (l ++ c :: r)) (fun c' => .node k (l ++ F c' :: r)) (k :: (preL l ++ a)) (b ++ preL r)
theorem Hole.get {h : Str} : ∀ (n : Nat) {t : T}, dep t ≤ n → h ∈ pre t → ∃ cs F a b, Hole h cs t F a b := by
  intro n
  induction n with
  | zero => intro t h; cases t; rw [dep] at h; omega
  | succ n ih =>
    intro t hd hm
    obtain ⟨k, cs⟩ := t
    rw [dep] at hd
    rw [pre] at hm
    by_cases e : h = k
    · subst e; exact ⟨cs, _, _, _, .here⟩
    · rcases List.mem_cons.mp hm with e2 | hm
      · exact (e e2).elim
      · obtain ⟨c, hc, hx⟩ := preL_mem.mp hm
        have := depL_mem hc
        obtain ⟨l, r, rfl⟩ := List.append_of_mem hc
        obtain ⟨cs', F, a, b, H⟩ := ih (by omega) hx
        exact ⟨cs', _, _, _, .down H⟩
section
variable {h : Str} {cs : List T} {t : T} {F : List T → T} {a b : List Str}
theorem Hole.pre (H : Hole h cs t F a b) : MA.pre t = a ++ preL cs ++ b := by
  induction H with
  | here => rw [MA.pre]; simp
  | down H ih => rw [MA.pre, preL_append, preL, ih]; simp
theorem Hole.pre' (H : Hole h cs t F a b) (cs' : List T) : MA.pre (F cs') = a ++ preL cs' ++ b := by
  induction H with
  | here => rw [MA.pre]; simp
  | down H ih => rw [MA.pre, preL_append, preL, ih]; simp
theorem Hole.key (H : Hole h cs t F a b) (cs' : List T) : (F cs').key = t.key := by cases H <;> rfl
theorem Hole.mem (H : Hole h cs t F a b) : h ∈ a := by
  induction H with
  | here => exact List.mem_singleton.mpr rfl
  | down H ih => exact List.mem_cons_of_mem _ (List.mem_append_right _ ih)
theorem Hole.fits {f : Str → List Str} (H : Hole h cs t F a b) : Fits f t → f h = cs.map T.key ∧ FitsL f cs := by
  induction H with
  | here => intro q; rw [Fits] at q; exact q
  | down H ih => intro q; rw [Fits] at q; exact ih (FitsL_mem.mp q.2 _ (by simp))
theorem Hole.sub (H : Hole h cs t F a b) {c : T} (hc : c ∈ cs) : Sub c t := by
  induction H with
  | here => exact .kid hc (.refl _)
  | down H ih => exact .kid (by simp) ih
theorem Hole.fits' {f g : Str → List Str} {cs' : List T} (hg : g h = cs'.map T.key) (fl : FitsL g cs') (H : Hole h cs t F a b) : Fits f t → (∀ k ∈ a ++ b, k ≠ h → g k = f k) → (a ++ b).Nodup → Fits g (F cs') := by
  induction H with
  | here => intro _ _ _; rw [Fits]; exact ⟨hg, fl⟩
  | @down k l r c F a b H ih =>
    intro fit e nd
    rw [Fits] at fit ⊢
    have hm := H.mem
    have nd2 := nd
    rw [List.cons_append, List.nodup_cons] at nd
    have hk : k ≠ h := fun z => nd.1 (by subst z; simp [hm])
    have nd3 := nd.2
    have hl : h ∉ preL l := fun z => by
      rw [List.append_assoc, List.nodup_append] at nd3
      exact nd3.2.2 h z h (by simp [hm]) rfl
    have hr : h ∉ preL r := fun z => by
      rw [← List.append_assoc, List.nodup_append] at nd3
      exact nd3.2.2 h (by simp [hm]) h z rfl
    have fl2 := FitsL_mem.mp fit.2
    refine ⟨?_, FitsL_mem.mpr fun x hx => ?_⟩
    · rw [e k (by simp) hk, fit.1]; simp [H.key cs']
    · have side : ∀ x, (∀ y ∈ MA.pre x, y ∈ (k :: (preL l ++ a)) ++ (b ++ preL r) ∧ y ≠ h) → Fits f x → Fits g x := fun x hy hf => Fits.same (fun y h1 => e y (hy y h1).1 (hy y h1).2) hf
      rcases List.mem_append.mp hx with hx | hx
      · refine side x (fun y hy => ?_) (fl2 x (by simp [hx]))
        have := preL_sub hx y hy
        exact ⟨by simp [this], fun z => hl (z ▸ this)⟩
      · rcases List.mem_cons.mp hx with rfl | hx
        · refine ih (fl2 c (by simp)) (fun y hy hn => e y ?_ hn) ?_
          · rcases List.mem_append.mp hy with hy | hy <;> simp [hy]
          · have : ((preL l ++ a) ++ (b ++ preL r)).Nodup := nd3
            refine this.sublist ?_
            exact List.Sublist.append (List.sublist_append_right _ _) (List.sublist_append_left _ _)
        · refine side x (fun y hy => ?_) (fl2 x (by simp [hx]))
          have := preL_sub hx y hy
          exact ⟨by simp [this], fun z => hr (z ▸ this)⟩
end
/-- a forest that is a tree: f the children, par the parents -/
structure Fo (r : Str) (f : Str → List Str) (par : Str → Option Str) (t : T) : Prop where
  key : t.key = r
  fits : Fits f t
  nd : (MA.pre t).Nodup
  kid : ∀ k ∈ MA.pre t, ∀ c ∈ f k, par c = some k
  root : par r = none
section
variable {r : Str} {f : Str → List Str} {par : Str → Option Str} {t : T}
theorem Fo.rmem (o : Fo r f par t) : r ∈ pre t := by rw [← o.key]; exact key_mem t
theorem Fo.up (o : Fo r f par t) {x : Str} (hx : x ∈ pre t) (hr : x ≠ r) : ∃ p ∈ pre t, par x = some p ∧ x ∈ f p := by
  rcases Fits.parent (dep t) (Nat.le_refl _) o.fits hx with e | ⟨p, hp, h⟩
  · exact (hr (e.trans o.key)).elim
  · exact ⟨p, hp, o.kid p hp x h, h⟩
theorem Fo.kid_mem (o : Fo r f par t) {c p : Str} (hp : p ∈ pre t) (hc : c ∈ f p) : c ∈ pre t ∧ c ≠ r := by
  refine ⟨kids_in o.fits hp hc, fun e => ?_⟩
  have := o.kid p hp c hc
  subst e; rw [o.root] at this; cases this
theorem Fo.hole (o : Fo r f par t) {p : Str} (hp : p ∈ pre t) : ∃ cs F a b, Hole p cs t F a b ∧ f p = cs.map T.key ∧ FitsL f cs := by
  obtain ⟨cs, F, a, b, H⟩ := Hole.get (dep t) (Nat.le_refl _) hp
  exact ⟨cs, F, a, b, H, H.fits o.fits⟩
theorem Fo.fnd (o : Fo r f par t) {p : Str} (hp : p ∈ pre t) : (f p).Nodup := by
  obtain ⟨cs, F, a, b, H, e, _⟩ := o.hole hp
  have := o.nd
  rw [H.pre, List.append_assoc, List.nodup_append] at this
  rw [e]
  exact (List.nodup_append.mp this.2.1).1.sublist (keys_sub cs)
theorem Fo.sub (o : Fo r f par t) {x : Str} (hx : x ∈ pre t) : ∃ s, Sub s t ∧ s.key = x := by
  have : ∀ (n : Nat) (t : T), dep t ≤ n → x ∈ pre t → ∃ s, Sub s t ∧ s.key = x := by
    intro n
    induction n with
    | zero => intro t h; cases t; rw [dep] at h; omega
    | succ n ih =>
      intro t h hx
      obtain ⟨k, cs⟩ := t
      rw [dep] at h
      rw [pre] at hx
      rcases List.mem_cons.mp hx with rfl | hx
      · exact ⟨_, .refl _, rfl⟩
      · obtain ⟨c, hc, hx⟩ := preL_mem.mp hx
        have := depL_mem hc
        obtain ⟨s, h1, h2⟩ := ih c (by omega) hx
        exact ⟨s, .kid hc h1, h2⟩
  exact this (dep t) t (Nat.le_refl _) hx
theorem Fo.sub1 (o : Fo r f par t) {s s' : T} (h : Sub s t) (h' : Sub s' t) (e : s.key = s'.key) : s = s' := Fits.uniq (h.fits o.fits) (h'.fits o.fits) e
/-- below the root of s there is no root of s -/
theorem kid_below {f : Str → List Str} {s : T} (fit : Fits f s) {k c : Str} (hk : k ∈ pre s) (hc : c ∈ f k) : c ∈ preL s.kids := by
  obtain ⟨q, cs⟩ := s
  rw [Fits] at fit
  rw [pre] at hk
  rcases List.mem_cons.mp hk with rfl | hk
  · rw [fit.1] at hc; exact (keys_sub cs).subset hc
  · obtain ⟨d, hd, hx⟩ := preL_mem.mp hk
    exact preL_sub hd c (kids_in (FitsL_mem.mp fit.2 d hd) hx hc)
theorem key_not_below {s : T} (nd : (pre s).Nodup) : s.key ∉ preL s.kids := by
  obtain ⟨q, cs⟩ := s
  rw [pre] at nd
  exact (List.nodup_cons.mp nd).1
/-- x is taken away from its parent p -/
def cutF (f : Str → List Str) (p x : Str) : Str → List Str := fun k => if k = p then (f p).erase x else f k
theorem Fo.cut (o : Fo r f par t) {x : Str} (hx : x ∈ pre t) (hr : x ≠ r) : ∃ p s t', par x = some p ∧ p ∈ pre t' ∧ x ∈ f p ∧ s.key = x ∧ Sub s t ∧ Fo r (cutF f p x) par t' ∧ (pre t).Perm (pre s ++ pre t') ∧ Fits (cutF f p x) s := by
  obtain ⟨p, hp, e1, e2⟩ := o.up hx hr
  obtain ⟨cs, F, a, b, H, e3, fl⟩ := o.hole hp
  have e2' := e2
  rw [e3] at e2'
  obtain ⟨s, hs, rfl⟩ := List.mem_map.mp e2'
  have hsub := H.sub hs
  obtain ⟨c1, c2, rfl⟩ := List.append_of_mem hs
  have ndp := H.pre
  have perm : (pre t).Perm (pre s ++ pre (F (c1 ++ c2))) := by
    rw [H.pre, H.pre', preL_append, preL_append, preL]
    have : (a ++ (preL c1 ++ (pre s ++ preL c2)) ++ b).Perm (pre s ++ (a ++ (preL c1 ++ preL c2) ++ b)) := by
      rw [← List.append_assoc (bs := a ++ (preL c1 ++ preL c2))]
      refine List.Perm.append_right b ?_
      have q : a ++ (preL c1 ++ (pre s ++ preL c2)) = (a ++ preL c1) ++ (pre s ++ preL c2) := by simp
      have q2 : pre s ++ (a ++ (preL c1 ++ preL c2)) = (pre s ++ (a ++ preL c1)) ++ preL c2 := by simp
      rw [q, q2, ← List.append_assoc]
      exact List.Perm.append_right _ List.perm_append_comm
    exact this
  have ndA := perm.nodup_iff.mp o.nd
  have nd' := (List.nodup_append.mp ndA).2.1
  have dis := (List.nodup_append.mp ndA).2.2
  have hp' : p ∈ pre (F (c1 ++ c2)) := by rw [H.pre']; simp [H.mem]
  have hps : p ∉ pre s := fun z => dis p z p hp' rfl
  have er : (f p).erase s.key = (c1 ++ c2).map T.key := by
    have ndf := o.fnd hp
    rw [e3, List.map_append, List.map_cons] at ndf ⊢
    rw [List.erase_append_right _ (fun z => (List.nodup_append.mp ndf).2.2 _ z _ (List.mem_cons_self ..) rfl), List.erase_cons_head, List.map_append]
  have hpp : p ∉ preL (c1 ++ c2) := fun z => by
    rw [H.pre', List.append_assoc, List.nodup_append] at nd'
    exact nd'.2.2 p H.mem p (by simp [z]) rfl
  have same : ∀ {u : T}, p ∉ pre u → Fits f u → Fits (cutF f p s.key) u := fun hu hf => Fits.same (fun k hk => by
    exact if_neg (fun z : k = p => hu (z ▸ hk))) hf
  have fl2 := FitsL_mem.mp fl
  refine ⟨p, s, F (c1 ++ c2), e1, hp', e2, rfl, hsub, ⟨?_, ?_, nd', ?_, o.root⟩, perm, same hps (fl2 s hs)⟩
  · rw [H.key]; exact o.key
  · refine H.fits' (f := f) ?_ ?_ o.fits ?_ ?_
    · unfold cutF; rw [if_pos rfl]; exact er
    · refine FitsL_mem.mpr fun u hu => ?_
      exact same (fun z => hpp (preL_sub hu p z)) (fl2 u (by rcases List.mem_append.mp hu with hu | hu <;> simp [hu]))
    · intro k hk hn; unfold cutF; rw [if_neg hn]
    · rw [H.pre'] at nd'
      refine nd'.sublist ?_
      rw [List.append_assoc]
      exact List.Sublist.append (List.Sublist.refl _) (List.sublist_append_right _ _)
  · intro k hk c hc
    have hk' : k ∈ pre t := perm.mem_iff.mpr (List.mem_append_right _ hk)
    refine o.kid k hk' c ?_
    unfold cutF at hc
    split at hc
    · rename_i e; subst e; exact List.mem_of_mem_erase hc
    · exact hc
/-- s gets a place among the children of home -/
theorem Fo.put (o : Fo r f par t) {s : T} {home : Str} {l1 l2 : List Str} (hs : Fits f s) (nd : (pre s ++ pre t).Nodup) (ks : ∀ k ∈ pre s, ∀ c ∈ f k, par c = some k) (hh : home ∈ pre t) (e : f home = l1 ++ l2) :
    ∃ t', Fo r (fun k => if k = home then l1 ++ s.key :: l2 else f k) (fun k => if k = s.key then some home else par k) t' ∧ (pre t').Perm (pre s ++ pre t) := by
  obtain ⟨cs, F, a, b, H, e3, fl⟩ := o.hole hh
  rw [e3] at e
  obtain ⟨c1, c2, rfl, rfl, rfl⟩ := List.map_eq_append_iff.mp e
  have perm : (pre (F (c1 ++ s :: c2))).Perm (pre s ++ pre t) := by
    rw [H.pre, H.pre', preL_append, preL_append, preL]
    rw [← List.append_assoc (bs := a ++ (preL c1 ++ preL c2))]
    refine List.Perm.append_right b ?_
    have q : a ++ (preL c1 ++ (pre s ++ preL c2)) = (a ++ preL c1) ++ (pre s ++ preL c2) := by simp
    have q2 : pre s ++ (a ++ (preL c1 ++ preL c2)) = (pre s ++ (a ++ preL c1)) ++ preL c2 := by simp
    rw [q, q2, ← List.append_assoc]
    exact List.Perm.append_right _ List.perm_append_comm
  have nd' := perm.nodup_iff.mpr nd
  have dis := (List.nodup_append.mp nd).2.2
  have hhs : home ∉ pre s := fun z => dis home z home hh rfl
  have hsk : s.key ∉ pre t := fun z => dis s.key (key_mem s) s.key z rfl
  have hpp : home ∉ preL (c1 ++ c2) := fun z => by
    have := o.nd
    rw [H.pre, List.append_assoc, List.nodup_append] at this
    exact this.2.2 home H.mem home (by simp [z]) rfl
  have same : ∀ {u : T}, home ∉ pre u → Fits f u → Fits (fun k => if k = home then c1.map T.key ++ s.key :: c2.map T.key else f k) u := fun hu hf => Fits.same (fun k hk => by
    exact if_neg (fun z : k = home => hu (z ▸ hk))) hf
  have fl2 := FitsL_mem.mp fl
  refine ⟨F (c1 ++ s :: c2), ⟨?_, ?_, nd', ?_, ?_⟩, perm⟩
  · rw [H.key]; exact o.key
  · refine H.fits' (f := f) ?_ ?_ o.fits ?_ ?_
    · show (if home = home then _ else _) = _
      rw [if_pos rfl]; simp
    · refine FitsL_mem.mpr fun u hu => ?_
      rcases List.mem_append.mp hu with hu | hu
      · exact same (fun z => hpp (preL_sub (by simp [hu]) home z)) (fl2 u (by simp [hu]))
      · rcases List.mem_cons.mp hu with rfl | hu
        · exact same hhs hs
        · exact same (fun z => hpp (preL_sub (by simp [hu]) home z)) (fl2 u (by simp [hu]))
    · intro k hk hn
      show (if k = home then _ else _) = _
      rw [if_neg hn]
    · have := o.nd
      rw [H.pre] at this
      refine this.sublist ?_
      rw [List.append_assoc]
      exact List.Sublist.append (List.Sublist.refl _) (List.sublist_append_right _ _)
  · intro k hk c hc
    show (if c = s.key then some home else par c) = some k
    have hc : c ∈ (if k = home then c1.map T.key ++ s.key :: c2.map T.key else f k) := hc
    by_cases e1 : k = home
    · rw [if_pos e1] at hc
      by_cases e2 : c = s.key
      · rw [if_pos e2, e1]
      · rw [if_neg e2, e1]
        refine o.kid home hh c ?_
        rw [e3, List.map_append]
        rcases List.mem_append.mp hc with hc | hc
        · exact List.mem_append_left _ hc
        · rcases List.mem_cons.mp hc with hc | hc
          · exact (e2 hc).elim
          · exact List.mem_append_right _ hc
    · rw [if_neg e1] at hc
      rcases List.mem_append.mp (perm.mem_iff.mp hk) with hk | hk
      · have : c ≠ s.key := fun z => key_not_below (List.nodup_append.mp nd).1 (by rw [← z]; exact kid_below hs hk hc)
        rw [if_neg this]
        exact ks k hk c hc
      · have : c ≠ s.key := fun z => hsk (by rw [← z]; exact (o.kid_mem hk hc).1)
        rw [if_neg this]
        exact o.kid k hk c hc
  · show (if r = s.key then some home else par r) = none
    rw [if_neg (fun z => hsk (by rw [← z]; exact o.rmem))]
    exact o.root
end
end LK
namespace LK
open PySem PySem.Spec PyProof.Rows L2 DS MA
inductive Op where
  | create (x h : Str) (b : Option Str)
  | move (x h : Str) (b : Option Str)
  | remove (x : Str)
def encO : Op → SD
  | .create x h b => .tup [.str "create", .str x, .str h, optS b]
  | .move x h b => .tup [.str "move", .str x, .str h, optS b]
  | .remove x => .tup [.str "remove", .str x]
def Op.key : Op → Str
  | .create x _ _ => x
  | .move x _ _ => x
  | .remove x => x
def OpAll (P : Str → Prop) : Op → Prop
  | .create x h b => P x ∧ P h ∧ ∀ y, b = some y → P y
  | .move x h b => P x ∧ P h ∧ ∀ y, b = some y → P y
  | .remove x => P x
/-- where a new child goes -/
def insI (l : List Str) : Option Str → Nat
  | none => l.length
  | some y => l.idxOf y
def insAt (l : List Str) (b : Option Str) (x : Str) : List Str := l.take (insI l b) ++ x :: l.drop (insI l b)
def putF (f : Str → List Str) (h : Str) (b : Option Str) (x : Str) : Str → List Str := fun k => if k = h then insAt (f h) b x else f k
def putP (par : Str → Option Str) (x h : Str) : Str → Option Str := fun k => if k = x then some h else par k
def newF (f : Str → List Str) (x : Str) : Str → List Str := fun k => if k = x then [] else f k
def stepF (par : Str → Option Str) (f : Str → List Str) : Op → Str → List Str
  | .create x h b => putF (newF f x) h b x
  | .move x h b => putF (cutF f ((par x).getD x) x) h b x
  | .remove x => cutF f ((par x).getD x) x
def stepP (par : Str → Option Str) : Op → Str → Option Str
  | .create x h _ => putP par x h
  | .move x h _ => putP par x h
  | .remove _ => par
def Poss (r : Str) (f : Str → List Str) (t : T) : Op → Prop
  | .create x h b => x ∉ pre t ∧ h ∈ pre t ∧ ∀ y, b = some y → y ∈ f h
  | .move x h b => x ∈ pre t ∧ x ≠ r ∧ h ∈ pre t ∧ (∀ s, Sub s t → s.key = x → h ∉ pre s) ∧ ∀ y, b = some y → y ∈ f h ∧ y ≠ x
  | .remove x => x ∈ pre t ∧ x ≠ r
section
variable {r : Str} {f : Str → List Str} {par : Str → Option Str} {t : T}
theorem Fo.new (o : Fo r f par t) {x : Str} (hx : x ∉ pre t) : Fo r (newF f x) par t := by
  have e : ∀ k ∈ pre t, newF f x k = f k := fun k hk => if_neg (fun z : k = x => hx (z ▸ hk))
  exact ⟨o.key, Fits.same e o.fits, o.nd, fun k hk c hc => o.kid k hk c (by rw [← e k hk]; exact hc), o.root⟩
theorem Fo.create (o : Fo r f par t) {x h : Str} {b : Option Str} (hx : x ∉ pre t) (hh : h ∈ pre t) : ∃ t', Fo r (putF (newF f x) h b x) (putP par x h) t' ∧ (pre t').Perm (x :: pre t) := by
  have o2 := o.new hx
  have pn : pre (T.node x []) = [x] := by simp [pre, preL]
  obtain ⟨t', q, p⟩ := o2.put (s := .node x []) (home := h) (l1 := (newF f x h).take (insI (newF f x h) b)) (l2 := (newF f x h).drop (insI (newF f x h) b)) (by rw [Fits]; exact ⟨by unfold newF; rw [if_pos rfl]; rfl, trivial⟩) (by rw [pn]; exact List.nodup_cons.mpr ⟨hx, o.nd⟩) (by
    intro k hk c hc
    rw [pn] at hk
    have := List.mem_singleton.mp hk; subst this
    unfold newF at hc; rw [if_pos rfl] at hc; cases hc) hh (List.take_append_drop _ _).symm
  refine ⟨t', q, ?_⟩
  rw [pn] at p; exact p
theorem Fo.move (o : Fo r f par t) {x h : Str} {b : Option Str} (hx : x ∈ pre t) (hr : x ≠ r) (hh : h ∈ pre t) (hn : ∀ s, Sub s t → s.key = x → h ∉ pre s) :
    ∃ p s t1 t', par x = some p ∧ p ∈ pre t ∧ x ∈ f p ∧ s.key = x ∧ Sub s t ∧ Fo r (cutF f p x) par t1 ∧ (pre t).Perm (pre s ++ pre t1) ∧ h ∈ pre t1 ∧ Fo r (putF (cutF f p x) h b x) (putP par x h) t' ∧ (pre t').Perm (pre t) := by
  obtain ⟨p, s, t1, e1, hp, e2, rfl, hs, o1, pm, fs⟩ := o.cut hx hr
  have hh1 : h ∈ pre t1 := by
    rcases List.mem_append.mp (pm.mem_iff.mp hh) with z | z
    · exact (hn s hs rfl z).elim
    · exact z
  have hps : p ∉ pre s := fun z => (List.nodup_append.mp (pm.nodup_iff.mp o.nd)).2.2 p z p hp rfl
  obtain ⟨t', q, pm2⟩ := o1.put (s := s) (home := h) (l1 := (cutF f p s.key h).take (insI (cutF f p s.key h) b)) (l2 := (cutF f p s.key h).drop (insI (cutF f p s.key h) b)) fs (pm.nodup_iff.mp o.nd) (by
    intro k hk c hc
    have : k ≠ p := fun z => hps (z ▸ hk)
    unfold cutF at hc; rw [if_neg this] at hc
    exact o.kid k (hs.pre k hk) c hc) hh1 (List.take_append_drop _ _).symm
  exact ⟨p, s, t1, t', e1, pm.mem_iff.mpr (List.mem_append_right _ hp), e2, rfl, hs, o1, pm, hh1, q, pm2.trans pm.symm⟩
theorem Fo.step (o : Fo r f par t) {op : Op} (h : Poss r f t op) : ∃ t', Fo r (stepF par f op) (stepP par op) t' ∧ (∀ k ∈ pre t', k = op.key ∨ k ∈ pre t) ∧ (pre t').length ≤ (pre t).length + 1 := by
  cases op with
  | create x h2 b =>
    obtain ⟨t', q, p⟩ := o.create (b := b) h.1 h.2.1
    refine ⟨t', q, fun k hk => ?_, by rw [p.length_eq]; simp⟩
    rcases List.mem_cons.mp (p.mem_iff.mp hk) with z | z
    · exact .inl z
    · exact .inr z
  | move x h2 b =>
    obtain ⟨p, s, t1, t', e1, _, _, _, _, _, _, _, q, pm⟩ := o.move (b := b) h.1 h.2.1 h.2.2.1 h.2.2.2.1
    refine ⟨t', ?_, fun k hk => .inr (pm.mem_iff.mp hk), by rw [pm.length_eq]; omega⟩
    show Fo r (putF (cutF f ((par x).getD x) x) h2 b x) (putP par x h2) t'
    rw [e1]; exact q
  | remove x =>
    obtain ⟨p, s, t', e1, _, _, _, _, q, pm, _⟩ := o.cut h.1 h.2
    refine ⟨t', ?_, fun k hk => .inr (pm.mem_iff.mpr (List.mem_append_right _ hk)), by have := pm.length_eq; rw [List.length_append] at this; omega⟩
    show Fo r (cutF f ((par x).getD x) x) par t'
    rw [e1]; exact q
/-- the same forest told by another f: just one tree -/
theorem Fo.one {t' : T} (o : Fo r f par t) (o' : Fo r f par t') : t = t' := Fits.uniq o.fits o'.fits (o.key.trans o'.key.symm)
end
/-- a moment -/
structure Mo where
  f : Str → List Str
  par : Str → Option Str
  t : T
/-- the moments from m on: operations, trees behind each, the last moment -/
def Chain (r : Str) : Mo → List Op → List T → Mo → Prop
  | m, [], [], e => m = e
  | m, o :: os, t :: ts, e => Poss r m.f m.t o ∧ Fo r (stepF m.par m.f o) (stepP m.par o) t ∧ Chain r ⟨stepF m.par m.f o, stepP m.par o, t⟩ os ts e
  | _, _, _, _ => False
theorem Chain.snoc {r : Str} : ∀ {os : List Op} {ts : List T} {m e : Mo} {o : Op} {t : T}, Chain r m os ts e → Poss r e.f e.t o → Fo r (stepF e.par e.f o) (stepP e.par o) t → Chain r m (os ++ [o]) (ts ++ [t]) ⟨stepF e.par e.f o, stepP e.par o, t⟩
  | [], [], m, e, o, t, h, p, q => by
    have h : m = e := h
    subst h
    exact ⟨p, q, rfl⟩
  | [], _ :: _, _, _, _, _, h, _, _ => h.elim
  | _ :: _, [], _, _, _, _, h, _, _ => h.elim
  | _ :: os, _ :: ts, m, e, o, t, h, p, q => ⟨h.1, h.2.1, Chain.snoc h.2.2 p q⟩
theorem Chain.len {r : Str} : ∀ {os : List Op} {ts : List T} {m e : Mo}, Chain r m os ts e → os.length = ts.length
  | [], [], _, _, _ => rfl
  | [], _ :: _, _, _, h => h.elim
  | _ :: _, [], _, _, h => h.elim
  | _ :: os, _ :: ts, _, _, h => by rw [List.length_cons, List.length_cons, Chain.len h.2.2]
theorem Chain.last {r : Str} : ∀ {os : List Op} {ts : List T} {m e : Mo}, Chain r m os ts e → (m.t :: ts).getLast? = some e.t
  | [], [], _, _, h => by
    have h := show _ = _ from h
    subst h; rfl
  | [], _ :: _, _, _, h => h.elim
  | _ :: _, [], _, _, h => h.elim
  | _ :: os, t :: ts, _, _, h => by
    have := Chain.last h.2.2
    rw [List.getLast?_cons_cons]; exact this
end LK
namespace LK
open PySem PySem.Spec PyProof.Rows L2 DS MA
theorem ifc2 {α : Type} {p q : Prop} [Decidable p] [Decidable q] {x y : α} (h : p ↔ q) : (if p then x else y) = if q then x else y := by
  by_cases hp : p
  · rw [if_pos hp, if_pos (h.mp hp)]
  · rw [if_neg hp, if_neg fun z => hp (h.mpr z)]
section
variable {ρ : Rho} {μ : Mu} {i : Nat} {a : Addr} {x f m : Str} {fs : List (Str × SD)} {d v y : SD} {Q : SD → Mu → Prop} {R : Mu → Prop}
theorem eq_ss {u w : Str} {neg : Bool} (q : Q (.bl (neg != decide (u = w))) μ) : dEq neg (.str u) (.str w) μ Q := by
  have : eqD μ (.str u) (.str w) = some (decide (u = w)) := by simp [eqD]
  unfold dEq; rw [this]; exact q
theorem ne_t0 {xs : List SD} {neg : Bool} (q : Q (.bl (neg != xs.isEmpty)) μ) : dT0 neg (.tup xs) (.tup []) μ Q := q
/-- what is new since μ0 may be changed -/
theorem Le.over {μ0 : Mu} {m m' : MO} (h : Le μ0 μ) (n : μ0 a = none) : Le μ0 (up μ a m) := h.up n
end
end LK
namespace LK
end LK
namespace LK
end LK
namespace LK
open PySem PySem.Spec PyProof.Rows L2 DS MA
def plF (r : Str) (p c : Addr) : List (Str × SD) := [("root_key", .str r), ("parent_keys", .ref p), ("child_keys", .ref c)]
/-- Places at a, with parents of the keys Sp and children of the keys Sc; all of it is new since μ0 -/
structure Pl (μ0 μ : Mu) (a p c : Addr) (ad : Str → Addr) (kp kc : List (Key × SD)) (r : Str) (f : Str → List Str) (par : Str → Option Str) (Sp Sc : List Str) (N : Nat) : Prop where
  le : Le μ0 μ
  ho : μ a = some (.obj "Places" (plF r p c))
  hp : μ p = some (.dic kp)
  hc : μ c = some (.dic kc)
  ne : p ≠ c
  pv : ∀ k, valD kp (.inr k) = if k ∈ Sp then some (optS (par k)) else none
  cv : ∀ k, valD kc (.inr k) = if k ∈ Sc then some (.ref (ad k)) else none
  hl : ∀ k ∈ Sc, μ (ad k) = some (.lst (sts (f k)))
  inj : ∀ k ∈ Sc, ∀ k' ∈ Sc, ad k = ad k' → k = k'
  fa : μ0 a = none
  fp : μ0 p = none
  fc : μ0 c = none
  fl : ∀ k ∈ Sc, μ0 (ad k) = none
  lp : kp.length ≤ N
  lc : kc.length ≤ N
section
variable {μ0 μ : Mu} {a p c : Addr} {ad : Str → Addr} {kp kc : List (Key × SD)} {r : Str} {f : Str → List Str} {par : Str → Option Str} {Sp Sc : List Str} {N : Nat}
theorem Pl.mono {μ' : Mu} (P : Pl μ0 μ a p c ad kp kc r f par Sp Sc N) (l : Le μ μ') : Pl μ0 μ' a p c ad kp kc r f par Sp Sc N :=
  ⟨P.le.trans l, l _ _ P.ho, l _ _ P.hp, l _ _ P.hc, P.ne, P.pv, P.cv, fun k hk => l _ _ (P.hl k hk), P.inj, P.fa, P.fp, P.fc, P.fl, P.lp, P.lc⟩
theorem Pl.congr {Sp' Sc' : List Str} {f' : Str → List Str} {par' : Str → Option Str} (P : Pl μ0 μ a p c ad kp kc r f par Sp Sc N) (hp : ∀ k, k ∈ Sp ↔ k ∈ Sp') (hc : ∀ k, k ∈ Sc ↔ k ∈ Sc') (ef : ∀ k ∈ Sc', f' k = f k) (ep : ∀ k ∈ Sp', par' k = par k) : Pl μ0 μ a p c ad kp kc r f' par' Sp' Sc' N :=
  ⟨P.le, P.ho, P.hp, P.hc, P.ne, fun k => by
    rw [P.pv k]
    by_cases h : k ∈ Sp
    · have h2 := (hp k).mp h
      rw [if_pos h, if_pos h2, ep k h2]
    · rw [if_neg h, if_neg fun z => h ((hp k).mpr z)], fun k => by
    rw [P.cv k]
    by_cases h : k ∈ Sc
    · have h2 := (hc k).mp h
      rw [if_pos h, if_pos h2]
    · rw [if_neg h, if_neg fun z => h ((hc k).mpr z)], fun k hk => by rw [ef k hk]; exact P.hl k ((hc k).mpr hk), fun k hk k' hk' => P.inj k ((hc k).mpr hk) k' ((hc k').mpr hk'), P.fa, P.fp, P.fc, fun k hk => P.fl k ((hc k).mpr hk), P.lp, P.lc⟩
theorem Pl.ada (P : Pl μ0 μ a p c ad kp kc r f par Sp Sc N) {k : Str} (hk : k ∈ Sc) : ad k ≠ a ∧ ad k ≠ p ∧ ad k ≠ c := by
  have h := P.hl k hk
  refine ⟨fun e => ?_, fun e => ?_, fun e => ?_⟩
  · rw [e, P.ho] at h; cases h
  · rw [e, P.hp] at h; cases h
  · rw [e, P.hc] at h; cases h
theorem Pl.ap (P : Pl μ0 μ a p c ad kp kc r f par Sp Sc N) : a ≠ p ∧ a ≠ c := by
  have h := P.ho
  refine ⟨fun e => ?_, fun e => ?_⟩
  · rw [e, P.hp] at h; cases h
  · rw [e, P.hc] at h; cases h
/-- a list of children changes -/
theorem Pl.list {h : Str} {l : List Str} (P : Pl μ0 μ a p c ad kp kc r f par Sp Sc N) (hh : h ∈ Sc) : Pl μ0 (up μ (ad h) (.lst (sts l))) a p c ad kp kc r (fun k => if k = h then l else f k) par Sp Sc N := by
  obtain ⟨h1, h2, h3⟩ := P.ada hh
  refine ⟨P.le.up (P.fl h hh), by rw [up_ne (Ne.symm h1)]; exact P.ho, by rw [up_ne (Ne.symm h2)]; exact P.hp, by rw [up_ne (Ne.symm h3)]; exact P.hc, P.ne, P.pv, P.cv, fun k hk => ?_, P.inj, P.fa, P.fp, P.fc, P.fl, P.lp, P.lc⟩
  by_cases e : k = h
  · subst e; rw [up_same, if_pos rfl]
  · rw [up_ne (fun z => e (P.inj k hk h hh z)), if_neg e]; exact P.hl k hk
/-- the dict of children loses a row -/
theorem Pl.drop {kc' : List (Key × SD)} {Sc' : List Str} (P : Pl μ0 μ a p c ad kp kc r f par Sp Sc N) (cv : ∀ k, valD kc' (.inr k) = if k ∈ Sc' then some (.ref (ad k)) else none) (sub : ∀ k ∈ Sc', k ∈ Sc) (hl : kc'.length ≤ N) : Pl μ0 (up μ c (.dic kc')) a p c ad kp kc' r f par Sp Sc' N :=
  ⟨P.le.up P.fc, by rw [up_ne P.ap.2]; exact P.ho, by rw [up_ne P.ne]; exact P.hp, up_same, P.ne, P.pv, cv, fun k hk => by rw [up_ne (P.ada (sub k hk)).2.2]; exact P.hl k (sub k hk), fun k hk k' hk' => P.inj k (sub k hk) k' (sub k' hk'), P.fa, P.fp, P.fc, fun k hk => P.fl k (sub k hk), P.lp, hl⟩
/-- a new row of children -/
theorem Pl.row {q : Addr} {x : Str} (P : Pl μ0 μ a p c ad kp kc r f par Sp Sc N) (hq : μ q = none) (hx : x ∉ Sc) : Pl μ0 (up (up μ q (.lst [])) c (.dic (putD kc (.inr x) (.ref q)))) a p c (fun k => if k = x then q else ad k) kp (putD kc (.inr x) (.ref q)) r (newF f x) par Sp (x :: Sc) (N + 1) := by
  have n : ∀ {b : Addr} {o : MO}, μ b = some o → b ≠ q := fun {b o} e z => by subst z; rw [hq] at e; cases e
  have hx2 : ∀ k ∈ Sc, k ≠ x := fun k hk z => hx (z ▸ hk)
  have hqc : q ≠ c := Ne.symm (n P.hc)
  refine ⟨(P.le.up (P.le.none hq)).up P.fc, by rw [up_ne P.ap.2, up_ne (n P.ho)]; exact P.ho, by rw [up_ne P.ne, up_ne (n P.hp)]; exact P.hp, up_same, P.ne, P.pv, fun k => ?_, fun k hk => ?_, fun k hk k' hk' => ?_, P.fa, P.fp, P.fc, fun k hk => ?_, Nat.le_succ_of_le P.lp, ?_⟩
  · rw [valD_put, P.cv k]
    by_cases e : x = k
    · subst e; rw [if_pos rfl, if_pos (List.mem_cons_self ..), if_pos rfl]
    · rw [if_neg (fun z => e (by cases z; rfl)), if_neg (Ne.symm e)]
      exact ifc2 (by simp [Ne.symm e])
  · unfold newF
    by_cases e : k = x
    · rw [if_pos e, if_pos e, up_ne hqc, up_same]; rfl
    · rcases List.mem_cons.mp hk with z | hk
      · exact (e z).elim
      · rw [if_neg e, if_neg e, up_ne (P.ada hk).2.2, up_ne (n (P.hl k hk))]; exact P.hl k hk
  · by_cases e : k = x <;> by_cases e' : k' = x
    · intro _; rw [e, e']
    · rw [if_pos e, if_neg e']
      rcases List.mem_cons.mp hk' with z | hk'
      · exact (e' z).elim
      · intro z; exact (n (P.hl k' hk') z.symm).elim
    · rw [if_neg e, if_pos e']
      rcases List.mem_cons.mp hk with z | hk
      · exact (e z).elim
      · intro z; exact (n (P.hl k hk) z).elim
    · rw [if_neg e, if_neg e']
      rcases List.mem_cons.mp hk with z | hk
      · exact (e z).elim
      · rcases List.mem_cons.mp hk' with z | hk'
        · exact (e' z).elim
        · exact P.inj k hk k' hk'
  · by_cases e : k = x
    · rw [if_pos e]; exact P.le.none hq
    · rcases List.mem_cons.mp hk with z | hk
      · exact (e z).elim
      · rw [if_neg e]; exact P.fl k hk
  · have := putD_length (kvs := kc) (k := Sum.inr x) (v := SD.ref q); have := P.lc; omega
end
end LK
namespace LK
end LK
namespace LK
end LK
namespace LK
open PySem PySem.Spec PyProof.Rows L2 DS MA
theorem LowK.keyB {k : Str} (h : LowK k) : keyB (.str k) = true := by
  obtain ⟨h1, h2, h3⟩ := h
  rw [keyB_eq, decide_eq_true (show 1 ≤ k.length from h1), decide_eq_true (show k.length ≤ 8 from h2), Bool.true_and, Bool.true_and, List.all_eq_true]
  intro c hc
  obtain ⟨a, b⟩ := h3 c hc
  rw [decide_eq_true_eq]
  show c ∈ ("abcdefghijklmnopqrstuvwxyz" : Str).cps.toList
  rw [abc, List.mem_map]
  exact ⟨c - 97, List.mem_range.mpr (by omega), by omega⟩
theorem LowK.ok {k : Str} (h : LowK k) : KeyOk k := by
  obtain ⟨h1, h2, h3⟩ := h
  refine ⟨?_, by omega⟩
  unfold PyData.strOk
  rw [← Array.all_toList, List.all_eq_true]
  intro c hc
  have := h3 c hc
  simp; omega
theorem OpAll.mono {P R : Str → Prop} (h : ∀ k, P k → R k) {o : Op} (a : OpAll P o) : OpAll R o := by
  cases o with
  | create x k b => exact ⟨h _ a.1, h _ a.2.1, fun y e => h _ (a.2.2 y e)⟩
  | move x k b => exact ⟨h _ a.1, h _ a.2.1, fun y e => h _ (a.2.2 y e)⟩
  | remove x => exact h _ a
end LK
namespace LK
open PySem PySem.Spec PyProof.Rows L2 DS MA
/-- a dict of lists at d, new since μ0 -/
structure LM (μ0 μ : Mu) (d : Addr) (ad : Str → Addr) (ks : List Str) (f : Str → List Str) : Prop where
  le : Le μ0 μ
  hd : μ d = some (.dic (ks.map fun k => (.inr k, .ref (ad k))))
  hl : ∀ k ∈ ks, μ (ad k) = some (.lst (sts (f k)))
  inj : ∀ k ∈ ks, ∀ k' ∈ ks, ad k = ad k' → k = k'
  fd : μ0 d = none
  fl : ∀ k ∈ ks, μ0 (ad k) = none
  nd : ks.Nodup
section
variable {μ0 μ : Mu} {d : Addr} {ad : Str → Addr} {ks : List Str} {f : Str → List Str}
theorem LM.mono {μ' : Mu} (M : LM μ0 μ d ad ks f) (l : Le μ μ') : LM μ0 μ' d ad ks f := ⟨M.le.trans l, l _ _ M.hd, fun k hk => l _ _ (M.hl k hk), M.inj, M.fd, M.fl, M.nd⟩
theorem LM.get (M : LM μ0 μ d ad ks f) (k : Str) : valD (ks.map fun k => ((.inr k : Key), SD.ref (ad k))) (.inr k) = if k ∈ ks then some (.ref (ad k)) else none := valD_mapk (g := fun k => SD.ref (ad k))
theorem LM.add (M : LM μ0 μ d ad ks f) {k : Str} (hk : k ∈ ks) : ad k ≠ d := fun e => by
  have h := M.hl k hk
  rw [e, M.hd] at h; cases h
theorem LM.list (M : LM μ0 μ d ad ks f) {h : Str} {l : List Str} (hh : h ∈ ks) : LM μ0 (up μ (ad h) (.lst (sts l))) d ad ks (fun k => if k = h then l else f k) := by
  refine ⟨M.le.up (M.fl h hh), by rw [up_ne (Ne.symm (M.add hh))]; exact M.hd, fun k hk => ?_, M.inj, M.fd, M.fl, M.nd⟩
  by_cases e : k = h
  · subst e; rw [up_same, if_pos rfl]
  · rw [up_ne (fun z => e (M.inj k hk h hh z)), if_neg e]; exact M.hl k hk
theorem LM.row {q : Addr} {x : Str} (M : LM μ0 μ d ad ks f) (hq : μ q = none) (hx : x ∉ ks) : LM μ0 (up (up μ q (.lst [])) d (.dic (putD (ks.map fun k => ((.inr k : Key), SD.ref (ad k))) (.inr x) (.ref q)))) d (fun k => if k = x then q else ad k) (ks ++ [x]) (newF f x) := by
  have n : ∀ {b : Addr} {o : MO}, μ b = some o → b ≠ q := fun {b o} e z => by subst z; rw [hq] at e; cases e
  have hx2 : ∀ k ∈ ks, k ≠ x := fun k hk z => hx (z ▸ hk)
  have old : ∀ k ∈ ks ++ [x], k ≠ x → k ∈ ks := fun k hk z => by
    rcases List.mem_append.mp hk with hk | hk
    · exact hk
    · exact (z (List.mem_singleton.mp hk)).elim
  have hqd : q ≠ d := Ne.symm (n M.hd)
  refine ⟨(M.le.up (M.le.none hq)).up M.fd, ?_, fun k hk => ?_, fun k hk k' hk' => ?_, M.fd, fun k hk => ?_, ?_⟩
  · rw [up_same, putD_mapk (g := fun k => SD.ref (ad k)) hx, List.map_append]
    congr 3
    · exact List.map_congr_left fun k hk => by rw [if_neg (hx2 k hk)]
    · simp
  · unfold newF
    by_cases e : k = x
    · rw [if_pos e, if_pos e, up_ne hqd, up_same]; rfl
    · have hk := old k hk e
      rw [if_neg e, if_neg e, up_ne (M.add hk), up_ne (n (M.hl k hk))]; exact M.hl k hk
  · by_cases e : k = x <;> by_cases e' : k' = x
    · intro _; rw [e, e']
    · rw [if_pos e, if_neg e']
      intro z; exact (n (M.hl k' (old k' hk' e')) z.symm).elim
    · rw [if_neg e, if_pos e']
      intro z; exact (n (M.hl k (old k hk e)) z).elim
    · rw [if_neg e, if_neg e']
      exact M.inj k (old k hk e) k' (old k' hk' e')
  · by_cases e : k = x
    · rw [if_pos e]; exact M.le.none hq
    · rw [if_neg e]; exact M.fl k (old k hk e)
  · rw [List.nodup_append]
    exact ⟨M.nd, by simp, fun a ha b hb => by rw [List.mem_singleton.mp hb]; exact hx2 a ha⟩
theorem lstRefs_sub {ds : List SD} {b : Addr} (h : b ∈ lstRefs μ ds) : SD.ref b ∈ ds := by
  obtain ⟨x, hx, e⟩ := List.mem_filterMap.mp h
  cases x with
  | ref c =>
    simp only at e
    split at e
    · cases e; exact hx
    · cases e
  | _ => cases e
/-- from then on it does not change -/
theorem LM.frz {R : SD → Mu → Prop} (M : LM μ0 μ d ad ks f) (q : ∀ μ', Le μ0 μ' → R (.dic (encD (ks.map fun k => (k, f k)))) μ') : frzD R (.ref d) μ := by
  unfold frzD
  simp only [M.hd]
  have e : fzD μ (ks.map fun k => ((.inr k : Key), SD.ref (ad k))) = encD (ks.map fun k => (k, f k)) := by
    unfold fzD encD
    rw [List.map_map, List.map_map]
    refine List.map_congr_left fun k hk => ?_
    have : fz1 μ (.ref (ad k)) = .lst (sts (f k)) := by simp only [fz1, M.hl k hk]
    simp only [Function.comp, this]
  rw [e]
  refine q _ fun b o hb => ?_
  have hbd : b ≠ d := fun z => by subst z; rw [M.fd] at hb; cases hb
  rw [rm_ne hbd]
  show (if b ∈ _ then none else μ b) = some o
  rw [if_neg, M.le b o hb]
  intro z
  have := lstRefs_sub z
  simp only [List.map_map, List.mem_map, Function.comp] at this
  obtain ⟨k, hk, e2⟩ := this
  cases e2
  rw [M.fl k hk] at hb; cases hb
end
end LK
namespace LK
end LK
namespace LK
end LK
namespace LK
open PySem PySem.Spec PyProof.Rows L2 DS MA
/-- what stands elsewhere stays -/
def LeW (h w : Addr) (μ μ' : Mu) : Prop := ∀ a m, a ≠ h → a ≠ w → μ a = some m → μ' a = some m
theorem LeW.refl (h w : Addr) (μ : Mu) : LeW h w μ μ := fun _ _ _ _ e => e
theorem LeW.trans {h w : Addr} {μ μ1 μ2 : Mu} (a : LeW h w μ μ1) (b : LeW h w μ1 μ2) : LeW h w μ μ2 := fun x m n n2 e => b x m n n2 (a x m n n2 e)
theorem LeW.put {h w : Addr} {μ μ' : Mu} {m : MO} (l : LeW h w μ μ') : LeW h w μ (up μ' w m) := fun a o n n2 e => by rw [up_ne n2]; exact l a o n n2 e
end LK
namespace LK
open PySem PySem.Spec PyProof.Rows L2 DS MA
def reb (μ0 : Mu) (h : Addr) (μ' : Mu) : Mu := fun a => if a = h then μ' h else μ0 a
theorem reb_same {μ0 μ' : Mu} {h : Addr} : reb μ0 h μ' h = μ' h := if_pos rfl
theorem reb_ne {μ0 μ' : Mu} {h a : Addr} (n : a ≠ h) : reb μ0 h μ' a = μ0 a := if_neg n
section
variable {μ0 μ μ' : Mu} {d h : Addr} {ad : Str → Addr} {ks : List Str} {f : Str → List Str}
theorem LM.re (M : LM μ0 μ d ad ks f) (n : μ0 h ≠ none) (l : LeX h μ μ') : LM (reb μ0 h μ') μ' d ad ks f := by
  have ne : ∀ {a : Addr}, μ0 a = none → a ≠ h := fun {a} e z => n (z ▸ e)
  refine ⟨fun a m e => ?_, l _ _ (ne M.fd) M.hd, fun k hk => l _ _ (ne (M.fl k hk)) (M.hl k hk), M.inj, by rw [reb_ne (ne M.fd)]; exact M.fd, fun k hk => by rw [reb_ne (ne (M.fl k hk))]; exact M.fl k hk, M.nd⟩
  by_cases z : a = h
  · subst z; rw [reb_same] at e; exact e
  · rw [reb_ne z] at e; exact l a m z (M.le a m e)
theorem LM.congr {g : Str → List Str} (M : LM μ0 μ d ad ks f) (e : ∀ k ∈ ks, g k = f k) : LM μ0 μ d ad ks g := ⟨M.le, M.hd, fun k hk => by rw [e k hk]; exact M.hl k hk, M.inj, M.fd, M.fl, M.nd⟩
/-- a new dict of the same lists -/
theorem LM.pick {p : Addr} {js : List Str} (M : LM μ0 μ d ad ks f) (hp : μ p = none) (sub : ∀ k ∈ js, k ∈ ks) (nd : js.Nodup) : LM μ0 (up μ p (.dic (js.map fun k => (.inr k, .ref (ad k))))) p ad js f :=
  ⟨M.le.up (M.le.none hp), up_same, fun k hk => by rw [up_ne (fun z => by have := M.hl k (sub k hk); rw [z, hp] at this; cases this)]; exact M.hl k (sub k hk), fun k hk k' hk' => M.inj k (sub k hk) k' (sub k' hk'), M.le.none hp, fun k hk => M.fl k (sub k hk), nd⟩
end
/-- a dict of lists, the hand at h, fresh keys at w; what else stood in μb stays -/
structure CS (μb μ : Mu) (h w : Addr) (T : Nat) (d : Addr) (ad : Str → Addr) (ks : List Str) (f : Str → List Str) (fr : List Str) : Prop where
  M : ∃ μ0, LM μ0 μ d ad ks f ∧ LeW h w μb μ0 ∧ μ0 h ≠ none ∧ μ0 w ≠ none
  H : HandAt μ h T
  hw : h ≠ w
  W : μ w = some (.lst (sts fr))
section
variable {μb μ μ' : Mu} {h w d : Addr} {T T' : Nat} {ad : Str → Addr} {ks fr : List Str} {f : Str → List Str}
theorem CS.hd (C : CS μb μ h w T d ad ks f fr) : μ d = some (.dic (ks.map fun k => (.inr k, .ref (ad k)))) := let ⟨_, M, _⟩ := C.M; M.hd
theorem CS.hl (C : CS μb μ h w T d ad ks f fr) : ∀ k ∈ ks, μ (ad k) = some (.lst (sts (f k))) := let ⟨_, M, _⟩ := C.M; M.hl
theorem CS.nd (C : CS μb μ h w T d ad ks f fr) : ks.Nodup := let ⟨_, M, _⟩ := C.M; M.nd
theorem CS.get (C : CS μb μ h w T d ad ks f fr) (k : Str) : valD (ks.map fun k => ((.inr k : Key), SD.ref (ad k))) (.inr k) = if k ∈ ks then some (.ref (ad k)) else none := let ⟨_, M, _⟩ := C.M; M.get k
theorem CS.le (C : CS μb μ h w T d ad ks f fr) (l : Le μ μ') : CS μb μ' h w T d ad ks f fr := by
  obtain ⟨μ0, M, r⟩ := C.M
  exact ⟨⟨μ0, M.mono l, r⟩, C.H.le l, C.hw, l _ _ C.W⟩
theorem CS.pop (C : CS μb μ h w T d ad ks f fr) (fr' : List Str) : CS μb (up μ w (.lst (sts fr'))) h w T d ad ks f fr' := by
  obtain ⟨μ0, M, b, n1, n2⟩ := C.M
  refine ⟨⟨reb μ0 w (up μ w (.lst (sts fr'))), M.re n2 (fun a m n e => by rw [up_ne n]; exact e), fun a m z1 z2 e => by rw [reb_ne z2]; exact b a m z1 z2 e, by rw [reb_ne C.hw]; exact n1, ?_⟩, C.H.up C.hw, C.hw, up_same⟩
  rw [reb_same, up_same]; simp
theorem CS.ne (C : CS μb μ h w T d ad ks f fr) : d ≠ h ∧ d ≠ w ∧ ∀ k ∈ ks, ad k ≠ h ∧ ad k ≠ w := by
  obtain ⟨μ0, M, b, n1, n2⟩ := C.M
  exact ⟨fun z => n1 (z ▸ M.fd), fun z => n2 (z ▸ M.fd), fun k hk => ⟨fun z => n1 (z ▸ M.fl k hk), fun z => n2 (z ▸ M.fl k hk)⟩⟩
theorem CS.list {x : Str} {l : List Str} (C : CS μb μ h w T d ad ks f fr) (hx : x ∈ ks) : CS μb (up μ (ad x) (.lst (sts l))) h w T d ad ks (fun k => if k = x then l else f k) fr := by
  obtain ⟨a, b, c⟩ := C.ne
  obtain ⟨c1, c2⟩ := c x hx
  obtain ⟨μ0, M, r⟩ := C.M
  exact ⟨⟨μ0, M.list hx, r⟩, C.H.up (Ne.symm c1), C.hw, by rw [up_ne (Ne.symm c2)]; exact C.W⟩
theorem CS.row {q : Addr} {x : Str} (C : CS μb μ h w T d ad ks f fr) (hq : μ q = none) (hx : x ∉ ks) : CS μb (up (up μ q (.lst [])) d (.dic (putD (ks.map fun k => ((.inr k : Key), SD.ref (ad k))) (.inr x) (.ref q)))) h w T d (fun k => if k = x then q else ad k) (ks ++ [x]) (newF f x) fr := by
  obtain ⟨a, b, c⟩ := C.ne
  have hqh := C.H.ne hq
  have hqw : q ≠ w := fun z => by have := C.W; rw [← z, hq] at this; cases this
  obtain ⟨μ0, M, r⟩ := C.M
  exact ⟨⟨μ0, M.row hq hx, r⟩, (C.H.up hqh).up (Ne.symm a), C.hw, by rw [up_ne (Ne.symm b), up_ne (Ne.symm hqw)]; exact C.W⟩
theorem CS.pick {p : Addr} {js : List Str} (C : CS μb μ h w T d ad ks f fr) (hp : μ p = none) (sub : ∀ k ∈ js, k ∈ ks) (nd : js.Nodup) : CS μb (up μ p (.dic (js.map fun k => (.inr k, .ref (ad k))))) h w T p ad js f fr := by
  have hph := C.H.ne hp
  have hpw : p ≠ w := fun z => by have := C.W; rw [← z, hp] at this; cases this
  obtain ⟨μ0, M, r⟩ := C.M
  exact ⟨⟨μ0, M.pick hp sub nd, r⟩, C.H.up hph, C.hw, by rw [up_ne (Ne.symm hpw)]; exact C.W⟩
theorem CS.congr {g : Str → List Str} (C : CS μb μ h w T d ad ks f fr) (e : ∀ k ∈ ks, g k = f k) : CS μb μ h w T d ad ks g fr := by
  obtain ⟨μ0, M, r⟩ := C.M
  exact ⟨⟨μ0, M.congr e, r⟩, C.H, C.hw, C.W⟩
end
end LK
namespace LK
end LK
namespace LK
end LK
namespace LK
end LK
namespace LK
open PySem PySem.Spec PyProof.Rows L2 DS MA
theorem listM_ok {μ : Mu} {x : SD} {xs : List SD} {Q : SD → Mu → Prop} (e : seqD μ x = some xs) (q : ∀ p, μ p = none → Q (.ref p) (up μ p (.lst xs))) : drListM [x] μ Q := by
  unfold drListM
  simp only [e]
  exact q
theorem erase_perm {α : Type} : ∀ {l : List α} {j : Nat} (h : j < l.length), l.Perm (l[j] :: l.eraseIdx j)
  | a :: l, 0, _ => .refl _
  | a :: l, j + 1, h => by
    have := erase_perm (l := l) (j := j) (by simpa using h)
    exact (this.cons a).trans (.swap _ _ _)
def sp__law_mixed : DSp := fun ds μ Q _ => ∃ (h : Addr) (T : Nat) (xs : List SD) (x : SD) (B : Nat), ds = [.ref h, x] ∧ (x = .lst xs ∨ ∃ p, x = .ref p ∧ μ p = some (.lst xs)) ∧ HandAt μ h T ∧ T ≤ 900000000 ∧ xs.length ≤ 2000 ∧ (∀ d ∈ xs, ∃ p, Good d p 60 B) ∧ ∀ (ys : List SD) μ' T', ys.Perm xs → HandAt μ' h T' → T' ≤ T + xs.length → LeX h μ μ' → Q (.lst ys) μ'
theorem perm_sts {ys : List SD} {xs : List Str} (h : ys.Perm (sts xs)) : ∃ zs : List Str, ys = sts zs ∧ zs.Perm xs := by
  generalize e : sts xs = l at h
  induction h generalizing xs with
  | nil => exact ⟨[], rfl, by cases xs with
    | nil => exact .nil
    | cons a b => cases e⟩
  | cons x p ih =>
    cases xs with
    | nil => cases e
    | cons a b =>
      obtain ⟨rfl, e2⟩ := List.cons.inj e
      obtain ⟨zs, rfl, q⟩ := ih e2
      exact ⟨a :: zs, rfl, q.cons a⟩
  | swap x y l =>
    cases xs with
    | nil => cases e
    | cons a b =>
      cases b with
      | nil => have := (List.cons.inj e).2; cases this
      | cons a2 b =>
        obtain ⟨rfl, e2⟩ := List.cons.inj e
        obtain ⟨rfl, e3⟩ := List.cons.inj e2
        exact ⟨a2 :: a :: b, by rw [← e3]; rfl, .swap ..⟩
  | trans p q ih1 ih2 =>
    obtain ⟨zs, rfl, z1⟩ := ih2 e
    obtain ⟨us, rfl, u1⟩ := ih1 rfl
    exact ⟨us, rfl, u1.trans z1⟩
theorem mixed_sts {ds : List SD} {μ : Mu} {Q : SD → Mu → Prop} {E : DXK} (z : ∃ (h : Addr) (T : Nat) (xs : List Str) (x : SD), ds = [.ref h, x] ∧ (x = .lst (sts xs) ∨ ∃ p, x = .ref p ∧ μ p = some (.lst (sts xs))) ∧ HandAt μ h T ∧ T ≤ 900000000 ∧ xs.length ≤ 1000 ∧ (∀ k ∈ xs, KeyOk k) ∧ ∀ (ys : List Str) μ' T', ys.Perm xs → HandAt μ' h T' → T' ≤ T + xs.length → LeX h μ μ' → Q (.lst (sts ys)) μ') : sp__law_mixed ds μ Q E := by
  obtain ⟨h, T, xs, x, rfl, hx, H, hT, hl, hk, q⟩ := z
  refine ⟨h, T, sts xs, x, 61, rfl, hx, H, hT, by simp [sts]; omega, fun d hd => ?_, fun ys μ' T' pm H' hT' l' => ?_⟩
  · obtain ⟨k, hk', rfl⟩ := List.mem_map.mp hd
    exact ⟨_, (Good.str (hk k hk').1).mono (Nat.zero_le _) (hk k hk').2⟩
  · obtain ⟨zs, rfl, zp⟩ := perm_sts pm
    exact q zs μ' T' zp H' (by simpa [sts] using hT') l'
/-- from a list that is read: one element out -/
theorem popAtD {μ : Mu} {Q : SD → Mu → Prop} {p : Addr} {ls : List SD} {j : Nat} (m : μ p = some (.lst ls)) (hj : j < ls.length) (hl : ls.length ≤ 100000) (q : Q ls[j] (up μ p (.lst (ls.eraseIdx j)))) : dmPopAt (.ref p) [.int j] μ Q := by
  unfold dmPopAt
  have e : mlst μ (.ref p) = some (p, ls) := by simp [mlst, m]
  simp only [e]
  refine ⟨by omega, by omega, ?_⟩
  have e2 : ls[((j : Nat) : Int).toNat]? = some ls[j] := by
    rw [Int.toNat_natCast, List.getElem?_eq_getElem hj]
  rw [e2]
  dsimp only
  rw [Int.toNat_natCast]
  exact q
theorem len__law_mixed : ∀ ds μ Q E, sp__law_mixed ds μ Q E → ds.length = 2 := by rintro ds μ Q E ⟨h, T, xs, x, B, rfl, _⟩; rfl
def t__law_mixed : DTS := (dSeq (dPar 2 3 (dCons (dCB drListM (dCons (dVar 1) dNil)) (dCons (dLstM dNil) dNil)))
    (dSeq (dWhile (dTest (dOp (dEq true) (dVar 2) (dLst dNil))) (dDrop (dLM dmAppend (dVar 3) (dCons (dLM dmPopAt (dVar 2) (dCons (dCall sp__law_take [] (dCons (dVar 0) (dCons (dCB drLen (dCons (dVar 2) dNil)) dNil))) dNil)) dNil))))
    (dRetF (dVar 3))))
theorem read__law_mixed : ∀ ds μ Q E, sp__law_mixed ds μ Q E → t__law_mixed { nx := fun _ μ' => Q .non μ', rt := Q } (begin_ ["_law_hand_here", "_law_some", "_law_left", "_law_found"] ds) μ := by
  rintro ds μ Q E ⟨h, T, xs, x, B, rfl, hx, H, hT, hl, hk, q⟩
  unfold t__law_mixed
  refine r_var rfl ?_
  refine listM_ok (xs := xs) (by rcases hx with rfl | ⟨p, rfl, mp⟩ <;> simp [seqD, *]) ?_
  refine fun p hp => ⟨Nat.zero_le _, fun p3 hp3 => ?_⟩
  obtain ⟨n3, hp3'⟩ := up_none hp3
  have hph := H.ne hp
  have hph3 := H.ne hp3'
  dsimp only
  refine ⟨fun m ρ μ' => ∃ (ls ys : List SD) (T' : Nat), ρ = [some (.ref h), some x, some (.ref p), some (.ref p3)] ∧ μ' p = some (.lst ls) ∧ μ' p3 = some (.lst ys) ∧ (ls ++ ys).Perm xs ∧ HandAt μ' h T' ∧ T' + ls.length ≤ T + xs.length ∧ LeX h μ μ' ∧ m = ls.length, ⟨_, xs, [], T, rfl, by rw [up_ne (Ne.symm n3), up_same], up_same, by simp, (H.up hph).up hph3, Nat.le_refl _, ((LeX.refl h μ).up hp).up hp3', rfl⟩, ?_⟩
  rintro m ρ μ1 ⟨ls, ys, T', rfl, m1, m3, pm, H1, hT1, l1, rfl⟩
  have ll := pm.length_eq
  rw [List.length_append] at ll
  obtain ⟨ps, gd⟩ := GoodL.of (ds := ls) (D := 60) (B := B) fun d hd => hk d (pm.mem_iff.mp (List.mem_append_left _ hd))
  refine r_var rfl ⟨Nat.zero_le _, ?_⟩
  refine eq_nilR m1 gd (by decide) ?_
  by_cases h0 : ls = []
  · rw [decide_eq_true h0]
    refine ifF rfl ?_
    dsimp only
    refine r_var rfl ?_
    unfold frz
    simp only [m3]
    subst h0
    exact q ys _ T' (by simpa using pm) (H1.rm hph3) (by simpa using hT1) (l1.rm hp3')
  · have lp : 0 < ls.length := by cases ls with
      | nil => exact (h0 rfl).elim
      | cons _ _ => simp
    rw [decide_eq_false h0]
    refine ifT rfl ⟨_, fun _ _ h => h, ?_⟩
    refine r_var rfl ⟨isSome_ref m3, ?_⟩
    refine r_var rfl ⟨isSome_ref m1, ?_⟩
    refine r_var rfl ?_
    refine r_var rfl ?_
    refine l_lenR m1 ?_
    refine ⟨h, _, T', rfl, by omega, by omega, by omega, H1, fun j μ2 j0 j1 H2 l2 => ?_⟩
    obtain ⟨j, rfl⟩ := Int.eq_ofNat_of_zero_le j0
    have m2 := l2 p _ (Ne.symm hph) m1
    have m23 := l2 p3 _ (Ne.symm hph3) m3
    have hj : j < ls.length := by omega
    refine popAtD m2 hj (by omega) ?_
    refine dm_append (by rw [up_ne n3]; exact m23) (lt_line (m := 2001) (by omega) (by omega)) ?_
    refine ⟨(ls.eraseIdx j).length, by rw [List.length_eraseIdx_of_lt hj]; omega, ls.eraseIdx j, ys ++ [ls[j]], T' + 1, rfl, by rw [up_ne (Ne.symm n3), up_same], by rw [up_same], ?_, (H2.up hph).up hph3, by rw [List.length_eraseIdx_of_lt hj]; omega, ((l1.trans l2).up hp).up hp3', rfl⟩
    have a := erase_perm hj
    have b : (ls.eraseIdx j ++ (ys ++ [ls[j]])).Perm (ls[j] :: ls.eraseIdx j ++ ys) := by
      rw [← List.append_assoc]
      exact List.perm_append_singleton _ _ |>.trans (by rw [List.cons_append])
    exact (b.trans (a.symm.append_right ys)).trans pm
theorem sl_RC {μ : Mu} {Q : SD → Mu → Prop} {a : Addr} {xs : List SD} {l u : Option Int} (m : μ a = some (.lst xs)) (q : Q (.lst (cutL xs l u)) μ) : drSl (.ref a) l u μ Q := by
  simp only [drSl, seqD, m]; exact q
/-- the i-th name -/
def nmC (f l : Int) (stem : Str) (i : Nat) : Str := if i < 26 then stem ++ (⟨#[97 + ((f + l * i) % 26).toNat]⟩ : Str) else stem ++ (⟨#[97 + ((f + l * ((i / 26 - 1 : Nat) : Int)) % 26).toNat]⟩ : Str) ++ (⟨#[97 + ((f + l * ((i % 26 : Nat) : Int)) % 26).toNat]⟩ : Str)
theorem nmC_cps {f l : Int} {stem : Str} {i : Nat} : (nmC f l stem i).cps.toList = stem.cps.toList ++ (if i < 26 then [97 + ((f + l * i) % 26).toNat] else [97 + ((f + l * ((i / 26 - 1 : Nat) : Int)) % 26).toNat, 97 + ((f + l * ((i % 26 : Nat) : Int)) % 26).toNat]) := by
  unfold nmC
  split
  · show (stem.cps ++ #[_]).toList = _
    simp
  · show ((stem.cps ++ #[_]) ++ #[_]).toList = _
    simp
theorem let_inj {f l : Int} (hl : l = 1 ∨ l = 3 ∨ l = 5 ∨ l = 7 ∨ l = 9 ∨ l = 11 ∨ l = 25) {i j : Nat} (hi : i < 26) (hj : j < 26) (e : 97 + ((f + l * i) % 26).toNat = 97 + ((f + l * j) % 26).toNat) : i = j := by
  have e6 : (f + l * i) % 26 = (f + l * j) % 26 := by
    have a := Int.emod_nonneg (f + l * i) (show (26 : Int) ≠ 0 by decide)
    have b := Int.emod_nonneg (f + l * j) (show (26 : Int) ≠ 0 by decide)
    omega
  rcases hl with rfl | rfl | rfl | rfl | rfl | rfl | rfl <;> omega
theorem nmC_inj {f l : Int} {stem : Str} (hl : l = 1 ∨ l = 3 ∨ l = 5 ∨ l = 7 ∨ l = 9 ∨ l = 11 ∨ l = 25) {i j : Nat} (hi : i < 130) (hj : j < 130) (e : nmC f l stem i = nmC f l stem j) : i = j := by
  have e1 : (nmC f l stem i).cps.toList = (nmC f l stem j).cps.toList := by rw [e]
  rw [nmC_cps, nmC_cps] at e1
  have e2 := List.append_cancel_left e1
  by_cases h1 : i < 26 <;> by_cases h2 : j < 26
  · rw [if_pos h1, if_pos h2] at e2
    exact let_inj hl h1 h2 (List.cons.inj e2).1
  · rw [if_pos h1, if_neg h2] at e2; cases (List.cons.inj e2).2
  · rw [if_neg h1, if_pos h2] at e2; cases (List.cons.inj e2).2
  · rw [if_neg h1, if_neg h2] at e2
    obtain ⟨a, b⟩ := List.cons.inj e2
    have a1 := let_inj hl (i := i / 26 - 1) (j := j / 26 - 1) (by omega) (by omega) a
    have b1 := let_inj hl (i := i % 26) (j := j % 26) (by omega) (by omega) (List.cons.inj b).1
    omega
def sp__law_names : DSp := fun ds μ Q _ => ∃ (h : Addr) (many T : Nat), ds = [.ref h, .int (many : Nat)] ∧ many ≤ 130 ∧ T ≤ 800000000 ∧ HandAt μ h T ∧ ∀ names μ', names.Nodup → names.length = many → (∀ k ∈ names, KeyOk k ∧ LowK k) → HandAt μ' h (T + 134) → LeX h μ μ' → Q (.lst (sts names)) μ'
theorem len__law_names : ∀ ds μ Q E, sp__law_names ds μ Q E → ds.length = 2 := by rintro ds μ Q E ⟨h, many, T, rfl, _⟩; rfl
def t__law_names : DTS := (dSeq (dAsg (dTup (dCons (dC (.str "abcdefghijklmnopqrstuvwxyz")) (dCons (dCall sp__law_take [] (dCons (dVar 0) (dCons (dC (.int 26)) dNil))) (dCons (dCall sp__law_of [] (dCons (dVar 0) (dCons (dLst (dCons (dC (.int 1)) (dCons (dC (.int 3)) (dCons (dC (.int 5)) (dCons (dC (.int 7)) (dCons (dC (.int 9)) (dCons (dC (.int 11)) (dCons (dC (.int 25)) dNil)))))))) dNil))) dNil)))) (hTup 3 (hCons (hName 2) (hCons (hName 3) (hCons (hName 4) hNil)))))
    (dSeq (dSet (dOp dMul (dCall sp__law_of [] (dCons (dVar 0) (dCons (dVar 2) dNil))) (dCall sp__law_of [] (dCons (dVar 0) (dCons (dLst (dCons (dC (.int 0)) (dCons (dC (.int 0)) (dCons (dC (.int 0)) (dCons (dC (.int 2)) (dCons (dC (.int 6)) dNil)))))) dNil)))) 5)
    (dSeq (dSet (dLcS (jRng1 (dCons (dC (.int 26)) dNil)) (hName 9) dYes (dOp dIx (dVar 2) (dOp dMod (dOp dAdd (dVar 3) (dOp dMul (dVar 4) (dVar 9))) (dC (.int 26)))) [9]) 6)
    (dSeq (dSet (dLcM (jSeq (dVar 6)) (hName 8) dYes (dOp dAdd (dVar 5) (dVar 8)) [8]) 7)
    (dSeq (dFor (jSeq (dSl (dVar 6) dNoPart (dPart (dC (.int 4))))) (hName 8) (dDrop (dLM dmExtend (dVar 7) (dCons (dLcS (jSeq (dVar 6)) (hName 10) dYes (dOp dAdd (dOp dAdd (dVar 5) (dVar 8)) (dVar 10)) [10]) dNil))))
    (dRet (dCall sp__law_mixed [] (dCons (dVar 0) (dCons (dSl (dVar 7) dNoPart (dPart (dVar 1))) dNil)))))))))
theorem read__law_names : ∀ ds μ Q E, sp__law_names ds μ Q E → t__law_names { nx := fun _ μ' => Q .non μ', rt := Q } (begin_ ["_law_hand_here", "_law_count", "_law_letters", "_law_start", "_law_leap", "_law_stem", "_law_turned", "_law_some", "_law_one", "_law_nth", "_law_other"] ds) μ := by
  rintro ds μ Q E ⟨h, many, T, rfl, hm, hT, H, q⟩
  unfold t__law_names dLcS dLcM dLc dFor
  refine r_var rfl ?_
  refine ⟨h, 26, T, rfl, by decide, by decide, by omega, H, fun f μ1 f0 f1 H1 l1 => ?_⟩
  refine r_var rfl ?_
  refine ⟨(by show 7 ≤ sizeLine; decide), ?_⟩
  refine ⟨h, _, _, T + 1, rfl, .inl rfl, by simp, by simp, by omega, H1, fun i d μ2 hd H2 l2 => ?_⟩
  have hl : ∃ l : Int, d = .int l ∧ (l = 1 ∨ l = 3 ∨ l = 5 ∨ l = 7 ∨ l = 9 ∨ l = 11 ∨ l = 25) := by
    have := List.mem_of_getElem? hd
    simp at this
    rcases this with rfl | rfl | rfl | rfl | rfl | rfl | rfl <;> exact ⟨_, rfl, by decide⟩
  obtain ⟨l, rfl, hl⟩ := hl
  refine ⟨(by show 3 ≤ sizeLine; decide), ?_⟩
  refine ⟨rfl, rfl, ?_⟩
  dsimp only
  have hal : ("abcdefghijklmnopqrstuvwxyz" : Str).cps.toList.length = 26 := by rw [abc]; simp
  refine r_var rfl ?_
  refine r_var rfl ?_
  refine ⟨h, _, _, T + 2, rfl, .inr ⟨_, rfl, rfl⟩, by intro z; have := congrArg List.length z; rw [List.length_map, hal] at this; simp at this, by rw [List.length_map, hal]; omega, by omega, H2, fun i d μ3 hd H3 l3 => ?_⟩
  obtain ⟨c, hc, rfl⟩ := List.mem_map.mp (List.mem_of_getElem? hd)
  have hc2 : 97 ≤ c ∧ c < 123 := by
    rw [abc] at hc; obtain ⟨j, hj, rfl⟩ := List.mem_map.mp hc; have := List.mem_range.mp hj; omega
  refine r_var rfl ?_
  refine ⟨(by show 5 ≤ sizeLine; decide), ?_⟩
  refine ⟨h, _, _, T + 3, rfl, .inl rfl, by simp, by simp, by omega, H3, fun i d μ4 hd H4 l4 => ?_⟩
  have hn : ∃ n : Nat, d = .int n ∧ n ≤ 6 := by
    have := List.mem_of_getElem? hd
    simp at this
    rcases this with rfl | rfl | rfl
    · exact ⟨0, rfl, by decide⟩
    · exact ⟨2, rfl, by decide⟩
    · exact ⟨6, rfl, by decide⟩
  obtain ⟨n, rfl, hn⟩ := hn
  refine s_mul ⟨by omega, by omega, by show 1 * _ ≤ _; rw [sizeLine_eq]; omega⟩ ?_
  rw [Int.toNat_natCast]
  have hs : (repS (⟨#[c]⟩ : Str) n).cps.toList = List.replicate n c := by
    show ((List.replicate n [c]).flatten.toArray).toList = _
    simp
  generalize hst : repS (⟨#[c]⟩ : Str) n = stem at hs
  have sl : stem.length ≤ 6 := by show stem.cps.toList.length ≤ 6; rw [hs]; simp; omega
  dsimp only
  -- the letters, turned
  have ltr : ∀ (j : Nat) (Q : SD → Mu → Prop) (μ : Mu), j < 26 → Q (.str ⟨#[97 + ((f + l * j) % 26).toNat]⟩) μ → dMul (.int l) (.int j) μ (fun x μ => dAdd (.int f) x μ fun x μ => dMod x (.int 26) μ fun x μ => dIx (.str "abcdefghijklmnopqrstuvwxyz") x μ Q) := fun j Q μ hj q => by
    refine i_mul (mul_ok (by rcases hl with rfl | rfl | rfl | rfl | rfl | rfl | rfl <;> decide) (abs_lt (a := 40) (by omega) (by omega) (by decide))) ?_
    refine i_add ?_
    refine i_mod (by decide) ?_
    have r0 := Int.emod_nonneg (f + l * j) (show (26 : Int) ≠ 0 by decide)
    have r1 := Int.emod_lt_of_pos (f + l * j) (show (0 : Int) < 26 by decide)
    exact ix_str (by show ("abcdefghijklmnopqrstuvwxyz" : Str).cps.toList.length ≤ _; rw [hal]; decide) (abc_at r0 r1) q
  refine ⟨⟨by decide, by decide⟩, ?_⟩
  let lt : Nat → Str := fun j => ⟨#[97 + ((f + l * j) % 26).toNat]⟩
  refine ⟨le_line (m := 100) (by simp) (by omega), fun m acc μ' => acc = sts ((List.range m).map lt) ∧ μ' = μ4, ⟨rfl, rfl⟩, fun _ _ _ _ _ => trivial, ?_, ?_⟩
  · rintro m d acc μ' hd ⟨rfl, rfl⟩
    have hm := (List.getElem?_eq_some_iff.mp hd).1
    have hm : m < 26 := by simpa using hm
    have hdv : d = .int (m : Nat) := by
      rw [List.getElem?_map, List.getElem?_range (by simpa using hm)] at hd
      exact (Option.some.inj hd).symm
    subst hdv
    refine ifT rfl ?_
    refine r_var rfl ?_
    refine r_var rfl ?_
    refine r_var rfl ?_
    refine r_var rfl ?_
    refine ltr m _ _ hm ⟨?_, rfl⟩
    rw [List.range_succ, List.map_append]; simp [sts, lt]
  rintro acc μ' ⟨rfl, rfl⟩
  have e26 : (List.map (fun i : Nat => SD.int (i : Nat)) (List.range (Int.toNat 26))).length = 26 := by simp
  rw [e26]
  dsimp only
  -- those of one letter behind the stem
  have nm1 : ∀ j, j < 26 → stem ++ lt j = nmC f l stem j := fun j hj => by unfold nmC; rw [if_pos hj]
  have l1s : ∀ j, (lt j).length = 1 := fun j => rfl
  refine r_var rfl ?_
  refine lc_pure (zs := sts ((List.range 26).map (nmC f l stem))) rfl (by simp [sts]) (by simp [sts]) (fun i d y hd hy R rr => ?_) ?_
  · rw [sts, List.getElem?_map, List.getElem?_map] at hd hy
    by_cases hi : i < 26
    · rw [List.getElem?_range hi] at hd hy
      cases hd; cases hy
      refine r_var rfl ?_
      refine r_var rfl ?_
      refine s_add (by rw [sizeLine_eq, l1s]; omega) ?_
      rw [nm1 i hi]; exact rr
    · rw [List.getElem?_eq_none (by simpa using hi)] at hd; cases hd
  intro p hp
  have l14 := ((l1.trans l2).trans l3).trans l4
  obtain ⟨hp0, hne⟩ := lex_none l14 H4 hp
  dsimp only
  -- those of two
  refine r_var rfl ?_
  refine sl_L ?_
  rw [show cutL (sts ((List.range 26).map lt)) none (some 4) = sts ((List.range 4).map lt) by rw [show (4 : Int) = ((4 : Nat) : Int) from rfl, cutL_to, sts, sts, ← List.map_take, ← List.map_take]; rfl]
  refine ⟨fun a ρ μ' => ∃ x8 : Option SD, ρ = [some (.ref h), some (.int many), some (.str "abcdefghijklmnopqrstuvwxyz"), some (.int f), some (.int l), some (.str stem), some (.lst (sts ((List.range 26).map lt))), some (.ref p), x8, none, none] ∧ μ' p = some (.lst (sts ((List.range (26 + 26 * a)).map (nmC f l stem)))) ∧ LeX h μ μ' ∧ HandAt μ' h (T + 4), ⟨none, rfl, up_same, l14.up hp0, H4.up hne⟩, fun _ _ _ _ _ => rfl, ?_, ?_⟩
  · rintro a d ρ μ' hd ⟨x8, rfl, mp, lx, HH⟩
    rw [sts, List.getElem?_map, List.getElem?_map] at hd
    by_cases ha : a < 4
    · rw [List.getElem?_range ha] at hd
      cases hd
      dsimp only
      refine r_var rfl ⟨isSome_ref mp, ?_⟩
      refine r_var rfl ?_
      refine lc_pure (zs := sts ((List.range 26).map fun b => nmC f l stem (26 + 26 * a + b))) rfl (by simp [sts]) (by simp [sts]) (fun i d y hd hy R rr => ?_) ?_
      · rw [sts, List.getElem?_map, List.getElem?_map] at hd hy
        by_cases hi : i < 26
        · rw [List.getElem?_range hi] at hd hy
          cases hd; cases hy
          refine r_var rfl ?_
          refine r_var rfl ?_
          refine s_add (by rw [sizeLine_eq, l1s]; omega) ?_
          refine r_var rfl ?_
          have e2 : stem ++ lt a ++ lt i = nmC f l stem (26 + 26 * a + i) := by
            unfold nmC
            rw [if_neg (by omega), show (26 + 26 * a + i) / 26 - 1 = a by omega, show (26 + 26 * a + i) % 26 = i by omega]
          have sl2 : (stem ++ lt a).length ≤ 7 := by
            show (stem.cps ++ _).size ≤ 7
            rw [Array.size_append]
            have : stem.cps.size ≤ 6 := sl
            show stem.cps.size + 1 ≤ 7
            omega
          refine s_add (by rw [sizeLine_eq, l1s]; omega) ?_
          rw [e2]; exact rr
        · rw [List.getElem?_eq_none (by simpa using hi)] at hd; cases hd
      refine dm_extendL mp (le_line (m := 1000) (by simp [sts]; omega) (by omega)) ?_
      refine ⟨_, rfl, ?_, lx.up hp0, HH.up hne⟩
      have er : List.range (26 + 26 * (a + 1)) = List.range (26 + 26 * a) ++ (List.range 26).map (fun b => 26 + 26 * a + b) := by
        rw [show 26 + 26 * (a + 1) = (26 + 26 * a) + 26 by omega]; exact List.range_add
      rw [up_same, er, List.map_append, List.map_map]
      unfold sts
      rw [List.map_append]
      rfl
    · rw [List.getElem?_eq_none (by simpa using ha)] at hd; cases hd
  · rintro ρ μ' ⟨x8, rfl, mp, lx, HH⟩
    rw [show (sts ((List.range 4).map lt)).length = 4 by simp [sts]] at mp
    dsimp only
    refine r_var rfl ?_
    refine r_var rfl ?_
    refine r_var rfl ?_
    refine sl_RC mp ?_
    have ec : cutL (sts ((List.range (26 + 26 * 4)).map (nmC f l stem))) none (some (many : Int)) = sts ((List.range many).map (nmC f l stem)) := by
      rw [cutL_to, sts, sts, ← List.map_take, ← List.map_take, List.take_range, Nat.min_eq_left (by omega)]
    rw [ec]
    have nd : ((List.range many).map (nmC f l stem)).Nodup := by
      refine List.pairwise_map.mpr ((List.nodup_range (n := many)).imp_of_mem ?_)
      intro a b ha hb hab e
      exact hab (nmC_inj hl (by have := List.mem_range.mp ha; omega) (by have := List.mem_range.mp hb; omega) e)
    have ok : ∀ k ∈ (List.range many).map (nmC f l stem), KeyOk k ∧ LowK k := by
      intro k hk
      obtain ⟨i, hi, rfl⟩ := List.mem_map.mp hk
      have kl : (nmC f l stem i).cps.toList.length ≤ 8 ∧ 1 ≤ (nmC f l stem i).cps.toList.length := by rw [nmC_cps, hs]; split <;> simp <;> omega
      have low : ∀ x ∈ (nmC f l stem i).cps.toList, 97 ≤ x ∧ x < 123 := by
        intro x hx
        rw [nmC_cps, hs] at hx
        have ra : ∀ j : Int, 97 ≤ 97 + ((f + l * j) % 26).toNat ∧ 97 + ((f + l * j) % 26).toNat < 123 := fun j => by
          have r0 := Int.emod_nonneg (f + l * j) (show (26 : Int) ≠ 0 by decide)
          have r1 := Int.emod_lt_of_pos (f + l * j) (show (0 : Int) < 26 by decide)
          omega
        rcases List.mem_append.mp hx with hx | hx
        · have := (List.mem_replicate.mp hx).2; omega
        · split at hx
          · rw [List.mem_singleton.mp hx]; exact ra _
          · rcases List.mem_cons.mp hx with rfl | hx
            · exact ra _
            · rw [List.mem_singleton.mp hx]; exact ra _
      refine ⟨⟨?_, by rw [← Array.length_toList]; omega⟩, by rw [← Array.length_toList]; omega, by rw [← Array.length_toList]; omega, low⟩
      unfold PyData.strOk
      rw [← Array.all_toList, List.all_eq_true]
      intro x hx
      have := low x hx
      simp; omega
    refine mixed_sts ⟨h, T + 4, _, .lst _, rfl, .inl rfl, HH, by omega, by simp; omega, fun k hk => (ok k hk).1, fun ys μ5 T5 pm H5 hT5 l5 => ?_⟩
    rw [List.length_map, List.length_range] at hT5
    exact q ys μ5 (pm.nodup_iff.mpr nd) (by rw [pm.length_eq]; simp) (fun k hk => ok k (pm.mem_iff.mp hk)) (H5.mono (by omega)) (lx.trans l5)
end LK
namespace LK
open PySem PySem.Spec PyProof.Rows L2 DS MA
theorem sum_ok {μ : Mu} {l : List Int} {Q : SD → Mu → Prop} (q : Q (.int l.sum) μ) : drSum [.lst (l.map SD.int)] μ Q := by
  unfold drSum
  refine ⟨rfl, ?_⟩
  simp only [seqD, intsD_map]
  exact q
def pr (l : List (Str × Int)) (k : Str) : Int := ((l.find? fun p => decide (p.1 = k)).map (·.2)).getD 1
theorem pr_at : ∀ {l : List (Str × Int)} {p : Str × Int}, (l.map (·.1)).Nodup → p ∈ l → pr l p.1 = p.2
  | a :: r, p, nd, h => by
    unfold pr
    rw [List.map_cons, List.nodup_cons] at nd
    by_cases e : a.1 = p.1
    · rw [List.find?_cons_of_pos (by simpa using e)]
      rcases List.mem_cons.mp h with rfl | h
      · rfl
      · exact (nd.1 (e ▸ List.mem_map_of_mem h)).elim
    · rw [List.find?_cons_of_neg (by simpa using e)]
      rcases List.mem_cons.mp h with rfl | h
      · exact (e rfl).elim
      · exact pr_at nd.2 h
theorem pr_out {l : List (Str × Int)} {k : Str} (h : k ∉ l.map (·.1)) : pr l k = 1 := by
  unfold pr
  rw [List.find?_eq_none.mpr fun p hp z => h (by rw [← of_decide_eq_true z]; exact List.mem_map_of_mem hp)]; rfl
theorem kvs_pr {l : List (Str × Int)} (nd : (l.map (·.1)).Nodup) : (l.map fun p => ((.inr p.1 : Key), SD.int p.2)) = (l.map (·.1)).map fun k => ((.inr k : Key), SD.int (pr l k)) := by
  rw [List.map_map]
  exact List.map_congr_left fun p hp => by rw [Function.comp, pr_at nd hp]
theorem pairsD_si : ∀ l : List (Str × Int), pairsD (l.map siD) = some (l.map fun p => ((.inr p.1 : Key), SD.int p.2))
  | [] => rfl
  | p :: l => by
    rw [List.map_cons, siD, pairsD]
    simp only [keyD, pairsD_si l, List.map_cons]
theorem merge_one {g : Str → SD} : ∀ {ks done : List Str}, (done ++ ks).Nodup → mergeD (done.map fun k => ((.inr k : Key), g k)) (ks.map fun k => ((.inr k : Key), g k)) = (done ++ ks).map fun k => ((.inr k : Key), g k)
  | [], done, _ => by simp [mergeD]
  | k :: r, done, nd => by
    have hk : k ∉ done := fun z => (List.nodup_append.mp nd).2.2 k z k (List.mem_cons_self ..) rfl
    have nd2 : ((done ++ [k]) ++ r).Nodup := by simpa using nd
    show mergeD (putD (done.map fun k => ((.inr k : Key), g k)) (.inr k) (g k)) (r.map fun k => ((.inr k : Key), g k)) = _
    rw [putD_mapk (g := g) hk, show (done.map fun k => ((.inr k : Key), g k)) ++ [(.inr k, g k)] = (done ++ [k]).map fun k => ((.inr k : Key), g k) by simp, merge_one nd2]
    simp
/-- dict(costs).get(k, 1) -/
theorem get_pr {μ : Mu} {x : SD} {l : List (Str × Int)} {k : Str} {Q : SD → Mu → Prop} (nd : (l.map (·.1)).Nodup) (m : dicD μ x = some (l.map fun p => ((.inr p.1 : Key), SD.int p.2))) (q : Q (.int (pr l k)) μ) : drGet2 x (.str k) (.int 1) μ Q := by
  unfold drGet2
  rw [m]
  simp only [keyD]
  rw [kvs_pr nd, valD_mapk (g := fun k => SD.int (pr l k))]
  by_cases h : k ∈ l.map (·.1)
  · rw [if_pos h]; exact q
  · rw [if_neg h]; rw [pr_out h] at q; exact q
theorem dictT_ok {μ : Mu} {l : List (Str × Int)} {Q : SD → Mu → Prop} (nd : (l.map (·.1)).Nodup) (q : ∀ p, μ p = none → Q (.ref p) (up μ p (.dic (l.map fun p => ((.inr p.1 : Key), SD.int p.2))))) : drDictT [.ptp (l.map siD)] μ Q := by
  have e : mergeD [] (l.map fun p => ((.inr p.1 : Key), SD.int p.2)) = l.map fun p => ((.inr p.1 : Key), SD.int p.2) := by
    rw [kvs_pr nd]
    exact (merge_one (g := fun k => SD.int (pr l k)) (done := []) (by simpa using nd))
  unfold drDictT
  simp only [pairsD_si, e]
  exact q
def sp_price_of : DSp := fun ds μ Q _ => ∃ (l : List (Str × Int)) (k : Str), ds = [.ptp (l.map siD), .str k] ∧ (l.map (·.1)).Nodup ∧ ∀ μ', Le μ μ' → Q (.int (pr l k)) μ'
theorem len_price_of : ∀ ds μ Q E, sp_price_of ds μ Q E → ds.length = 2 := by rintro ds μ Q E ⟨l, k, rfl, _⟩; rfl
def t_price_of : DTS := (dRet (dDGet2 (dCB drDictT (dCons (dVar 0) dNil)) (dVar 1) (dC (.int 1))))
theorem read_price_of : ∀ ds μ Q E, sp_price_of ds μ Q E → t_price_of { nx := fun _ μ' => Q .non μ', rt := Q } (begin_ ["costs", "key"] ds) μ := by
  rintro ds μ Q E ⟨l, k, rfl, nd, q⟩
  unfold t_price_of
  refine r_var rfl ?_
  refine dictT_ok nd fun p hp => ?_
  have m : dicD (up μ p (.dic (l.map fun p => ((.inr p.1 : Key), SD.int p.2)))) (.ref p) = some (l.map fun p => ((.inr p.1 : Key), SD.int p.2)) := dicD_ref up_same
  refine ⟨by rw [m]; rfl, ?_⟩
  refine r_var rfl ?_
  exact get_pr nd m (q _ ((Le.refl μ).up hp))
end LK
namespace LK
open PySem PySem.Spec PyProof.Rows L2 DS MA
def mvB : Op → Bool
  | .move .. => true
  | _ => false
theorem encO_at (o : Op) : ∃ (w : Str) (rest : List SD), encO o = .tup (.str w :: .str o.key :: rest) ∧ decide (w = "move") = mvB o := by
  cases o with
  | create x h b => exact ⟨"create", _, rfl, by show _ = false; decide +kernel⟩
  | move x h b => exact ⟨"move", _, rfl, by show _ = true; decide +kernel⟩
  | remove x => exact ⟨"remove", _, rfl, by show _ = false; decide +kernel⟩
def prO (w : Str → Int) (op : Op) : Int := if mvB op = true then w op.key else 0
def opsD (p : List Op) : SD := .tup (p.map encO)
/-- the operations cut: the parts, the last one and what it costs, the operations that are left -/
def batL (w : Str → Int) (most : Int) : List (List Op) → List Op → Int → List Op → List (List Op)
  | ps, last, _, [] => if last = [] then ps else ps ++ [last]
  | ps, last, sp, op :: os => if most < sp + prO w op then batL w most (ps ++ [last]) [op] (0 + prO w op) os else batL w most ps (last ++ [op]) (sp + prO w op) os
theorem l0_refB {a : Addr} {xs : List SD} {μ : Mu} {neg : Bool} {Q : SD → Mu → Prop} (m : μ a = some (.lst xs)) (q : Q (.bl (neg != xs.isEmpty)) μ) : dL0 neg (.ref a) (.lst []) μ Q := by
  unfold dL0
  simp only [lstD, m]
  exact q
/-- the first that is too dear -/
def dearO (w : Str → Int) (most : Int) (os : List Op) : Option Op := os.find? fun op => decide (most < prO w op)
def sp_batched : DSpX := fun ds μ Q E => ∃ (os : List Op) (l : List (Str × Int)) (most : Int), ds = [.tup (os.map encO), .ptp (l.map siD), .int most] ∧ (l.map (·.1)).Nodup ∧ os.length ≤ 400 ∧
  (dearO (pr l) most os = none → ∀ μ', Le μ μ' → Q (.tup ((batL (pr l) most [] [] 0 os).map opsD)) μ') ∧ ∀ op, dearO (pr l) most os = some op → ∀ μ', Le μ μ' → E "TooDear" [("key", .str op.key)] μ'
theorem dear_at {w : Str → Int} {most : Int} {os : List Op} {i : Nat} {op : Op} (e : os[i]? = some op) (h : most < prO w op) (b : ∀ o ∈ os.take i, prO w o ≤ most) : dearO w most os = some op := by
  unfold dearO
  rw [List.find?_eq_some_iff_append]
  refine ⟨decide_eq_true h, os.take i, os.drop (i + 1), ?_, fun o ho => ?_⟩
  · have hi := (List.getElem?_eq_some_iff.mp e)
    obtain ⟨hi, rfl⟩ := hi
    rw [← List.drop_eq_getElem_cons hi, List.take_append_drop]
  · have := b o ho
    simp; omega
theorem dear_none {w : Str → Int} {most : Int} {os : List Op} (b : ∀ o ∈ os, prO w o ≤ most) : dearO w most os = none := by
  unfold dearO
  rw [List.find?_eq_none]
  intro o ho
  have := b o ho
  simp; omega
theorem len_batched : ∀ ds μ Q E, sp_batched ds μ Q E → ds.length = 3 := by rintro ds μ Q E ⟨os, l, most, rfl, _⟩; rfl
def t_batched (Ex : DXX) : DTS := (dSeq (dPar3 3 4 5 (dCons (dLstM dNil) (dCons (dLstM dNil) (dCons (dC (.int 0)) dNil))))
    (dSeq (dFor (jSeq (dVar 0)) (hName 6) (dSeq (dSet (dIf (dTest (dOp (dEq false) (dOp dIx (dVar 6) (dC (.int 0))) (dC (.str "move")))) (dCall sp_price_of [] (dCons (dVar 1) (dCons (dOp dIx (dVar 6) (dC (.int 1))) dNil))) (dC (.int 0))) 7)
    (dSeq (dIfS (dTest (dOp dGt (dVar 7) (dVar 2))) (dRaise "TooDear" "key" Ex (dOp dIx (dVar 6) (dC (.int 1)))) dNext)
    (dSeq (dIfS (dTest (dOp dGt (dOp dAdd (dVar 5) (dVar 7)) (dVar 2))) (dSeq (dDrop (dLM dmAppend (dVar 3) (dCons (dCB drTuple (dCons (dVar 4) dNil)) dNil)))
    (dPar 4 5 (dCons (dLstM dNil) (dCons (dC (.int 0)) dNil)))) dNext)
    (dSeq (dDrop (dLM dmAppend (dVar 4) (dCons (dVar 6) dNil)))
    (dAugI (fun i j => i + j) 5 (dVar 7)))))))
    (dRet (dCB drTuple (dCons (dIf (dTest (dOp (dL0 true) (dVar 4) (dLst dNil))) (dOp dAdd (dVar 3) (dLst (dCons (dCB drTuple (dCons (dVar 4) dNil)) dNil))) (dVar 3)) dNil)))))
theorem read_batched : ∀ ds μ Q E, sp_batched ds μ Q E → t_batched E { nx := fun _ μ' => Q .non μ', rt := Q } (begin_ ["operations", "costs", "most", "parts", "last", "spent", "operation", "price"] ds) μ := by
  rintro ds μ Q E ⟨os, l, most, rfl, ln, hl, q, qE⟩
  unfold t_batched dFor
  refine ⟨Nat.zero_le _, fun u3 hu3 => ?_⟩
  refine ⟨Nat.zero_le _, fun u4 hu4 => ?_⟩
  have n43 : u4 ≠ u3 := fun z => by rw [z, up_same] at hu4; cases hu4
  have c4 : μ u4 = none := by rw [up_ne n43] at hu4; exact hu4
  have l0 : Le μ (up (up μ u3 (.lst [])) u4 (.lst [])) := ((Le.refl μ).up hu3).up c4
  have m3 : up (up μ u3 (.lst [])) u4 (.lst []) u3 = some (.lst []) := by rw [up_ne (Ne.symm n43), up_same]
  have m4 : up (up μ u3 (.lst [])) u4 (.lst []) u4 = some (.lst []) := up_same
  generalize up (up μ u3 (.lst [])) u4 (.lst []) = μ1 at l0 m3 m4
  dsimp only
  refine r_var rfl ?_
  refine ⟨fun i ρ μ' => ∃ (u4 : Addr) (ps : List (List Op)) (last : List Op) (sp : Int) (a6 a7 : Option SD), ρ = [some (.tup (os.map encO)), some (.ptp (l.map siD)), some (.int most), some (.ref u3), some (.ref u4), some (.int sp), a6, a7] ∧ Le μ μ' ∧ μ u4 = none ∧ u4 ≠ u3 ∧ μ' u3 = some (.lst (ps.map opsD)) ∧ μ' u4 = some (.lst (last.map encO)) ∧ ps.length ≤ i ∧ last.length ≤ i ∧ (∀ o ∈ os.take i, prO (pr l) o ≤ most) ∧ batL (pr l) most ps last sp (os.drop i) = batL (pr l) most [] [] 0 os,
    ⟨u4, [], [], 0, none, none, rfl, l0, c4, n43, m3, m4, Nat.le_refl _, Nat.le_refl _, by simp, rfl⟩, fun _ _ _ _ _ => rfl, ?_, ?_⟩
  · rintro i d ρ μ2 hd ⟨u4, ps, last, sp, a6, a7, rfl, l2, c4, n43, m3, m4, pl, ll, bb, eb⟩
    rw [List.getElem?_map] at hd
    cases eo : os[i]? with
    | none => rw [eo] at hd; cases hd
    | some op =>
    rw [eo] at hd; cases hd
    obtain ⟨hi, eg⟩ := List.getElem?_eq_some_iff.mp eo
    have dr : os.drop i = op :: os.drop (i + 1) := by rw [← eg]; exact List.drop_eq_getElem_cons hi
    rw [dr, batL] at eb
    obtain ⟨w, rest, ew, hw⟩ := encO_at op
    have tk : os.take (i + 1) = os.take i ++ [op] := by rw [List.take_succ, eo]; rfl
    dsimp only
    -- the price
    have price : ∀ (R : SD → Mu → Prop), (∀ μ3, Le μ2 μ3 → R (.int (prO (pr l) op)) μ3) → dIf (dTest (dOp (dEq false) (dOp dIx (dVar 6) (dC (.int 0))) (dC (.str "move")))) (dCall sp_price_of [] (dCons (dVar 1) (dCons (dOp dIx (dVar 6) (dC (.int 1))) dNil))) (dC (.int 0)) [some (.tup (os.map encO)), some (.ptp (l.map siD)), some (.int most), some (.ref u3), some (.ref u4), some (.int sp), some (encO op), a7] μ2 R := fun R rr => by
      rw [ew]
      refine r_var rfl ?_
      refine ix_tup (d := .str w) (atI_nat (j := 0) rfl) ?_
      refine eq_ss ?_
      rw [Bool.false_bne, hw]
      cases hm : mvB op with
      | true =>
        refine ifT rfl ?_
        refine r_var rfl ?_
        refine r_var rfl ?_
        refine ix_tup (d := .str op.key) (atI_nat (j := 1) rfl) ?_
        refine ⟨l, op.key, rfl, ln, fun μ3 l3 => ?_⟩
        have := rr μ3 l3
        unfold prO at this
        rw [if_pos hm] at this
        exact this
      | false =>
        refine ifF rfl ?_
        have := rr μ2 (Le.refl _)
        unfold prO at this
        rw [if_neg (by rw [hm]; simp)] at this
        exact this
    refine price _ fun μ3 l3 => ?_
    have m3' := l3 _ _ m3
    have m4' := l3 _ _ m4
    have l03 := l2.trans l3
    dsimp only
    refine r_var rfl ?_
    refine r_var rfl ?_
    refine i_gt ?_
    by_cases hpo : most < prO (pr l) op
    · refine ifT (decide_eq_true hpo) ?_
      rw [ew]
      refine r_var rfl ?_
      refine ix_tup (d := .str op.key) (atI_nat (j := 1) rfl) ?_
      exact qE op (dear_at eo hpo bb) _ l03
    refine ifF (decide_eq_false hpo) ?_
    simp only [dNext]
    have bb1 : ∀ o ∈ os.take (i + 1), prO (pr l) o ≤ most := fun o ho => by
      rw [tk] at ho
      rcases List.mem_append.mp ho with ho | ho
      · exact bb o ho
      · rw [List.mem_singleton] at ho; subst ho; omega
    refine r_var rfl ?_
    refine r_var rfl ?_
    refine i_add ?_
    refine r_var rfl ?_
    refine i_gt ?_
    by_cases h : most < sp + prO (pr l) op
    · rw [if_pos h] at eb
      refine ifT (decide_eq_true h) ?_
      refine r_var rfl ?_
      refine ⟨isSome_ref m3', ?_⟩
      refine r_var rfl ?_
      refine dr_tupleR m4' ?_
      refine dm_append m3' (lt_line (m := 500) (by simp; omega) (by omega)) ?_
      have l4 : Le μ (up μ3 u3 (.lst (ps.map opsD ++ [.tup (last.map encO)]))) := l03.up hu3
      have m34 : up μ3 u3 (.lst (ps.map opsD ++ [.tup (last.map encO)])) u3 = some (.lst ((ps ++ [last]).map opsD)) := by rw [up_same, List.map_append]; rfl
      generalize up μ3 u3 (.lst (ps.map opsD ++ [.tup (last.map encO)])) = μ4 at l4 m34
      dsimp only
      refine ⟨Nat.zero_le _, fun u5 hu5 => ?_⟩
      have n53 : u5 ≠ u3 := fun z => by rw [z, m34] at hu5; cases hu5
      have c5 : μ u5 = none := l4.none hu5
      have l5 : Le μ (up μ4 u5 (.lst [])) := l4.up c5
      have m35 : up μ4 u5 (.lst []) u3 = some (.lst ((ps ++ [last]).map opsD)) := by rw [up_ne (Ne.symm n53)]; exact m34
      have m5 : up μ4 u5 (.lst []) u5 = some (.lst []) := up_same
      generalize up μ4 u5 (.lst []) = μ5 at l5 m35 m5
      dsimp only
      refine r_var rfl ?_
      refine ⟨isSome_ref m5, ?_⟩
      refine r_var rfl ?_
      refine dm_append m5 (lt_line (m := 500) (by simp) (by omega)) ?_
      dsimp only
      refine ⟨_, rfl, ?_⟩
      refine r_var rfl ?_
      exact ⟨u5, ps ++ [last], [op], _, _, _, rfl, l5.up c5, c5, n53, by rw [up_ne (Ne.symm n53)]; exact m35, up_same, by rw [List.length_append]; simp; omega, by simp, bb1, eb⟩
    · rw [if_neg h] at eb
      refine ifF (decide_eq_false h) ?_
      simp only [dNext]
      refine r_var rfl ?_
      refine ⟨isSome_ref m4', ?_⟩
      refine r_var rfl ?_
      refine dm_append m4' (lt_line (m := 500) (by simp; omega) (by omega)) ?_
      dsimp only
      refine ⟨_, rfl, ?_⟩
      refine r_var rfl ?_
      exact ⟨u4, ps, last ++ [op], _, _, _, rfl, l03.up c4, c4, n43, by rw [up_ne (Ne.symm n43)]; exact m3', by rw [up_same, List.map_append]; rfl, by omega, by rw [List.length_append]; simp; omega, bb1, eb⟩
  · rintro ρ μ2 ⟨u4, ps, last, sp, a6, a7, rfl, l2, c4, n43, m3, m4, pl, ll, bb, eb⟩
    rw [List.length_map] at pl ll bb eb
    rw [List.drop_length, batL] at eb
    have q := q (dear_none fun o ho => bb o (by rw [List.take_length]; exact ho))
    dsimp only
    refine r_var rfl ?_
    refine ⟨Nat.zero_le _, ?_⟩
    refine l0_refB m4 ?_
    cases last with
    | nil =>
      rw [if_pos rfl] at eb
      refine ifF rfl ?_
      refine r_var rfl ?_
      refine dr_tupleR m3 ?_
      rw [eb]
      exact q μ2 l2
    | cons op r =>
      rw [if_neg (by simp)] at eb
      refine ifT rfl ?_
      refine r_var rfl ?_
      refine r_var rfl ?_
      refine dr_tupleR m4 ?_
      refine ⟨(by show 1 ≤ sizeLine; decide), ?_⟩
      refine rl_add m3 (le_line (m := 500) (by show (ps.map opsD).length + 1 ≤ 500; simp; omega) (by omega)) ?_
      refine dr_tupleL ?_
      have := q μ2 l2
      rw [← eb, List.map_append] at this
      exact this
end LK
namespace LK
open PySem PySem.Spec PyProof.Rows L2 DS MA
def wsm (c : Op → Int) (p : List Op) : Int := (p.map c).sum
theorem wsm_snoc {c : Op → Int} {p : List Op} {o : Op} : wsm c (p ++ [o]) = wsm c p + c o := by unfold wsm; simp
/-- none could have been longer -/
def Chn (c : Op → Int) (most : Int) : List (List Op) → Prop
  | p :: q :: r => (match q with
    | o :: _ => most < wsm c p + c o
    | [] => True) ∧ Chn c most (q :: r)
  | _ => True
section
variable {c : Op → Int} {most : Int}
theorem Chn.more : ∀ {ps : List (List Op)} {a : List Op} {o : Op}, a ≠ [] → Chn c most (ps ++ [a]) → Chn c most (ps ++ [a ++ [o]])
  | [], a, o, _, _ => trivial
  | [p], a, o, h, k => by
    cases a with
    | nil => exact (h rfl).elim
    | cons x r => exact ⟨k.1, trivial⟩
  | p :: q :: r, a, o, h, k => ⟨k.1, Chn.more (ps := q :: r) h k.2⟩
theorem Chn.cut : ∀ {ps : List (List Op)} {a : List Op} {o : Op}, most < wsm c a + c o → Chn c most (ps ++ [a]) → Chn c most (ps ++ [a] ++ [[o]])
  | [], a, o, h, _ => ⟨h, trivial⟩
  | [p], a, o, h, k => ⟨k.1, h, trivial⟩
  | p :: q :: r, a, o, h, k => ⟨k.1, Chn.cut (ps := q :: r) h k.2⟩
end
theorem bat_parts {w : Str → Int} {most : Int} : ∀ (os : List Op) (ps : List (List Op)) (last : List Op) (sp : Int), sp = wsm (prO w) last → sp ≤ most → (∀ o ∈ os, prO w o ≤ most) → (∀ p ∈ ps, p ≠ [] ∧ wsm (prO w) p ≤ most) →
    ((last = [] ∧ ps = []) ∨ (last ≠ [] ∧ Chn (prO w) most (ps ++ [last]))) →
    (batL w most ps last sp os).flatten = ps.flatten ++ last ++ os ∧ (∀ p ∈ batL w most ps last sp os, p ≠ [] ∧ wsm (prO w) p ≤ most) ∧ Chn (prO w) most (batL w most ps last sp os)
  | [], ps, last, sp, e, le, _, hp, h => by
    unfold batL
    rcases h with ⟨rfl, rfl⟩ | ⟨hl, hc⟩
    · simp [Chn]
    · rw [if_neg hl]
      refine ⟨by simp, fun p m => ?_, hc⟩
      rcases List.mem_append.mp m with m | m
      · exact hp p m
      · rw [List.mem_singleton] at m; subst m; exact ⟨hl, by omega⟩
  | o :: os, ps, last, sp, e, le, hos, hp, h => by
    unfold batL
    have ho := hos o (List.mem_cons_self ..)
    split
    · rename_i cut
      rcases h with ⟨rfl, rfl⟩ | ⟨hl, hc⟩
      · simp [wsm] at e; omega
      · have := bat_parts os (ps ++ [last]) [o] (0 + prO w o) (by simp [wsm]) (by omega) (fun x hx => hos x (List.mem_cons_of_mem _ hx)) (fun p m => by
          rcases List.mem_append.mp m with m | m
          · exact hp p m
          · rw [List.mem_singleton] at m; subst m; exact ⟨hl, by omega⟩) (.inr ⟨by simp, hc.cut (by omega)⟩)
        refine ⟨?_, this.2⟩
        rw [this.1]; simp
    · rename_i cut
      have := bat_parts os ps (last ++ [o]) (sp + prO w o) (by rw [wsm_snoc, e]) (by omega) (fun x hx => hos x (List.mem_cons_of_mem _ hx)) hp (.inr ⟨by simp, by
        rcases h with ⟨rfl, rfl⟩ | ⟨hl, hc⟩
        · trivial
        · exact hc.more hl⟩)
      refine ⟨?_, this.2⟩
      rw [this.1]; simp
def pfx (ws : List Int) (i : Nat) : Int := (ws.take i).sum
theorem pfx_succ {ws : List Int} {i : Nat} {x : Int} (e : ws[i]? = some x) : pfx ws (i + 1) = pfx ws i + x := by
  unfold pfx
  rw [List.take_succ, e]; simp
theorem pfx_mono {ws : List Int} (h : ∀ x ∈ ws, 0 ≤ x) : ∀ {i j : Nat}, i ≤ j → pfx ws i ≤ pfx ws j
  | i, 0, hj => by rw [Nat.le_zero.mp hj]; exact Int.le_refl _
  | i, j + 1, hj => by
    rcases Nat.lt_or_ge i (j + 1) with g | g
    · have := pfx_mono h (i := i) (j := j) (by omega)
      cases e : ws[j]? with
      | none =>
        have hl : ws.length ≤ j := List.getElem?_eq_none_iff.mp e
        unfold pfx at this ⊢
        rw [List.take_of_length_le hl] at this
        rw [List.take_of_length_le (show ws.length ≤ j + 1 by omega)]; exact this
      | some x =>
        have := h x (List.mem_of_getElem? e)
        rw [pfx_succ e]; omega
    · rw [show i = j + 1 from by omega]; exact Int.le_refl _
/-- each the fewest: by what is cut off last -/
structure DPok (ws : List Int) (most : Int) (bs : List Nat) : Prop where
  zero : bs[0]? = some 0
  ex : ∀ i b, 1 ≤ i → bs[i]? = some b → ∃ j b', j < i ∧ bs[j]? = some b' ∧ pfx ws i - pfx ws j ≤ most ∧ b = b' + 1
  le : ∀ i b j b', 1 ≤ i → bs[i]? = some b → j < i → bs[j]? = some b' → pfx ws i - pfx ws j ≤ most → b ≤ b' + 1
theorem bat_fewest {w : Str → Int} {most : Int} {all : List Op} {bs : List Nat} (D : DPok (all.map (prO w)) most bs) (hn : bs.length = all.length + 1) (pos : ∀ o ∈ all, 0 ≤ prO w o ∧ prO w o ≤ most) (h0 : 0 ≤ most) :
    ∀ (os pre : List Op) (ps : List (List Op)) (last : List Op) (sp : Int) (s : Nat), all = pre ++ os → s ≤ pre.length → sp = pfx (all.map (prO w)) pre.length - pfx (all.map (prO w)) s → sp ≤ most → (last = [] ↔ s = pre.length) →
      bs[s]? = some ps.length → (∀ j b, s < j → j ≤ pre.length → bs[j]? = some b → b = ps.length + 1) → (∀ i j b, s < i → i ≤ all.length → j < i → pfx (all.map (prO w)) i - pfx (all.map (prO w)) j ≤ most → bs[j]? = some b → ps.length ≤ b) →
      bs[all.length]? = some (batL w most ps last sp os).length
  | [], pre, ps, last, sp, s, e, hs, esp, le, hl, i1, i2, i3 => by
    rw [List.append_nil] at e
    subst e
    unfold batL
    by_cases h : last = []
    · rw [if_pos h, ← hl.mp h]; exact i1
    · rw [if_neg h]
      have hlt : s < all.length := by
        rcases Nat.lt_or_ge s all.length with g | g
        · exact g
        · exact (h (hl.mpr (by omega))).elim
      obtain ⟨b, eb⟩ : ∃ b, bs[all.length]? = some b := ⟨_, List.getElem?_eq_getElem (by omega)⟩
      rw [eb, i2 _ _ hlt (Nat.le_refl _) eb, List.length_append]; rfl
  | o :: os, pre, ps, last, sp, s, e, hs, esp, le, hl, i1, i2, i3 => by
    have en : (all.map (prO w))[pre.length]? = some (prO w o) := by
      rw [e, List.getElem?_map, List.getElem?_append_right (Nat.le_refl _), Nat.sub_self]; rfl
    have p1 := pfx_succ en
    have po := pos o (by rw [e]; simp)
    have nn : ∀ x ∈ all.map (prO w), 0 ≤ x := fun x hx => by
      obtain ⟨y, hy, rfl⟩ := List.mem_map.mp hx
      exact (pos y hy).1
    have hlen : pre.length + 1 ≤ all.length := by rw [e]; simp
    obtain ⟨b, eb⟩ : ∃ b, bs[pre.length + 1]? = some b := ⟨_, List.getElem?_eq_getElem (by omega)⟩
    unfold batL
    split
    · rename_i cut
      have hlt : s < pre.length := by
        rcases Nat.lt_or_ge s pre.length with g | g
        · exact g
        · have : s = pre.length := by omega
          subst this; omega
      obtain ⟨b0, eb0⟩ : ∃ b, bs[pre.length]? = some b := ⟨_, List.getElem?_eq_getElem (by omega)⟩
      have hb0 := i2 _ _ hlt (Nat.le_refl _) eb0
      have j3 : ∀ i j b, pre.length < i → i ≤ all.length → j < i → pfx (all.map (prO w)) i - pfx (all.map (prO w)) j ≤ most → bs[j]? = some b → ps.length + 1 ≤ b := fun i j b hi hi2 hj hf ej => by
        rcases Nat.lt_or_ge s j with g | g
        · rcases Nat.lt_or_ge pre.length j with g2 | g2
          · obtain ⟨j', b', h1, h2, h3, h4⟩ := D.ex j b (by omega) ej
            have := i3 j j' b' g (by omega) h1 h3 h2
            omega
          · have := i2 j b g g2 ej; omega
        · have a1 := pfx_mono nn (i := j) (j := s) g
          have a2 := pfx_mono nn (i := pre.length + 1) (j := i) (by omega)
          omega
      refine bat_fewest D hn pos h0 os (pre ++ [o]) (ps ++ [last]) [o] (0 + prO w o) pre.length (by rw [e]; simp) (by simp) (by rw [List.length_append]; show _ = pfx _ (pre.length + 1) - _; omega) (by omega) (by simp) (by rw [eb0, hb0, List.length_append]; rfl) (fun j b h1 h2 ej => ?_) fun i j b h1 h2 h3 h4 h5 => ?_
      · rw [List.length_append] at h2 ⊢
        have : j = pre.length + 1 := by simp at h2; omega
        subst this
        have a := D.le _ _ _ _ (by omega) ej (Nat.lt_succ_self _) eb0 (by omega)
        obtain ⟨j', b', q1, q2, q3, q4⟩ := D.ex _ b (by omega) ej
        have := j3 _ j' b' (Nat.lt_succ_self _) hlen q1 q3 q2
        simp; omega
      · rw [List.length_append]
        exact j3 i j b h1 h2 h3 h4 h5
    · rename_i cut
      refine bat_fewest D hn pos h0 os (pre ++ [o]) ps (last ++ [o]) (sp + prO w o) s (by rw [e]; simp) (by rw [List.length_append]; omega) (by rw [List.length_append]; show _ = pfx _ (pre.length + 1) - _; omega) (by omega) (by simp; omega) i1 (fun j b h1 h2 ej => ?_) i3
      rw [List.length_append] at h2
      rcases Nat.lt_or_ge pre.length j with g | g
      · have : j = pre.length + 1 := by simp at h2; omega
        subst this
        have a := D.le _ _ _ _ (by omega) ej h1 i1 (by omega)
        obtain ⟨j', b', q1, q2, q3, q4⟩ := D.ex _ b (by omega) ej
        have := i3 _ j' b' h1 hlen q1 q3 q2
        omega
      · exact i2 j b h1 g ej
end LK
namespace LK
open PySem PySem.Spec PyProof.Rows L2 DS MA
theorem lc_selA {α : Type} {l : List α} {f g : α → SD} (P : α → Bool) {ρ : Rho} {μ : Mu} {gt : DTG} {tt : DTT} {te : DTE} {vs : List Nat} {ok : Mu → Prop} {R : List SD → Mu → Prop} (hok : ∀ μ', Le μ μ' → ok μ') (hl : l.length ≤ 1000000)
    (el : ∀ x ∈ l, ∀ μ', Le μ μ' → ∀ (A : SD → Mu → Prop) (B : Mu → Prop), (P x = true → ∀ μ2, Le μ' μ2 → A (g x) μ2) → (P x = false → ∀ μ2, Le μ' μ2 → B μ2) → gt (f x) (wipeR ρ vs) μ' fun ρ2 μ2 => tt ρ2 μ2 fun b μ3 => if b = true then te ρ2 μ3 A else B μ3)
    (q : ∀ μ', Le μ μ' → R ((l.filter P).map g) μ') :
    (l.map f).length ≤ sizeLine ∧ ∃ W : Nat → List SD → Mu → Prop, W 0 [] μ ∧ (∀ i acc μ', i ≤ (l.map f).length → W i acc μ' → ok μ') ∧ (∀ i d acc μ', (l.map f)[i]? = some d → W i acc μ' → gt d (wipeR ρ vs) μ' fun ρ2 μ2 => tt ρ2 μ2 fun b μ3 => if b = true then te ρ2 μ3 fun y μ4 => W (i+1) (acc ++ [y]) μ4 else W (i+1) acc μ3) ∧ ∀ acc μ', W (l.map f).length acc μ' → R acc μ' := by
  refine ⟨le_line (m := 1000000) (by rw [List.length_map]; exact hl) (by omega), fun i acc μ' => acc = ((l.take i).filter P).map g ∧ Le μ μ', ⟨rfl, Le.refl _⟩, fun i acc μ' _ h => hok _ h.2, ?_, ?_⟩
  · rintro i d acc μ' hd ⟨rfl, lm⟩
    rw [List.getElem?_map] at hd
    cases e : l[i]? with
    | none => rw [e] at hd; cases hd
    | some x =>
      rw [e] at hd; cases hd
      refine el x (List.mem_of_getElem? e) μ' lm _ _ (fun hp μ2 l2 => ⟨?_, lm.trans l2⟩) fun hn μ2 l2 => ⟨?_, lm.trans l2⟩
      · rw [List.take_succ, e, List.filter_append]; simp [hp]
      · rw [List.take_succ, e, List.filter_append]; simp [hn]
  · rintro acc μ' ⟨rfl, lm⟩
    rw [List.length_map, List.take_length]; exact q μ' lm
def sp__law_price : DSp := fun ds μ Q _ => ∃ (l : List (Str × Int)) (k : Str), ds = [.ptp (l.map siD), .str k] ∧ (l.map (·.1)).Nodup ∧ ∀ μ', Le μ μ' → Q (.int (pr l k)) μ'
theorem len__law_price : ∀ ds μ Q E, sp__law_price ds μ Q E → ds.length = 2 := by rintro ds μ Q E ⟨l, k, rfl, _⟩; rfl
def t__law_price : DTS := (dRet (dDGet2 (dCB drDictT (dCons (dVar 0) dNil)) (dVar 1) (dC (.int 1))))
theorem read__law_price : ∀ ds μ Q E, sp__law_price ds μ Q E → t__law_price { nx := fun _ μ' => Q .non μ', rt := Q } (begin_ ["_law_prices", "_law_key"] ds) μ := by
  rintro ds μ Q E ⟨l, k, rfl, nd, q⟩
  unfold t__law_price
  refine r_var rfl ?_
  refine dictT_ok nd fun p hp => ?_
  have m : dicD (up μ p (.dic (l.map fun p => ((.inr p.1 : Key), SD.int p.2)))) (.ref p) = some (l.map fun p => ((.inr p.1 : Key), SD.int p.2)) := dicD_ref up_same
  refine ⟨by rw [m]; rfl, ?_⟩
  refine r_var rfl ?_
  exact get_pr nd m (q _ ((Le.refl μ).up hp))
theorem tupP_okC {xs : List SD} {μ : Mu} {Q : SD → Mu → Prop} (q : Q (.ptp xs) μ) : drTupleP [.lst xs] μ Q := ⟨rfl, q⟩
def sp__law_costs : DSp := fun ds μ Q _ => ∃ (h : Addr) (T : Nat) (names : List Str), ds = [.ref h, .lst (sts names)] ∧ HandAt μ h T ∧ T ≤ 800000000 ∧ names.length ≤ 1000 ∧ names.Nodup ∧ ∀ (L : List (Str × Int)) μ', (L.map (·.1)).Nodup → (∀ p ∈ L, 1 ≤ p.2 ∧ p.2 ≤ 1000 ∧ p.1 ∈ names) → L.length ≤ names.length → HandAt μ' h (T + 1 + 2 * names.length) → LeX h μ μ' → Q (.ptp (L.map siD)) μ'
theorem len__law_costs : ∀ ds μ Q E, sp__law_costs ds μ Q E → ds.length = 2 := by rintro ds μ Q E ⟨h, T, names, rfl, _⟩; rfl
def t__law_costs : DTS := (dSeq (dSet (dCall sp__law_of [] (dCons (dVar 0) (dCons (dLst (dCons (dC (.int 1)) (dCons (dC (.int 2)) (dCons (dC (.int 5)) (dCons (dC (.int 9)) (dCons (dC (.int 1000)) dNil)))))) dNil))) 2)
    (dRet (dCB drTupleP (dCons (dCB drSortedSI (dCons (dLcS (jSeq (dVar 1)) (hName 3) (dTest (dOp dGt (dCall sp__law_take [] (dCons (dVar 0) (dCons (dC (.int 3)) dNil))) (dC (.int 0)))) (dTup (dCons (dVar 3) (dCons (dOp dAdd (dC (.int 1)) (dCall sp__law_take [] (dCons (dVar 0) (dCons (dVar 2) dNil)))) dNil))) [3]) dNil)) dNil))))
theorem sortedSIC {M : List (Str × Int)} {μ : Mu} {Q : SD → Mu → Prop} (q : Q (.lst ((srtP M).map siD)) μ) : drSortedSI [.lst (M.map siD)] μ Q := by
  unfold drSortedSI
  simp only [seqD, prsD_map]
  exact ⟨rfl, q⟩
theorem read__law_costs : ∀ ds μ Q E, sp__law_costs ds μ Q E → t__law_costs { nx := fun _ μ' => Q .non μ', rt := Q } (begin_ ["_law_hand_here", "_law_names_here", "_law_top", "_law_key"] ds) μ := by
  rintro ds μ Q E ⟨h, T, names, rfl, H, hT, nl, nd, q⟩
  unfold t__law_costs dLcS dLc
  refine r_var rfl ?_
  refine ⟨(by show 5 ≤ sizeLine; decide), ?_⟩
  refine ⟨h, _, _, T, rfl, .inl rfl, by simp, by simp, by omega, H, fun i d μ1 hd H1 l1 => ?_⟩
  have hn : ∃ n : Int, d = .int n ∧ 1 ≤ n ∧ n ≤ 1000 := by
    have := List.mem_of_getElem? hd
    simp at this
    rcases this with rfl | rfl | rfl | rfl | rfl
    · exact ⟨1, rfl, by decide, by decide⟩
    · exact ⟨2, rfl, by decide, by decide⟩
    · exact ⟨5, rfl, by decide, by decide⟩
    · exact ⟨9, rfl, by decide, by decide⟩
    · exact ⟨1000, rfl, by decide, by decide⟩
  obtain ⟨n, rfl, n1, n2⟩ := hn
  dsimp only
  refine r_var rfl ?_
  refine ⟨le_line (m := 1000) (by simp [sts]; exact nl) (by omega), fun i acc μ' => ∃ M : List (Str × Int), acc = M.map siD ∧ (M.map (·.1)).Sublist (names.take i) ∧ (∀ p ∈ M, 1 ≤ p.2 ∧ p.2 ≤ 1000) ∧ HandAt μ' h (T + 1 + 2 * i) ∧ LeX h μ μ', ⟨[], rfl, by simp, (fun _ h => by cases h), H1, l1⟩, fun _ _ _ _ _ => rfl, ?_, ?_⟩
  · rintro i d acc μ2 hd2 ⟨M, rfl, sb, vs, H2, l2⟩
    rw [sts, List.getElem?_map] at hd2
    cases ek : names[i]? with
    | none => rw [ek] at hd2; cases hd2
    | some k =>
    rw [ek] at hd2; cases hd2
    have hi := (List.getElem?_eq_some_iff.mp ek).1
    have tk : names.take (i + 1) = names.take i ++ [k] := take_snoc ek
    refine r_var rfl ?_
    refine ⟨h, 3, _, rfl, by decide, by decide, by omega, H2, fun j μ3 j0 j1 H3 l3 => ?_⟩
    refine i_gt ?_
    by_cases hj : 0 < j
    · refine ifT (decide_eq_true hj) ?_
      refine r_var rfl ?_
      refine r_var rfl ?_
      refine r_var rfl ?_
      refine ⟨h, n, _, rfl, by omega, by omega, by omega, H3, fun v μ4 v0 v1 H4 l4 => ?_⟩
      refine i_add ?_
      refine ⟨(by show 2 ≤ sizeLine; decide), ?_⟩
      refine ⟨M ++ [(k, 1 + v)], by rw [List.map_append]; rfl, ?_, fun p hp => ?_, H4.mono (by omega), (l2.trans l3).trans l4⟩
      · rw [tk, List.map_append]; exact sb.append (List.Sublist.refl _)
      · rcases List.mem_append.mp hp with hp | hp
        · exact vs p hp
        · rw [List.mem_singleton.mp hp]; dsimp only; omega
    · refine ifF (decide_eq_false hj) ?_
      exact ⟨M, rfl, by rw [tk]; exact sb.trans (List.sublist_append_left _ _), vs, H3.mono (by omega), l2.trans l3⟩
  · rintro acc μ2 ⟨M, rfl, sb, vs, H2, l2⟩
    have el : (sts names).length = names.length := by simp [sts]
    rw [el] at H2 sb
    rw [List.take_length] at sb
    refine sortedSIC ?_
    refine tupP_okC ?_
    have pm := srtP_perm M
    refine q (srtP M) μ2 ((pm.map (·.1)).nodup_iff.mpr (nd.sublist sb)) (fun p hp => ?_) ?_ H2 l2
    · have hm := pm.mem_iff.mp hp
      exact ⟨(vs p hm).1, (vs p hm).2, sb.subset (List.mem_map_of_mem hm)⟩
    · rw [pm.length_eq]
      have := sb.length_le
      rw [List.length_map] at this; exact this
def sp__law_weights : DSp := fun ds μ Q _ => ∃ (os : List Op) (l : List (Str × Int)), ds = [.tup (os.map encO), .ptp (l.map siD)] ∧ (l.map (·.1)).Nodup ∧ os.length ≤ 4000 ∧ ∀ μ', Le μ μ' → Q (.lst ((os.map (prO (pr l))).map SD.int)) μ'
theorem len__law_weights : ∀ ds μ Q E, sp__law_weights ds μ Q E → ds.length = 2 := by rintro ds μ Q E ⟨os, l, rfl, _⟩; rfl
def t__law_weights : DTS := (dRet (dLcS (jSeq (dVar 0)) (hName 2) dYes (dIf (dTest (dOp (dEq false) (dOp dIx (dVar 2) (dC (.int 0))) (dC (.str "move")))) (dCall sp__law_price [] (dCons (dVar 1) (dCons (dOp dIx (dVar 2) (dC (.int 1))) dNil))) (dC (.int 0))) [2]))
theorem read__law_weights : ∀ ds μ Q E, sp__law_weights ds μ Q E → t__law_weights { nx := fun _ μ' => Q .non μ', rt := Q } (begin_ ["_law_steps_here", "_law_prices", "_law_step"] ds) μ := by
  rintro ds μ Q E ⟨os, l, rfl, nd, hl, q⟩
  unfold t__law_weights dLcS dLc
  refine r_var rfl ?_
  refine lc_selA (l := os) (f := encO) (g := fun o => .int (prO (pr l) o)) (fun _ => true) (fun _ _ => rfl) (by omega) (fun o ho μ' lm A B yes no => ?_) fun μ2 l2 => ?_
  · obtain ⟨z, rest, e, ez⟩ := encO_at o
    rw [e]
    refine ifT rfl ?_
    refine r_var rfl ?_
    refine ix_tup (d := .str z) (atI_nat (j := 0) rfl) ?_
    refine eq_ss ?_
    rw [Bool.false_bne, ez]
    cases hm : mvB o with
    | true =>
      refine ifT rfl ?_
      refine r_var rfl ?_
      refine r_var rfl ?_
      refine ix_tup (d := .str o.key) (atI_nat (j := 1) rfl) ?_
      refine ⟨l, o.key, rfl, nd, fun μ3 l3 => ?_⟩
      have := yes rfl μ3 l3
      unfold prO at this
      rw [if_pos hm] at this
      exact this
    | false =>
      refine ifF rfl ?_
      have := yes rfl μ' (Le.refl _)
      unfold prO at this
      rw [if_neg (by rw [hm]; simp)] at this
      exact this
  · rw [List.filter_eq_self.mpr (fun _ _ => rfl)]
    have := q μ2 l2
    rw [List.map_map] at this
    exact this
def sp__law_steps : DSp := fun ds μ Q _ => ∃ (h : Addr) (T : Nat) (names : List Str) (many : Nat), ds = [.ref h, .lst (sts names), .int (many : Nat)] ∧ names ≠ [] ∧ names.length ≤ 1000 ∧ many ≤ 400 ∧ HandAt μ h T ∧ T ≤ 800000000 ∧
  ∀ (os : List Op) μ', os.length = many → (∀ o ∈ os, OpAll (fun k => k ∈ names) o) → HandAt μ' h (T + 4 * many) → LeX h μ μ' → Q (.tup (os.map encO)) μ'
theorem len__law_steps : ∀ ds μ Q E, sp__law_steps ds μ Q E → ds.length = 3 := by rintro ds μ Q E ⟨h, T, names, many, rfl, _⟩; rfl
def t__law_steps : DTS := (dSeq (dSet (dLstM dNil) 3)
    (dSeq (dFor (jRng1 (dCons (dVar 2) dNil)) (hName 4) (dSeq (dPar3 5 6 7 (dCons (dCall sp__law_of [] (dCons (dVar 0) (dCons (dVar 1) dNil))) (dCons (dCall sp__law_of [] (dCons (dVar 0) (dCons (dVar 1) dNil))) (dCons (dCall sp__law_of [] (dCons (dVar 0) (dCons (dOp dAdd (dVar 1) (dLst (dCons (dC .non) dNil))) dNil))) dNil))))
    (dSeq (dSet (dOp dMul (dLst (dCons (dTup (dCons (dC (.str "move")) (dCons (dVar 5) (dCons (dVar 6) (dCons (dVar 7) dNil))))) dNil)) (dC (.int 3))) 8)
    (dDrop (dLM dmAppend (dVar 3) (dCons (dCall sp__law_of [] (dCons (dVar 0) (dCons (dOp dAdd (dVar 8) (dLst (dCons (dTup (dCons (dC (.str "create")) (dCons (dVar 5) (dCons (dVar 6) (dCons (dVar 7) dNil))))) (dCons (dTup (dCons (dC (.str "remove")) (dCons (dVar 5) dNil))) dNil)))) dNil))) dNil))))))
    (dRet (dCB drTuple (dCons (dVar 3) dNil)))))
theorem read__law_steps : ∀ ds μ Q E, sp__law_steps ds μ Q E → t__law_steps { nx := fun _ μ' => Q .non μ', rt := Q } (begin_ ["_law_hand_here", "_law_names_here", "_law_many", "_law_found", "_law_turn", "_law_key", "_law_parent", "_law_place", "_law_some"] ds) μ := by
  rintro ds μ Q E ⟨h, T, names, many, rfl, ne, nl, hm, H, hT, q⟩
  unfold t__law_steps dFor
  have sne : sts names ≠ [] := fun z => ne (by simpa [sts] using z)
  have sl : (sts names).length = names.length := by simp [sts]
  refine ⟨Nat.zero_le _, fun p hp => ?_⟩
  have hph := H.ne hp
  dsimp only
  refine r_var rfl ?_
  dsimp only
  refine ⟨by omega, ?_⟩
  rw [Int.toNat_natCast]
  refine ⟨fun i ρ μ' => ∃ (os : List Op) (a4 a5 a6 a7 a8 : Option SD), ρ = [some (.ref h), some (.lst (sts names)), some (.int (many : Nat)), some (.ref p), a4, a5, a6, a7, a8] ∧ μ' p = some (.lst (os.map encO)) ∧ os.length = i ∧ (∀ o ∈ os, OpAll (fun k => k ∈ names) o) ∧ HandAt μ' h (T + 4 * i) ∧ LeX h μ μ',
    ⟨[], _, _, _, _, _, rfl, up_same, rfl, by simp, H.up hph, (LeX.refl h μ).up hp⟩, fun _ _ _ _ _ => trivial, ?_, ?_⟩
  · rintro i d ρ μ1 hd ⟨os, a4, a5, a6, a7, a8, rfl, m1, el, hos, H1, l1⟩
    have hi : i < many := by
      have := (List.getElem?_eq_some_iff.mp hd).1
      simpa using this
    dsimp only
    refine r_var rfl ?_
    refine r_var rfl ?_
    refine ⟨h, _, _, _, rfl, .inl rfl, sne, by rw [sl]; omega, by omega, H1, fun i1 d1 μ2 e1 H2 l2 => ?_⟩
    refine r_var rfl ?_
    refine r_var rfl ?_
    refine ⟨h, _, _, _, rfl, .inl rfl, sne, by rw [sl]; omega, by omega, H2, fun i2 d2 μ3 e2 H3 l3 => ?_⟩
    refine r_var rfl ?_
    refine r_var rfl ?_
    refine ⟨(by show 1 ≤ sizeLine; decide), ?_⟩
    refine l_add (le_line (m := 1001) (by rw [sl]; simp; omega) (by omega)) ?_
    refine ⟨h, _, _, _, rfl, .inl rfl, by simp, by rw [List.length_append, sl]; simp; omega, by omega, H3, fun i3 d3 μ4 e3 H4 l4 => ?_⟩
    obtain ⟨k1, hk1, rfl⟩ : ∃ k ∈ names, d1 = .str k := by
      have := List.mem_of_getElem? e1
      obtain ⟨k, hk, rfl⟩ := List.mem_map.mp this
      exact ⟨k, hk, rfl⟩
    obtain ⟨k2, hk2, rfl⟩ : ∃ k ∈ names, d2 = .str k := by
      have := List.mem_of_getElem? e2
      obtain ⟨k, hk, rfl⟩ := List.mem_map.mp this
      exact ⟨k, hk, rfl⟩
    obtain ⟨b, hb, rfl⟩ : ∃ b : Option Str, (∀ y, b = some y → y ∈ names) ∧ d3 = optS b := by
      have := List.mem_of_getElem? e3
      rcases List.mem_append.mp this with this | this
      · obtain ⟨k, hk, rfl⟩ := List.mem_map.mp this
        exact ⟨some k, fun y z => (by cases z; exact hk), rfl⟩
      · rw [List.mem_singleton] at this
        exact ⟨none, fun y z => (by cases z), this⟩
    have m2 := l2 p _ (Ne.symm hph) m1
    have m3 := l3 p _ (Ne.symm hph) m2
    have m4 := l4 p _ (Ne.symm hph) m3
    dsimp only
    refine ⟨(by show 4 ≤ sizeLine; decide), ⟨(by show 1 ≤ sizeLine; decide), ?_⟩⟩
    refine l_mul ⟨by decide, by decide, (by show 1 * 3 ≤ sizeLine; decide)⟩ ?_
    dsimp only
    refine r_var rfl ⟨isSome_ref m4, ?_⟩
    refine r_var rfl ?_
    refine r_var rfl ?_
    refine r_var rfl ?_
    refine r_var rfl ?_
    refine r_var rfl ?_
    refine ⟨(by show 4 ≤ sizeLine; decide), ?_⟩
    refine r_var rfl ?_
    refine ⟨(by show 2 ≤ sizeLine; decide), ⟨(by show 2 ≤ sizeLine; decide), ?_⟩⟩
    refine l_add (by show 3 + 2 ≤ sizeLine; decide) ?_
    refine ⟨h, _, _, _, rfl, .inl rfl, by simp, (by show 5 ≤ 1000000; decide), by omega, H4, fun i4 d4 μ5 e4 H5 l5 => ?_⟩
    have m5 := l5 p _ (Ne.symm hph) m4
    obtain ⟨o, ho, rfl⟩ : ∃ o : Op, OpAll (fun k => k ∈ names) o ∧ d4 = encO o := by
      have := List.mem_of_getElem? e4
      rcases List.mem_append.mp this with this | this
      · have : d4 = encO (.move k1 k2 b) := by
          have z : d4 ∈ [encO (.move k1 k2 b), encO (.move k1 k2 b), encO (.move k1 k2 b)] := this
          simpa using z
        exact ⟨.move k1 k2 b, ⟨hk1, hk2, hb⟩, this⟩
      · have z : d4 = encO (.create k1 k2 b) ∨ d4 = encO (.remove k1) := by
          have z : d4 ∈ [encO (.create k1 k2 b), encO (.remove k1)] := this
          simpa using z
        rcases z with z | z
        · exact ⟨.create k1 k2 b, ⟨hk1, hk2, hb⟩, z⟩
        · exact ⟨.remove k1, hk1, z⟩
    refine dm_append m5 (lt_line (m := 500) (by simp; omega) (by omega)) ?_
    refine ⟨os ++ [o], _, _, _, _, _, rfl, by rw [up_same, List.map_append]; rfl, by simp; omega, fun x hx => ?_, (H5.mono (by omega)).up hph, ((((l1.trans l2).trans l3).trans l4).trans l5).up hp⟩
    rcases List.mem_append.mp hx with hx | hx
    · exact hos x hx
    · rw [List.mem_singleton] at hx; subst hx; exact ho
  · rintro ρ μ1 ⟨os, a4, a5, a6, a7, a8, rfl, m1, el, hos, H1, l1⟩
    rw [List.length_map, List.length_range] at el H1
    refine r_var rfl ?_
    refine dr_tupleR m1 ?_
    exact q os μ1 el hos H1 l1
end LK
namespace LK
open PySem PySem.Spec PyProof.Rows L2 DS MA
def sp__law_fewest : DSp := fun ds μ Q _ => ∃ (ws : List Int) (most : Int), ds = [.lst (ws.map SD.int), .int most] ∧ (∀ x ∈ ws, 0 ≤ x ∧ x ≤ most) ∧ ws.length ≤ 4000 ∧
  ∀ (bs : List Nat) (b : Nat) μ', DPok ws most bs → bs.length = ws.length + 1 → bs[ws.length]? = some b → Le μ μ' → Q (.int (b : Nat)) μ'
theorem len__law_fewest : ∀ ds μ Q E, sp__law_fewest ds μ Q E → ds.length = 2 := by rintro ds μ Q E ⟨ws, most, rfl, _⟩; rfl
def t__law_fewest : DTS := (dSeq (dSet (dLstM (dCons (dC (.int 0)) dNil)) 2)
    (dSeq (dFor (jRng2 (dCons (dC (.int 1)) (dCons (dOp dAdd (dCB drLen (dCons (dVar 0) dNil)) (dC (.int 1))) dNil))) (hName 3) (dSeq (dPar3 4 5 6 (dCons (dLstM dNil) (dCons (dC (.int 0)) (dCons (dOp dSub (dVar 3) (dC (.int 1))) dNil))))
    (dSeq (dWhile (dAnd (dTest (dOp dGe (dVar 6) (dC (.int 0)))) (dTest (dOp dLe (dOp dAdd (dVar 5) (dOp dIx (dVar 0) (dVar 6))) (dVar 1)))) (dSeq (dPar 5 6 (dCons (dOp dAdd (dVar 5) (dOp dIx (dVar 0) (dVar 6))) (dCons (dOp dSub (dVar 6) (dC (.int 1))) dNil)))
    (dDrop (dLM dmAppend (dVar 4) (dCons (dOp dAdd (dOp dIx (dVar 2) (dOp dAdd (dVar 6) (dC (.int 1)))) (dC (.int 1))) dNil)))))
    (dDrop (dLM dmAppend (dVar 2) (dCons (dCB (drMost fun y m => m ≤ y) (dCons (dVar 4) dNil)) dNil))))))
    (dRet (dOp dIx (dVar 2) (dUnI (fun i => -i) (dC (.int 1)))))))
/-- one more -/
theorem DPok.snoc {ws : List Int} {most : Int} {bs : List Nat} {b : Nat} (D : DPok ws most bs) (h : 1 ≤ bs.length) (ex : ∃ j b', j < bs.length ∧ bs[j]? = some b' ∧ pfx ws bs.length - pfx ws j ≤ most ∧ b = b' + 1)
    (le : ∀ j b', j < bs.length → bs[j]? = some b' → pfx ws bs.length - pfx ws j ≤ most → b ≤ b' + 1) : DPok ws most (bs ++ [b]) := by
  have old : ∀ {j : Nat} {x : Nat}, j < bs.length → (bs ++ [b])[j]? = some x → bs[j]? = some x := fun {j x} hj e => by rw [List.getElem?_append_left hj] at e; exact e
  have new : ∀ {j : Nat} {x : Nat}, j < bs.length → bs[j]? = some x → (bs ++ [b])[j]? = some x := fun {j x} hj e => by rw [List.getElem?_append_left hj]; exact e
  have last : ∀ {i : Nat} {x : Nat}, ¬ i < bs.length → (bs ++ [b])[i]? = some x → i = bs.length ∧ x = b := fun {i x} hi e => by
    have := (List.getElem?_eq_some_iff.mp e).1
    rw [List.length_append] at this
    have hi' : i = bs.length := by simp at this; omega
    subst hi'
    rw [List.getElem?_append_right (Nat.le_refl _), Nat.sub_self] at e
    exact ⟨rfl, by simpa using e.symm⟩
  refine ⟨new (by omega) D.zero, fun i x h1 e => ?_, fun i x j b' h1 e hj ej hf => ?_⟩
  · by_cases hi : i < bs.length
    · obtain ⟨j, b', q1, q2, q3, q4⟩ := D.ex i x h1 (old hi e)
      exact ⟨j, b', q1, new (by omega) q2, q3, q4⟩
    · obtain ⟨rfl, rfl⟩ := last hi e
      obtain ⟨j, b', q1, q2, q3, q4⟩ := ex
      exact ⟨j, b', q1, new q1 q2, q3, q4⟩
  · by_cases hi : i < bs.length
    · exact D.le i x j b' h1 (old hi e) hj (old (by omega) ej) hf
    · obtain ⟨rfl, rfl⟩ := last hi e
      exact le j b' hj (old hj ej) hf
theorem at_lastP {α : Type} {xs : List α} {x : α} {n : Nat} (hn : xs.length = n + 1) (h : xs[n]? = some x) : atI xs (-1) = some x := by
  have e : xs = xs.take n ++ [x] := by
    have := List.take_succ (l := xs) (i := n)
    rw [h] at this
    rw [← hn, List.take_length] at this
    exact this
  rw [e]; exact atI_last _ _
theorem minR {l : List Int} {μ : Mu} {a : Addr} {Q : SD → Mu → Prop} (h : μ a = some (.lst (l.map SD.int))) (h0 : 0 < l.length) (q : ∀ m ∈ l, (∀ y ∈ l, m ≤ y) → Q (.int m) μ) : drMost (fun y m => m ≤ y) [.ref a] μ Q := by
  unfold drMost
  simp only [lstD, h, intsOf_map]
  exact ⟨h0, q⟩
theorem read__law_fewest : ∀ ds μ Q E, sp__law_fewest ds μ Q E → t__law_fewest { nx := fun _ μ' => Q .non μ', rt := Q } (begin_ ["_law_weights_here", "_law_most", "_law_best", "_law_at", "_law_near", "_law_total", "_law_back"] ds) μ := by
  rintro ds μ Q E ⟨ws, most, rfl, hw, hl, q⟩
  have nn : ∀ x ∈ ws, 0 ≤ x := fun x hx => (hw x hx).1
  unfold t__law_fewest dFor
  refine ⟨(by show 1 ≤ sizeLine; decide), fun p hp => ?_⟩
  dsimp only
  refine r_var rfl ?_
  refine l_len ?_
  refine i_add ?_
  dsimp only
  rw [List.length_map]
  refine ⟨by omega, ?_⟩
  have cnt : (((ws.length : Nat) : Int) + 1 - 1).toNat = ws.length := by omega
  rw [cnt]
  refine ⟨fun i ρ μ' => ∃ (bs : List Nat) (a3 a4 a5 a6 : Option SD), ρ = [some (.lst (ws.map SD.int)), some (.int most), some (.ref p), a3, a4, a5, a6] ∧ μ' p = some (.lst (bs.map fun b : Nat => SD.int b)) ∧ bs.length = i + 1 ∧ DPok ws most bs ∧ Le μ μ',
    ⟨[0], _, _, _, _, rfl, up_same, rfl, ⟨rfl, fun i b h1 e => ?_, fun i b j b' h1 e _ _ _ => ?_⟩, (Le.refl μ).up hp⟩, fun _ _ _ _ _ => trivial, ?_, ?_⟩
  · match i, e with
    | 0, _ => omega
    | i + 1, e => simp at e
  · match i, e with
    | 0, _ => omega
    | i + 1, e => simp at e
  · rintro i d ρ μ1 hd ⟨bs, a3, a4, a5, a6, rfl, m1, bl, D, l1⟩
    have hi : i < ws.length := by
      have := (List.getElem?_eq_some_iff.mp hd).1
      simpa using this
    rw [List.getElem?_map, List.getElem?_range hi] at hd
    cases hd
    dsimp only
    refine ⟨Nat.zero_le _, fun u hu => ?_⟩
    have npu : u ≠ p := fun z => by rw [z, m1] at hu; cases hu
    have cu : μ u = none := l1.none hu
    refine r_var (i := 3) rfl ?_
    refine i_sub ?_
    dsimp only [List.set_cons_zero, List.set_cons_succ]
    have mp : up μ1 u (.lst []) p = some (.lst (bs.map fun b : Nat => SD.int b)) := by rw [up_ne (Ne.symm npu)]; exact m1
    have mu : up μ1 u (.lst []) u = some (.lst []) := up_same
    have lu : Le μ (up μ1 u (.lst [])) := l1.up cu
    generalize up μ1 u (.lst []) = μ2 at mp mu lu
    refine ⟨fun m ρ μ' => ∃ k : Nat, m + k = i + 1 ∧ ρ = [some (.lst (ws.map SD.int)), some (.int most), some (.ref p), some (.int (1 + (i : Nat))), some (.ref u), some (.int (pfx ws (i + 1) - pfx ws (i + 1 - k))), some (.int ((i : Int) - k))] ∧
      μ' p = some (.lst (bs.map fun b : Nat => SD.int b)) ∧ μ' u = some (.lst ((List.range k).map fun t => SD.int ((bs.getD (i - t) 0 : Nat) + 1))) ∧ Le μ μ' ∧ ∀ t, t < k → pfx ws (i + 1) - pfx ws (i - t) ≤ most, ⟨i + 1, 0, by omega, ?_, mp, mu, lu, fun t ht => by omega⟩, ?_⟩
    · rw [show pfx ws (i + 1) - pfx ws (i + 1 - 0) = 0 by simp, show (1 + ((i : Nat) : Int) - 1) = (i : Int) - ((0 : Nat) : Int) by omega]
    rintro m ρ μ3 ⟨k, hk, rfl, mp3, mu3, l3, feas⟩
    have bget : ∀ j, j < i + 1 → ∃ b, bs[j]? = some b ∧ bs.getD j 0 = b := fun j hj => by
      have hj' : j < bs.length := by omega
      exact ⟨bs[j], List.getElem?_eq_getElem hj', by rw [List.getD_eq_getElem?_getD, List.getElem?_eq_getElem hj']; rfl⟩
    have wget : ∀ j, j < ws.length → ∃ x, ws[j]? = some x ∧ pfx ws (j + 1) = pfx ws j + x ∧ 0 ≤ x ∧ x ≤ most := fun j hj =>
      ⟨ws[j], List.getElem?_eq_getElem hj, pfx_succ (List.getElem?_eq_getElem hj), hw _ (List.getElem_mem hj)⟩
    -- the least is written down
    have fin : 1 ≤ k → (∀ j, j < i + 1 - k → ¬ pfx ws (i + 1) - pfx ws j ≤ most) →
        dDrop (dLM dmAppend (dVar 2) (dCons (dCB (drMost fun y m => m ≤ y) (dCons (dVar 4) dNil)) dNil)) { nx := fun ρ μ' => ∃ (bs : List Nat) (a3 a4 a5 a6 : Option SD), ρ = [some (.lst (ws.map SD.int)), some (.int most), some (.ref p), a3, a4, a5, a6] ∧ μ' p = some (.lst (bs.map fun b : Nat => SD.int b)) ∧ bs.length = i + 1 + 1 ∧ DPok ws most bs ∧ Le μ μ', rt := fun _ _ => False }
          [some (.lst (ws.map SD.int)), some (.int most), some (.ref p), some (.int (1 + (i : Nat))), some (.ref u), some (.int (pfx ws (i + 1) - pfx ws (i + 1 - k))), some (.int ((i : Int) - k))] μ3 := fun k1 low => by
      refine r_var rfl ⟨isSome_ref mp3, ?_⟩
      refine r_var rfl ?_
      have en : ((List.range k).map fun t => SD.int ((bs.getD (i - t) 0 : Nat) + 1)) = ((List.range k).map fun t => (((bs.getD (i - t) 0 : Nat) : Int) + 1)).map SD.int := by rw [List.map_map]; rfl
      refine minR (by rw [mu3, en]) (by simp; omega) fun m hm least => ?_
      obtain ⟨t, ht, rfl⟩ := List.mem_map.mp hm
      have ht := List.mem_range.mp ht
      have hn : (((bs.getD (i - t) 0 : Nat) : Int) + 1) = (((bs.getD (i - t) 0 + 1 : Nat)) : Int) := by omega
      rw [hn]
      refine dm_append mp3 (lt_line (m := 5000) (by simp; omega) (by omega)) ?_
      refine ⟨bs ++ [bs.getD (i - t) 0 + 1], _, _, _, _, rfl, by rw [up_same, List.map_append]; rfl, by simp; omega, ?_, l3.up hp⟩
      obtain ⟨b, eb, gb⟩ := bget (i - t) (by omega)
      refine D.snoc (by omega) ⟨i - t, b, by omega, eb, by rw [bl]; exact feas t ht, by rw [gb]⟩ fun j b' hj ej hf => ?_
      rw [bl] at hj hf
      have hj2 : i + 1 - k ≤ j := by
        rcases Nat.lt_or_ge j (i + 1 - k) with g | g
        · exact (low j g hf).elim
        · exact g
      have := least _ (List.mem_map.mpr ⟨i - j, List.mem_range.mpr (by omega), rfl⟩)
      have ej2 : bs.getD (i - (i - j)) 0 = b' := by
        rw [show i - (i - j) = j by omega, List.getD_eq_getElem?_getD, ej]; rfl
      rw [ej2] at this
      omega
    refine r_var rfl ?_
    refine i_ge ?_
    by_cases h0 : k = i + 1
    · refine ifF (decide_eq_false (by omega)) ?_
      refine ifF rfl ?_
      exact fin (by omega) fun j hj => by omega
    refine ifT (decide_eq_true (by omega)) ?_
    obtain ⟨x, ex, px, x0, x1⟩ := wget (i - k) (by omega)
    have ei : ((i : Int) - k) = ((i - k : Nat) : Int) := by omega
    have e1 : i + 1 - k = i - k + 1 := by omega
    refine r_var rfl ?_
    refine r_var rfl ?_
    refine r_var rfl ?_
    rw [ei]
    refine ix_lst (d := .int x) (atI_nat (j := i - k) (by rw [List.getElem?_map, ex]; rfl)) ?_
    refine i_add ?_
    refine r_var rfl ?_
    refine i_le ?_
    have tot : pfx ws (i + 1) - pfx ws (i + 1 - k) + x = pfx ws (i + 1) - pfx ws (i - k) := by rw [e1, px]; omega
    rw [tot]
    by_cases hf : pfx ws (i + 1) - pfx ws (i - k) ≤ most
    · refine ifT (decide_eq_true hf) ⟨_, fun _ _ h => h, ?_⟩
      refine r_var rfl ?_
      refine r_var rfl ?_
      refine r_var rfl ?_
      refine ix_lst (d := .int x) (atI_nat (j := i - k) (by rw [List.getElem?_map, ex]; rfl)) ?_
      refine i_add ?_
      refine r_var rfl ?_
      refine i_sub ?_
      rw [tot]
      dsimp only [List.set_cons_zero, List.set_cons_succ]
      refine r_var rfl ⟨isSome_ref mu3, ?_⟩
      refine r_var rfl ?_
      refine r_var rfl ?_
      refine i_add ?_
      rw [show ((i - k : Nat) : Int) - 1 + 1 = ((i - k : Nat) : Int) by omega]
      obtain ⟨b, eb, gb⟩ := bget (i - k) (by omega)
      refine ix_ref mp3 (d := .int (b : Nat)) (atI_nat (j := i - k) (by rw [List.getElem?_map, eb]; rfl)) ?_
      refine i_add ?_
      refine dm_append mu3 (lt_line (m := 5000) (by simp; omega) (by omega)) ?_
      refine ⟨m - 1, by omega, k + 1, by omega, ?_, by rw [up_ne (Ne.symm npu)]; exact mp3, ?_, l3.up cu, fun t ht => ?_⟩
      · rw [show i + 1 - (k + 1) = i - k by omega, show ((i - k : Nat) : Int) - 1 = (i : Int) - ((k + 1 : Nat) : Int) by omega]
      · rw [up_same, List.range_succ, List.map_append]
        simp only [List.map_cons, List.map_nil, gb]
      · rcases Nat.lt_or_ge t k with g | g
        · exact feas t g
        · rw [show t = k by omega]; exact hf
    · refine ifF (decide_eq_false hf) ?_
      have := fin (by
        rcases Nat.eq_zero_or_pos k with g | g
        · subst g
          rw [Nat.sub_zero] at hf px
          omega
        · exact g) fun j hj hj2 => by
          have := pfx_mono nn (i := j) (j := i - k) (by omega)
          omega
      rw [← ei]
      exact this
  · rintro ρ μ1 ⟨bs, a3, a4, a5, a6, rfl, m1, bl, D, l1⟩
    rw [List.length_map, List.length_range] at bl
    refine r_var (i := 2) rfl ?_
    obtain ⟨b, eb⟩ : ∃ b, bs[ws.length]? = some b := ⟨_, List.getElem?_eq_getElem (by omega)⟩
    exact ix_ref m1 (d := .int (b : Nat)) (at_lastP (n := ws.length) (by rw [List.length_map]; exact bl) (by rw [List.getElem?_map, eb]; rfl)) (q bs b μ1 D bl eb l1)
end LK
namespace LK
open PySem PySem.Spec PyProof.Rows L2 DS MA
theorem gOpt39 {b : Option Str} (h : ∀ y, b = some y → KeyOk y) : ∃ p, Good (optS b) p 0 61 := by
  cases b with
  | none => exact ⟨_, Good.non.mono (Nat.le_refl _) (by decide)⟩
  | some y => exact ⟨_, (Good.str (h y rfl).1).mono (Nat.le_refl _) (h y rfl).2⟩
theorem gStr39 {y : Str} (h : KeyOk y) : ∃ p, Good (.str y) p 0 61 := ⟨_, (Good.str h.1).mono (Nat.le_refl _) h.2⟩
theorem wOk39 : KeyOk "create" ∧ KeyOk "move" ∧ KeyOk "remove" := by
  refine ⟨⟨by decide +kernel, by decide +kernel⟩, ⟨by decide +kernel, by decide +kernel⟩, ⟨by decide +kernel, by decide +kernel⟩⟩
theorem gOp39 {op : Op} (h : OpAll KeyOk op) : ∃ p, Good (encO op) p 1 400 := by
  cases op with
  | create x h2 b =>
    obtain ⟨a1, a2, a3⟩ := h
    obtain ⟨ps, g⟩ := GoodL.of (D := 0) (B := 61) (ds := [.str "create", .str x, .str h2, optS b]) fun d hd => by
      simp only [List.mem_cons, List.not_mem_nil, or_false] at hd
      rcases hd with rfl | rfl | rfl | rfl
      · exact gStr39 wOk39.1
      · exact gStr39 a1
      · exact gStr39 a2
      · exact gOpt39 a3
    exact ⟨_, (Good.tup g).mono (Nat.le_refl _) (by show 4 * 62 ≤ 400; decide)⟩
  | move x h2 b =>
    obtain ⟨a1, a2, a3⟩ := h
    obtain ⟨ps, g⟩ := GoodL.of (D := 0) (B := 61) (ds := [.str "move", .str x, .str h2, optS b]) fun d hd => by
      simp only [List.mem_cons, List.not_mem_nil, or_false] at hd
      rcases hd with rfl | rfl | rfl | rfl
      · exact gStr39 wOk39.2.1
      · exact gStr39 a1
      · exact gStr39 a2
      · exact gOpt39 a3
    exact ⟨_, (Good.tup g).mono (Nat.le_refl _) (by show 4 * 62 ≤ 400; decide)⟩
  | remove x =>
    obtain ⟨ps, g⟩ := GoodL.of (D := 0) (B := 61) (ds := [.str "remove", .str x]) fun d hd => by
      simp only [List.mem_cons, List.not_mem_nil, or_false] at hd
      rcases hd with rfl | rfl
      · exact gStr39 wOk39.2.2
      · exact gStr39 h
    exact ⟨_, (Good.tup g).mono (Nat.le_refl _) (by show 2 * 62 ≤ 400; decide)⟩
theorem gOps {os : List Op} (h : ∀ o ∈ os, OpAll KeyOk o) : ∃ ps, Good (.tup (os.map encO)) (.tuple ps) 2 (os.length * 401) ∧ (os = [] ↔ ps = []) := by
  obtain ⟨ps, g⟩ := GoodL.of (D := 1) (B := 400) (ds := os.map encO) fun d hd => by
    obtain ⟨op, ho, rfl⟩ := List.mem_map.mp hd
    exact gOp39 (h op ho)
  refine ⟨ps, (Good.tup g).mono (Nat.le_refl _) (by rw [List.length_map]; exact Nat.le_refl _), ?_⟩
  have e := g.e
  cases os with
  | nil =>
    have : ps = [] := by simpa [pdL] using e.symm
    simp [this]
  | cons o os =>
    cases ps with
    | nil =>
      rw [List.map_cons] at e
      unfold pdL at e
      split at e <;> cases e
    | cons p ps => simp
theorem ne_ops {os : List Op} {μ : Mu} {Q : SD → Mu → Prop} (h : ∀ o ∈ os, OpAll KeyOk o) (q : Q (.bl false) μ) : dEq true (.tup (os.map encO)) (.tup (os.map encO)) μ Q := by
  obtain ⟨ps, g, _⟩ := gOps h
  have e : eqD μ (.tup (os.map encO)) (.tup (os.map encO)) = some true := by
    unfold eqD
    simp only [g.notref μ]
    rw [if_pos ⟨g.shaped (by decide), g.shaped (by decide)⟩, PySem.SeqAt.eqv_refl _ g.cl]
  unfold dEq
  rw [e]
  exact q
/-- () is none of the parts -/
theorem nil_parts {ps : List (List Op)} {μ : Mu} {Q : SD → Mu → Prop} (h : ∀ p ∈ ps, p ≠ [] ∧ ∀ o ∈ p, OpAll KeyOk o) (hl : ps.length ≤ 400) (q : Q (.bl false) μ) : dInTT (.tup []) (.tup (ps.map opsD)) μ Q := by
  have all : ∀ ps : List (List Op), (∀ p ∈ ps, p ≠ [] ∧ ∀ o ∈ p, OpAll KeyOk o) → ∃ ds, pdL (ps.map opsD) = some ds ∧ PyData.canLayAll0 ds = true ∧ PyData.depthAll ds ≤ 2 ∧ (ds.any fun z => PyData.eqv z (.tuple [])) = false := fun ps => by
    induction ps with
    | nil => intro _; exact ⟨[], by simp [pdL], by simp [PyData.canLayAll0], by simp [PyData.depthAll], rfl⟩
    | cons p ps ih =>
      intro h
      obtain ⟨ds, e, c, d, a⟩ := ih fun x hx => h x (List.mem_cons_of_mem _ hx)
      obtain ⟨hp, hk⟩ := h p (List.mem_cons_self ..)
      obtain ⟨qs, g, ne⟩ := gOps hk
      refine ⟨.tuple qs :: ds, ?_, ?_, ?_, ?_⟩
      · rw [List.map_cons, pdL, show pdS (opsD p) = some (.tuple qs) from g.e, e]
      · rw [PyData.canLayAll0, g.cl, c]; rfl
      · rw [PyData.depthAll]
        have := g.dp
        omega
      · rw [List.any_cons, a, Bool.or_false]
        cases qs with
        | nil => exact (hp (ne.mpr rfl)).elim
        | cons x r => simp [PyData.eqv, PyData.eqvAll]
  obtain ⟨ds, e, c, d, a⟩ := all ps h
  unfold dInTT
  have e1 : pd μ (.tup []) = some (.tuple []) := by
    show pdS _ = _
    unfold pdS; simp [pdL]
  have e2 : pd μ (.tup (ps.map opsD)) = some (.tuple ds) := by
    show pdS _ = _
    unfold pdS; rw [e]
  rw [e1, e2]
  refine ⟨by simp [SeqAt.shaped, PyData.canLay0, PyData.canLayAll0, PyData.depth, PyData.depthAll], ?_, ?_⟩
  · unfold SeqAt.shaped
    rw [PyData.canLay0, c, PyData.depth, Bool.true_and, decide_eq_true_eq]
    omega
  · rw [a]; exact q
def sp__law_parts_right : DSp := fun ds μ Q _ => ∃ (os : List Op) (l : List (Str × Int)) (most : Int) (ps : List (List Op)), ds = [.tup (os.map encO), .ptp (l.map siD), .int most, .tup (ps.map opsD)] ∧ (l.map (·.1)).Nodup ∧ os.length ≤ 400 ∧
  ps.flatten = os ∧ (∀ p ∈ ps, p ≠ [] ∧ wsm (prO (pr l)) p ≤ most) ∧ Chn (prO (pr l)) most ps ∧ (∀ o ∈ os, OpAll KeyOk o) ∧ (∀ o ∈ os, 0 ≤ prO (pr l) o ∧ prO (pr l) o ≤ most) ∧
  (∀ bs b, DPok (os.map (prO (pr l))) most bs → bs.length = os.length + 1 → bs[os.length]? = some b → b = ps.length) ∧ ∀ μ', Le μ μ' → Q (.bl true) μ'
theorem len__law_parts_right : ∀ ds μ Q E, sp__law_parts_right ds μ Q E → ds.length = 4 := by rintro ds μ Q E ⟨os, l, most, ps, rfl, _⟩; rfl
def t__law_parts_right : DTS := (dSeq (dIfS (dOr (dNot (dTest (dCB drIsi (dCons (dVar 3) (dCons (dC (.ty "tuple")) dNil))))) (dOr (dTest (dOp (dEq true) (dCB drSumT (dCons (dVar 3) (dCons (dTup dNil) dNil))) (dVar 0))) (dTest (dOp dInTT (dTup dNil) (dVar 3))))) (dRet (dC (.bl false))) dNext)
    (dSeq (dFor (jZip (dCons (dVar 3) (dCons (dOp dAdd (dSl (dVar 3) (dPart (dC (.int 1))) dNoPart) (dTup (dCons (dTup dNil) dNil))) dNil))) (hTup 2 (hCons (hName 4) (hCons (hName 5) hNil))) (dSeq (dSet (dCB drSum (dCons (dCall sp__law_weights [] (dCons (dVar 4) (dCons (dVar 1) dNil))) dNil)) 6)
    (dIfS (dOr (dTest (dOp dGt (dVar 6) (dVar 2))) (dAnd (dTest (dOp (dT0 true) (dVar 5) (dTup dNil))) (dTest (dOp dLe (dOp dAdd (dVar 6) (dOp dIx (dCall sp__law_weights [] (dCons (dSl (dVar 5) dNoPart (dPart (dC (.int 1)))) (dCons (dVar 1) dNil))) (dC (.int 0)))) (dVar 2))))) (dRet (dC (.bl false))) dNext)))
    (dRet (dOrV (dOp dGt (dCB drLen (dCons (dVar 0) dNil)) (dC (.int 60))) (dOp (dEq false) (dCB drLen (dCons (dVar 3) dNil)) (dCall sp__law_fewest [] (dCons (dCall sp__law_weights [] (dCons (dVar 0) (dCons (dVar 1) dNil))) (dCons (dVar 2) dNil))))))))
theorem Chn.at {c : Op → Int} {most : Int} : ∀ {ps : List (List Op)} {i : Nat} {p : List Op} {o : Op} {r : List Op}, Chn c most ps → ps[i]? = some p → ps[i + 1]? = some (o :: r) → most < wsm c p + c o
  | [], i, p, o, r, _, e, _ => by simp at e
  | [a], i, p, o, r, _, e, e2 => by
    have := (List.getElem?_eq_some_iff.mp e2).1
    simp at this
  | a :: b :: ps, 0, p, o, r, k, e, e2 => by
    simp at e e2
    subst e e2
    exact k.1
  | a :: b :: ps, i + 1, p, o, r, k, e, e2 => Chn.at (ps := b :: ps) k.2 (by simpa using e) (by simpa using e2)
theorem cutL1 {α : Type} {x : α} {xs : List α} : cutL (x :: xs) none (some 1) = [x] := cutL_to (x :: xs) 1
theorem len_flat : ∀ (ps : List (List Op)), (∀ p ∈ ps, p ≠ []) → ps.length ≤ ps.flatten.length
  | [], _ => Nat.le_refl _
  | p :: ps, h => by
    have := len_flat ps fun x hx => h x (List.mem_cons_of_mem _ hx)
    have hp := List.length_pos_iff.mpr (h p (List.mem_cons_self ..))
    rw [List.flatten_cons, List.length_append, List.length_cons]
    omega
theorem read__law_parts_right : ∀ ds μ Q E, sp__law_parts_right ds μ Q E → t__law_parts_right { nx := fun _ μ' => Q .non μ', rt := Q } (begin_ ["_law_steps_here", "_law_prices", "_law_most", "_law_parts", "_law_part", "_law_later", "_law_weight"] ds) μ := by
  rintro ds μ Q E ⟨os, l, most, ps, rfl, nd, hl, fl, pok, ch, ok, wv, few, q⟩
  unfold t__law_parts_right dFor jZip
  have pl : ps.length ≤ 400 := by
    have := len_flat ps fun p hp => (pok p hp).1
    rw [fl] at this; omega
  have inP : ∀ p ∈ ps, ∀ o ∈ p, o ∈ os := fun p hp o ho => by rw [← fl]; exact List.mem_flatten.mpr ⟨p, hp, ho⟩
  have plen : ∀ p ∈ ps, p.length ≤ 400 := fun p hp => by
    have h1 : p.length ≤ ps.flatten.length := by
      clear fl pok ch few inP pl
      induction ps with
      | nil => cases hp
      | cons a r ih =>
        rw [List.flatten_cons, List.length_append]
        rcases List.mem_cons.mp hp with rfl | hp
        · omega
        · have := ih hp; omega
    rw [fl] at h1; omega
  refine r_var rfl ?_
  refine isi_of (t := "tuple") (b := true) rfl (by decide) ?_
  refine ifF rfl ?_
  refine r_var rfl ?_
  refine ⟨Nat.zero_le _, ?_⟩
  refine ⟨ps.map fun p => p.map encO, by rw [List.map_map]; rfl, ?_⟩
  have fl2 : (ps.map fun p => p.map encO).flatten = os.map encO := by rw [← fl, List.map_flatten]
  rw [fl2]
  refine ⟨le_line (m := 400) (by simpa using hl) (by omega), ?_⟩
  refine r_var rfl ?_
  refine ne_ops ok ?_
  refine ifF rfl ?_
  refine ⟨Nat.zero_le _, ?_⟩
  refine r_var rfl ?_
  refine nil_parts (fun p hp => ⟨(pok p hp).1, fun o ho => ok o (inP p hp o ho)⟩) pl ?_
  refine ifF rfl ?_
  simp only [dNext]
  refine r_var rfl ?_
  refine r_var rfl ?_
  refine sl_T ?_
  rw [show (1 : Int) = ((1 : Nat) : Int) from rfl, cutL_from]
  refine ⟨Nat.zero_le _, ⟨(by show 1 ≤ sizeLine; decide), ?_⟩⟩
  refine ⟨le_line (m := 401) (by simp; omega) (by omega), ?_⟩
  refine ⟨rfl, ?_⟩
  dsimp only [seqD]
  refine ⟨fun i ρ μ' => (∃ a4 a5 a6 : Option SD, ρ = [some (.tup (os.map encO)), some (.ptp (l.map siD)), some (.int most), some (.tup (ps.map opsD)), a4, a5, a6]) ∧ Le μ μ', ⟨⟨_, _, _, rfl⟩, Le.refl _⟩, fun _ _ _ _ _ => ⟨rfl, rfl⟩, ?_, ?_⟩
  · rintro i d ρ μ1 hd ⟨⟨a4, a5, a6, rfl⟩, l1⟩
    obtain ⟨x, y, ex, ey, rfl⟩ := zips_at hd
    rw [List.getElem?_map] at ex
    cases ep : ps[i]? with
    | none => rw [ep] at ex; cases ex
    | some p =>
    rw [ep] at ex; cases ex
    have hp := List.mem_of_getElem? ep
    have hi := (List.getElem?_eq_some_iff.mp ep).1
    -- what comes behind
    obtain ⟨r, rfl, hr⟩ : ∃ r : List Op, y = .tup (r.map encO) ∧ (r = [] ∨ ps[i + 1]? = some r) := by
      by_cases h : i + 1 < ps.length
      · have e : ((ps.map opsD).drop 1)[i]? = some (opsD ps[i + 1]) := by
          rw [List.getElem?_drop, List.getElem?_map, Nat.add_comm 1 i, List.getElem?_eq_getElem h]; rfl
        rw [List.getElem?_append_left (by simp; omega), e] at ey
        cases ey
        exact ⟨ps[i + 1], rfl, .inr (List.getElem?_eq_getElem h)⟩
      · rw [List.getElem?_append_right (by simp; omega)] at ey
        have : i - ((ps.map opsD).drop 1).length = 0 := by simp; omega
        rw [this] at ey
        cases ey
        exact ⟨[], rfl, .inl rfl⟩
    refine ⟨rfl, ?_⟩
    refine ⟨rfl, ?_⟩
    refine r_var rfl ?_
    refine r_var rfl ?_
    refine ⟨p, l, rfl, nd, by have := plen p hp; omega, fun μ2 l2 => ?_⟩
    refine sum_ok ?_
    dsimp only [List.set_cons_zero, List.set_cons_succ]
    refine r_var rfl ?_
    refine r_var rfl ?_
    refine i_gt ?_
    have le : wsm (prO (pr l)) p ≤ most := (pok p hp).2
    refine ifF (decide_eq_false (by show ¬ most < wsm (prO (pr l)) p; omega)) ?_
    refine r_var rfl ?_
    refine ⟨Nat.zero_le _, ?_⟩
    refine ne_t0 ?_
    rcases hr with rfl | hr
    · refine ifF rfl ?_
      refine ifF rfl ?_
      exact ⟨⟨_, _, _, rfl⟩, l1.trans l2⟩
    · cases r with
      | nil => exact ((pok [] (List.mem_of_getElem? hr)).1 rfl).elim
      | cons o r =>
        refine ifT rfl ?_
        refine r_var rfl ?_
        refine r_var rfl ?_
        refine sl_T ?_
        refine r_var rfl ?_
        refine ⟨[o], l, by
          show [SD.tup (cutL (encO o :: r.map encO) none (some 1)), _] = _
          rw [cutL1]; rfl, nd, by simp, fun μ3 l3 => ?_⟩
        refine ix_lst (d := .int (prO (pr l) o)) (atI_nat (j := 0) rfl) ?_
        refine i_add ?_
        refine r_var rfl ?_
        refine i_le ?_
        have := ch.at ep hr
        refine ifF (decide_eq_false (by show ¬ wsm (prO (pr l)) p + prO (pr l) o ≤ most; omega)) ?_
        exact ⟨⟨_, _, _, rfl⟩, (l1.trans l2).trans l3⟩
  · rintro ρ μ1 ⟨⟨a4, a5, a6, rfl⟩, l1⟩
    refine r_var rfl ?_
    refine l_lenT ?_
    refine i_gt ?_
    by_cases h60 : (60 : Int) < ((os.map encO).length : Nat)
    · rw [decide_eq_true h60]
      exact q _ l1
    · rw [decide_eq_false h60]
      refine r_var rfl ?_
      refine l_lenT ?_
      refine r_var rfl ?_
      refine r_var rfl ?_
      refine ⟨os, l, rfl, nd, by omega, fun μ2 l2 => ?_⟩
      refine r_var rfl ?_
      refine ⟨_, most, rfl, fun x hx => ?_, by rw [List.length_map]; omega, fun bs b μ3 D hb eb l3 => ?_⟩
      · obtain ⟨o, ho, rfl⟩ := List.mem_map.mp hx
        exact wv o ho
      · rw [List.length_map] at hb eb
        have e := few bs b D hb eb
        subst e
        refine i_eq ?_
        rw [List.length_map, decide_eq_true rfl]
        exact q _ ((l1.trans l2).trans l3)
end LK
namespace LK
open PySem PySem.Spec PyProof.Rows L2 DS MA
def xnames : List Str := ["DifferentRoots", "NoNumber", "NotKept", "Conflict", "NotPatch", "TooDear"]
/-- what is told of an error -/
def toldX (x : Str) (fs : List (Str × SD)) : Option (Str × SD) :=
  if x = "DifferentRoots" then some ("roots", .non) else
  if x = "NotKept" then (fs.lookup ("value" : Str)).map fun v => ("kept", v) else
  if x = "Conflict" then (fs.lookup ("value" : Str)).map fun v => ("conflict", v) else
  if x = "NotPatch" then (fs.lookup ("value" : Str)).map fun v => ("patch", v) else
  if x = "NoNumber" then (fs.lookup ("number" : Str)).map fun v => ("number", v) else
  if x = "TooDear" then (fs.lookup ("key" : Str)).map fun v => ("dear", v) else none
def sp__law_told : DTH → Mu → (SD → Mu → Prop) → Prop := fun th μ Q => ∀ (Q1 : SD → Mu → Prop) (E1 : DXX), (∀ d μ1, Q (.tup [.str "returned", d]) μ1 → Q1 d μ1) → (∀ x fs μ1, (∃ w v, toldX x fs = some (w, v) ∧ Q (.tup [.str w, v]) μ1) → E1 x fs μ1) → th μ Q1 E1
def t__law_told (f : Addr) (th : DTH) : DTS := (dSeq (dAsg (dTup (dCons (dC .non) (dCons (dC .non) dNil))) (hTup 2 (hCons (hName 1) (hCons (hName 2) hNil))))
    (dSeq (dTryA f th (kX xnames "KeyedError") 2 6 1)
    (dSeq (dIfS (dTest (dIsN (dVar 1))) (dRet (dTup (dCons (dC (.str "returned")) (dCons (dVar 2) dNil)))) dNext)
    (dSeq (dSet (dLst (dCons (dIsX (kX xnames "DifferentRoots") (dVar 1)) (dCons (dIsX (kX xnames "NotKept") (dVar 1)) (dCons (dIsX (kX xnames "Conflict") (dVar 1)) dNil)))) 3)
    (dSeq (dSet (dOp dAdd (dVar 3) (dLst (dCons (dIsX (kX xnames "NoNumber") (dVar 1)) (dCons (dIsX (kX xnames "NotPatch") (dVar 1)) (dCons (dIsX (kX xnames "TooDear") (dVar 1)) dNil))))) 3)
    (dSeq (dIfS (dOr (dTest (dOp (dEq true) (dLM dmCountF (dVar 3) (dCons (dC (.bl true)) dNil)) (dC (.int 1)))) (dNot (dTest (dIsX (kX xnames "ValueError") (dVar 1))))) (dRet (dTup (dCons (dC (.str "other")) (dCons (dC .non) dNil)))) dNext)
    (dSeq (dIfS (dTest (dOp dIx (dVar 3) (dC (.int 0)))) (dRet (dTup (dCons (dC (.str "roots")) (dCons (dC .non) dNil)))) dNext)
    (dSeq (dFor (jSeq (dTup (dCons (dTup (dCons (dC (.int 1)) (dCons (dC (.str "kept")) dNil))) (dCons (dTup (dCons (dC (.int 2)) (dCons (dC (.str "conflict")) dNil))) (dCons (dTup (dCons (dC (.int 4)) (dCons (dC (.str "patch")) dNil))) dNil))))) (hTup 2 (hCons (hName 4) (hCons (hName 5) hNil))) (dIfS (dTest (dOp dIx (dVar 3) (dVar 4))) (dRet (dTup (dCons (dVar 5) (dCons (dFld "value" (dVar 1)) dNil)))) dNext))
    (dRet (dIf (dTest (dOp dIx (dVar 3) (dC (.int 3)))) (dTup (dCons (dC (.str "number")) (dCons (dFld "number" (dVar 1)) dNil))) (dTup (dCons (dC (.str "dear")) (dCons (dFld "key" (dVar 1)) dNil)))))))))))))
theorem isX_ok {ρ : Rho} {μ : Mu} {i : Nat} {c x : Str} {fs : List (Str × SD)} {b : Bool} {Q : SD → Mu → Prop} (h : ρ[i]? = some (some (.exc x fs))) (k : kX xnames c x = some b) (q : Q (.bl b) μ) : dIsX (kX xnames c) (dVar i) ρ μ Q := by
  refine r_var h ?_
  unfold DS.isQ
  simp only [k]
  exact q
theorem fld_ok {ρ : Rho} {μ : Mu} {i : Nat} {f x : Str} {fs : List (Str × SD)} {v : SD} {Q : SD → Mu → Prop} (h : ρ[i]? = some (some (.exc x fs))) (k : fs.lookup f = some v) (q : Q v μ) : dFld f (dVar i) ρ μ Q := by
  refine r_var h ?_
  simp only [k]
  exact q
/-- what stands behind the try, when an error came -/
theorem told_rest {f : Addr} {x : Str} {fs : List (Str × SD)} {w : Str} {v : SD} {μ : Mu} {Q : SD → Mu → Prop} {b0 b1 b2 b3 b4 b5 : Bool}
    (k0 : kX xnames "DifferentRoots" x = some b0) (k1 : kX xnames "NotKept" x = some b1) (k2 : kX xnames "Conflict" x = some b2) (k3 : kX xnames "NoNumber" x = some b3) (k4 : kX xnames "NotPatch" x = some b4) (k5 : kX xnames "TooDear" x = some b5) (kv : kX xnames "ValueError" x = some true)
    (one : ([b0, b1, b2, b3, b4, b5].map SD.bl).countP (fun y => eqA y (.bl true)) = 1) (q : Q (.tup [.str w, v]) μ)
    (h0 : b0 = true → w = "roots" ∧ v = .non) (h1 : b1 = true → w = "kept" ∧ fs.lookup ("value" : Str) = some v) (h2 : b2 = true → w = "conflict" ∧ fs.lookup ("value" : Str) = some v) (h4 : b4 = true → w = "patch" ∧ fs.lookup ("value" : Str) = some v)
    (h3 : b0 = false → b1 = false → b2 = false → b4 = false → b3 = true → w = "number" ∧ fs.lookup ("number" : Str) = some v) (h5 : b0 = false → b1 = false → b2 = false → b4 = false → b3 = false → w = "dear" ∧ fs.lookup ("key" : Str) = some v) :
    ((dSeq (dIfS (dTest (dIsN (dVar 1))) (dRet (dTup (dCons (dC (.str "returned")) (dCons (dVar 2) dNil)))) dNext)
    (dSeq (dSet (dLst (dCons (dIsX (kX xnames "DifferentRoots") (dVar 1)) (dCons (dIsX (kX xnames "NotKept") (dVar 1)) (dCons (dIsX (kX xnames "Conflict") (dVar 1)) dNil)))) 3)
    (dSeq (dSet (dOp dAdd (dVar 3) (dLst (dCons (dIsX (kX xnames "NoNumber") (dVar 1)) (dCons (dIsX (kX xnames "NotPatch") (dVar 1)) (dCons (dIsX (kX xnames "TooDear") (dVar 1)) dNil))))) 3)
    (dSeq (dIfS (dOr (dTest (dOp (dEq true) (dLM dmCountF (dVar 3) (dCons (dC (.bl true)) dNil)) (dC (.int 1)))) (dNot (dTest (dIsX (kX xnames "ValueError") (dVar 1))))) (dRet (dTup (dCons (dC (.str "other")) (dCons (dC .non) dNil)))) dNext)
    (dSeq (dIfS (dTest (dOp dIx (dVar 3) (dC (.int 0)))) (dRet (dTup (dCons (dC (.str "roots")) (dCons (dC .non) dNil)))) dNext)
    (dSeq (dFor (jSeq (dTup (dCons (dTup (dCons (dC (.int 1)) (dCons (dC (.str "kept")) dNil))) (dCons (dTup (dCons (dC (.int 2)) (dCons (dC (.str "conflict")) dNil))) (dCons (dTup (dCons (dC (.int 4)) (dCons (dC (.str "patch")) dNil))) dNil))))) (hTup 2 (hCons (hName 4) (hCons (hName 5) hNil))) (dIfS (dTest (dOp dIx (dVar 3) (dVar 4))) (dRet (dTup (dCons (dVar 5) (dCons (dFld "value" (dVar 1)) dNil)))) dNext))
    (dRet (dIf (dTest (dOp dIx (dVar 3) (dC (.int 3)))) (dTup (dCons (dC (.str "number")) (dCons (dFld "number" (dVar 1)) dNil))) (dTup (dCons (dC (.str "dear")) (dCons (dFld "key" (dVar 1)) dNil)))))))))))) { nx := fun _ μ' => Q .non μ', rt := Q } [some (.ref f), some (.exc x fs), some .non, none, none, none, none] μ := by
  unfold dFor
  refine r_var rfl ?_
  refine ifF rfl ?_
  simp only [dNext]
  refine isX_ok rfl k0 (isX_ok rfl k1 (isX_ok rfl k2 ⟨(by show 3 ≤ sizeLine; decide), ?_⟩))
  dsimp only
  refine r_var rfl ?_
  refine isX_ok rfl k3 (isX_ok rfl k4 (isX_ok rfl k5 ⟨(by show 3 ≤ sizeLine; decide), ?_⟩))
  refine l_add (by show 6 ≤ sizeLine; decide) ?_
  dsimp only [List.cons_append, List.nil_append]
  refine r_var rfl ⟨rfl, ?_⟩
  unfold dmCountF
  dsimp only [lstD]
  refine ⟨⟨rfl, rfl⟩, ?_⟩
  rw [show ([SD.bl b0, SD.bl b1, SD.bl b2, SD.bl b3, SD.bl b4, SD.bl b5] : List SD) = [b0, b1, b2, b3, b4, b5].map SD.bl from rfl, one]
  refine i_ne ?_
  refine ifF rfl ?_
  refine isX_ok rfl kv ?_
  refine ifF rfl ?_
  simp only [dNext]
  refine r_var rfl ?_
  refine ix_lst (d := .bl b0) (atI_nat (j := 0) rfl) ?_
  cases b0 with
  | true =>
    obtain ⟨rfl, rfl⟩ := h0 rfl
    refine ifT rfl ?_
    exact ⟨(by show 2 ≤ sizeLine; decide), q⟩
  | false =>
  refine ifF rfl ?_
  simp only [dNext]
  refine ⟨(by show 2 ≤ sizeLine; decide), ⟨(by show 2 ≤ sizeLine; decide), ⟨(by show 2 ≤ sizeLine; decide), ⟨(by show 3 ≤ sizeLine; decide), ?_⟩⟩⟩⟩
  dsimp only [seqD]
  refine ⟨fun i ρ μ' => (∃ a b, ρ = [some (.ref f), some (.exc x fs), some .non, some (.lst [.bl false, .bl b1, .bl b2, .bl b3, .bl b4, .bl b5]), a, b, none]) ∧ μ' = μ ∧ (0 < i → b1 = false) ∧ (1 < i → b2 = false) ∧ (2 < i → b4 = false),
    ⟨⟨_, _, rfl⟩, rfl, fun z => by omega, fun z => by omega, fun z => by omega⟩, fun _ _ _ _ _ => rfl, ?_, ?_⟩
  · rintro i d ρ μ' hd ⟨⟨a, b, rfl⟩, rfl, c1, c2, c4⟩
    match i, hd with
    | 0, hd =>
      cases hd
      refine ⟨rfl, ?_⟩
      refine ⟨rfl, ?_⟩
      refine r_var rfl ?_
      refine r_var rfl ?_
      refine ix_lst (d := .bl b1) (atI_nat (j := 1) rfl) ?_
      cases b1 with
      | true =>
        obtain ⟨rfl, e⟩ := h1 rfl
        refine ifT rfl ?_
        refine r_var rfl ?_
        exact fld_ok rfl e ⟨(by show 2 ≤ sizeLine; decide), q⟩
      | false =>
        refine ifF rfl ?_
        exact ⟨⟨_, _, rfl⟩, rfl, fun _ => rfl, fun z => by omega, fun z => by omega⟩
    | 1, hd =>
      cases hd
      refine ⟨rfl, ?_⟩
      refine ⟨rfl, ?_⟩
      refine r_var rfl ?_
      refine r_var rfl ?_
      refine ix_lst (d := .bl b2) (atI_nat (j := 2) rfl) ?_
      cases b2 with
      | true =>
        obtain ⟨rfl, e⟩ := h2 rfl
        refine ifT rfl ?_
        refine r_var rfl ?_
        exact fld_ok rfl e ⟨(by show 2 ≤ sizeLine; decide), q⟩
      | false =>
        refine ifF rfl ?_
        exact ⟨⟨_, _, rfl⟩, rfl, fun _ => c1 (by omega), fun _ => rfl, fun z => by omega⟩
    | 2, hd =>
      cases hd
      refine ⟨rfl, ?_⟩
      refine ⟨rfl, ?_⟩
      refine r_var rfl ?_
      refine r_var rfl ?_
      refine ix_lst (d := .bl b4) (atI_nat (j := 4) rfl) ?_
      cases b4 with
      | true =>
        obtain ⟨rfl, e⟩ := h4 rfl
        refine ifT rfl ?_
        refine r_var rfl ?_
        exact fld_ok rfl e ⟨(by show 2 ≤ sizeLine; decide), q⟩
      | false =>
        refine ifF rfl ?_
        exact ⟨⟨_, _, rfl⟩, rfl, fun _ => c1 (by omega), fun _ => c2 (by omega), fun _ => rfl⟩
    | i + 3, hd => simp at hd
  · rintro ρ μ' ⟨⟨a, b, rfl⟩, rfl, c1, c2, c4⟩
    have e1 := c1 (by decide)
    have e2 := c2 (by decide)
    have e4 := c4 (by decide)
    refine r_var rfl ?_
    refine ix_lst (d := .bl b3) (atI_nat (j := 3) rfl) ?_
    cases b3 with
    | true =>
      obtain ⟨rfl, e⟩ := h3 rfl e1 e2 e4 rfl
      refine ifT rfl ?_
      exact fld_ok rfl e ⟨(by show 2 ≤ sizeLine; decide), q⟩
    | false =>
      obtain ⟨rfl, e⟩ := h5 rfl e1 e2 e4 rfl
      refine ifF rfl ?_
      exact fld_ok rfl e ⟨(by show 2 ≤ sizeLine; decide), q⟩
theorem read__law_told : ∀ f th μ Q, sp__law_told th μ Q → t__law_told f th { nx := fun _ μ' => Q .non μ', rt := Q } (begin_ ["_law_ask", "_law_caught", "_law_found", "_law_marks", "_law_at", "_law_word", "error"] [.ref f]) μ := by
  intro f th μ Q h
  unfold t__law_told
  refine ⟨(by show 2 ≤ sizeLine; decide), ?_⟩
  refine ⟨rfl, ?_⟩
  refine ⟨rfl, ?_⟩
  refine ⟨⟨rfl, (by show 6 < 7; decide)⟩, ?_⟩
  refine h _ _ (fun d μ1 q => ?_) fun x fs μ1 q => ?_
  · dsimp only [List.set_cons_zero, List.set_cons_succ]
    refine r_var (i := 1) rfl ?_
    refine ifT rfl ?_
    refine r_var (i := 2) rfl ?_
    exact ⟨(by show 2 ≤ sizeLine; decide), q⟩
  · obtain ⟨w, v, e, q⟩ := q
    unfold toldX at e
    split at e
    · rename_i z; subst z; cases e
      exact ⟨by decide +kernel, told_rest (x := "DifferentRoots") (b0 := true) (b1 := false) (b2 := false) (b3 := false) (b4 := false) (b5 := false) (by decide +kernel) (by decide +kernel) (by decide +kernel) (by decide +kernel) (by decide +kernel) (by decide +kernel) (by decide +kernel) rfl q (fun _ => ⟨rfl, rfl⟩) (fun z => by cases z) (fun z => by cases z) (fun z => by cases z) (fun z => by cases z) (fun z => by cases z)⟩
    split at e
    · rename_i z; subst z
      rw [Option.map_eq_some_iff] at e
      obtain ⟨v', e, e'⟩ := e
      cases e'
      exact ⟨by decide +kernel, told_rest (x := "NotKept") (b0 := false) (b1 := true) (b2 := false) (b3 := false) (b4 := false) (b5 := false) (by decide +kernel) (by decide +kernel) (by decide +kernel) (by decide +kernel) (by decide +kernel) (by decide +kernel) (by decide +kernel) rfl q (fun z => by cases z) (fun _ => ⟨rfl, e⟩) (fun z => by cases z) (fun z => by cases z) (fun _ z => by cases z) (fun _ z => by cases z)⟩
    split at e
    · rename_i z; subst z
      rw [Option.map_eq_some_iff] at e
      obtain ⟨v', e, e'⟩ := e
      cases e'
      exact ⟨by decide +kernel, told_rest (x := "Conflict") (b0 := false) (b1 := false) (b2 := true) (b3 := false) (b4 := false) (b5 := false) (by decide +kernel) (by decide +kernel) (by decide +kernel) (by decide +kernel) (by decide +kernel) (by decide +kernel) (by decide +kernel) rfl q (fun z => by cases z) (fun z => by cases z) (fun _ => ⟨rfl, e⟩) (fun z => by cases z) (fun _ _ z => by cases z) (fun _ _ z => by cases z)⟩
    split at e
    · rename_i z; subst z
      rw [Option.map_eq_some_iff] at e
      obtain ⟨v', e, e'⟩ := e
      cases e'
      exact ⟨by decide +kernel, told_rest (x := "NotPatch") (b0 := false) (b1 := false) (b2 := false) (b3 := false) (b4 := true) (b5 := false) (by decide +kernel) (by decide +kernel) (by decide +kernel) (by decide +kernel) (by decide +kernel) (by decide +kernel) (by decide +kernel) rfl q (fun z => by cases z) (fun z => by cases z) (fun z => by cases z) (fun _ => ⟨rfl, e⟩) (fun _ _ _ z => by cases z) (fun _ _ _ z => by cases z)⟩
    split at e
    · rename_i z; subst z
      rw [Option.map_eq_some_iff] at e
      obtain ⟨v', e, e'⟩ := e
      cases e'
      exact ⟨by decide +kernel, told_rest (x := "NoNumber") (b0 := false) (b1 := false) (b2 := false) (b3 := true) (b4 := false) (b5 := false) (by decide +kernel) (by decide +kernel) (by decide +kernel) (by decide +kernel) (by decide +kernel) (by decide +kernel) (by decide +kernel) rfl q (fun z => by cases z) (fun z => by cases z) (fun z => by cases z) (fun z => by cases z) (fun _ _ _ _ _ => ⟨rfl, e⟩) (fun _ _ _ _ z => by cases z)⟩
    split at e
    · rename_i z; subst z
      rw [Option.map_eq_some_iff] at e
      obtain ⟨v', e, e'⟩ := e
      cases e'
      exact ⟨by decide +kernel, told_rest (x := "TooDear") (b0 := false) (b1 := false) (b2 := false) (b3 := false) (b4 := false) (b5 := true) (by decide +kernel) (by decide +kernel) (by decide +kernel) (by decide +kernel) (by decide +kernel) (by decide +kernel) (by decide +kernel) rfl q (fun z => by cases z) (fun z => by cases z) (fun z => by cases z) (fun z => by cases z) (fun _ _ _ _ z => by cases z) (fun _ _ _ _ _ => ⟨rfl, e⟩)⟩
    · cases e
end LK
namespace LK
open PySem PySem.Spec PyProof.Rows L2 DS MA
def Lam46 (μ : Mu) : Prop := ∃ P, μ P = some (.tab P "_law_right" "_law_right.<locals>.<lambda>")
theorem Lam46.le {μ μ' : Mu} (h : Lam46 μ) (l : Le μ μ') : Lam46 μ' := let ⟨P, e⟩ := h; ⟨P, l _ _ e⟩
theorem Lam46.lex {μ μ' : Mu} {h : Addr} {T : Nat} (L : Lam46 μ) (H : HandAt μ h T) (l : LeX h μ μ') : Lam46 μ' := by
  obtain ⟨P, e⟩ := L
  refine ⟨P, l _ _ (fun z => ?_) e⟩
  obtain ⟨g, m, t, e2, _⟩ := H.ex
  rw [z, e2] at e; cases e
theorem clipN (ns : List Int) {N : Int} {n : Nat} (hN : N = (n : Nat)) (h1 : 1 ≤ n) : ∃ r : Nat, r ≤ n ∧ (if (if ((ns.map SD.int).length : Int) < N then ((ns.map SD.int).length : Int) else N) > 1 then (if ((ns.map SD.int).length : Int) < N then ((ns.map SD.int).length : Int) else N) else 1) = (r : Int) := by
  subst hN
  refine ⟨(if (if ((ns.map SD.int).length : Int) < (n : Int) then ((ns.map SD.int).length : Int) else (n : Int)) > 1 then (if ((ns.map SD.int).length : Int) < (n : Int) then ((ns.map SD.int).length : Int) else (n : Int)) else 1).toNat, ?_, ?_⟩ <;> split <;> split <;> omega
theorem all_trueC {μ : Mu} {Q : SD → Mu → Prop} {n : Nat} (q : Q (.bl true) μ) : drBls (fun bs => bs.all _root_.id) [.lst ((List.replicate n true).map SD.bl)] μ Q := by
  unfold drBls
  simp only [lstD, blsOf_map]
  have : (List.replicate n true).all _root_.id = true := by rw [List.all_eq_true]; intro x hx; rw [(List.mem_replicate.mp hx).2]; rfl
  rw [this]; exact q
theorem rep_snocC {i : Nat} : (List.replicate (i + 1) true).map SD.bl = (List.replicate i true).map SD.bl ++ [.bl true] := by
  rw [List.replicate_succ', List.map_append]; rfl
theorem i_minC {μ : Mu} {Q : SD → Mu → Prop} {m n : Int} (q : Q (.int (if n < m then n else m)) μ) : drI2 (fun i j => if j < i then j else i) [.int m, .int n] μ Q := q
theorem i_maxC {μ : Mu} {Q : SD → Mu → Prop} {m n : Int} (q : Q (.int (if n > m then n else m)) μ) : drI2 (fun i j => if j > i then j else i) [.int m, .int n] μ Q := q
def sp_law : DSp := fun ds μ Q _ => ∃ ns : List Int, ds = [.rol (ns.map SD.int)] ∧ ns.length ≤ 63 ∧ Lam46 μ ∧ ∀ μ', Q (.bl true) μ'
theorem len_law : ∀ ds μ Q E, sp_law ds μ Q E → ds.length = 1 := by rintro ds μ Q E ⟨ns, rfl, _⟩; rfl
theorem law_takes {ns : List Int} {T : Addr} (hl : ns.length ≤ 63) : ∀ μ, μ T = some (.tab T "_law_right" "_law_right.<locals>.<lambda>") → sp_law [.rol (ns.map SD.int)] μ (fun d _ => d = .bl true) (fun _ _ _ => False) := fun μ h => ⟨ns, rfl, hl, ⟨T, h⟩, fun _ => rfl⟩
/-- the law's text, over the promise sp of one hand -/
abbrev tLawC (sp : DSp) (N : Int) : DTS := (dRet (dCB (drBls fun bs => bs.all _root_.id) (dCons (dLcS (jRng1 (dCons (dCB (drI2 fun i j => if j > i then j else i) (dCons (dC (.int 1)) (dCons (dCB (drI2 fun i j => if j < i then j else i) (dCons (dC (.int N)) (dCons (dCB drLen (dCons (dVar 0) dNil)) dNil))) dNil))) dNil)) (hName 1) dYes (dCall sp [] (dCons (dCall sp__law_hand [] (dCons (dVar 0) (dCons (dVar 1) dNil))) dNil)) [1]) dNil)))
theorem lawC_loop {sp : DSp} {n : Nat} (hsp : ∀ μ h Q E, HandAt μ h 0 → Lam46 μ → (∀ μ', LeX h μ μ' → Q (.bl true) μ') → sp [.ref h] μ Q E) {N : Int} (hN : N = (n : Nat)) (h1 : 1 ≤ n) (hn : n ≤ 60) : ∀ ds μ Q E, sp_law ds μ Q E → tLawC sp N { nx := fun _ μ' => Q .non μ', rt := Q } (begin_ ["_law_script", "_law_k"] ds) μ := by
  rintro ds μ Q E ⟨ns, rfl, hl, L, q⟩
  unfold tLawC dLcS dLc
  refine r_var rfl ?_
  refine l_lenO ?_
  refine i_minC ?_
  refine i_maxC ?_
  obtain ⟨r, r3, hre⟩ := clipN ns hN h1
  rw [hre]
  refine ⟨⟨by omega, by omega⟩, le_line (m := 100) (by simp; omega) (by omega), fun i acc μ' => acc = (List.replicate i true).map SD.bl ∧ Lam46 μ', ⟨rfl, L⟩, fun _ _ _ _ _ => trivial, ?_, ?_⟩
  · rintro i d acc μ1 hd ⟨rfl, L1⟩
    have hi := (List.getElem?_eq_some_iff.mp hd).1
    simp at hi
    have hdv : d = .int (i : Nat) := by
      rw [List.getElem?_map, List.getElem?_range (by simpa using hi)] at hd
      exact (Option.some.inj hd).symm
    subst hdv
    refine ifT rfl ?_
    refine r_var rfl ?_
    refine r_var rfl ?_
    refine ⟨ns, i, rfl, by omega, fun p μ2 hp le H => ?_⟩
    refine hsp _ p _ _ H (L1.le le) fun μ3 l3 => ?_
    exact ⟨rep_snocC.symm, (L1.le le).lex H l3⟩
  · rintro acc μ1 ⟨rfl, L1⟩
    exact all_trueC (q μ1)
theorem si_val {p : Str × Int} (hk : KeyOk p.1) (h : 1 ≤ p.2 ∧ p.2 ≤ 1000) : Val 0 1 100 (siD p) := by
  have a : ValL 0 0 (p.1.cps.size + 1 + (0 + 1)) [.str p.1, .int p.2] := ValL.cons (Val.str hk.1) (ValL.one (Val.int (by omega)))
  have := hk.2
  exact (Val.tup a).mono (Nat.le_refl _) (Nat.le_refl _) (by show p.1.cps.size + 1 + (0 + 1) ≤ 100; have : p.1.cps.size ≤ 61 := this; omega)
theorem wOk46 : KeyOk "create" ∧ KeyOk "move" ∧ KeyOk "remove" := wOk39
theorem opt_val46 {b : Option Str} (h : ∀ y, b = some y → KeyOk y) : Val 0 0 61 (optS b) := by
  cases b with
  | none => exact Val.non.mono (Nat.le_refl _) (Nat.le_refl _) (by omega)
  | some y => exact (Val.str (h y rfl).1).mono (Nat.le_refl _) (Nat.le_refl _) (h y rfl).2
theorem str_val46 {y : Str} (h : KeyOk y) : Val 0 0 61 (.str y) := (Val.str h.1).mono (Nat.le_refl _) (Nat.le_refl _) h.2
theorem op_val46 {o : Op} (h : OpAll KeyOk o) : Val 0 1 300 (encO o) := by
  cases o with
  | create x h2 b =>
    obtain ⟨a1, a2, a3⟩ := h
    exact (Val.tup (ValL.cons (str_val46 wOk46.1) (ValL.cons (str_val46 a1) (ValL.cons (str_val46 a2) (ValL.one (opt_val46 a3)))))).mono (Nat.le_refl _) (Nat.le_refl _) (by omega)
  | move x h2 b =>
    obtain ⟨a1, a2, a3⟩ := h
    exact (Val.tup (ValL.cons (str_val46 wOk46.2.1) (ValL.cons (str_val46 a1) (ValL.cons (str_val46 a2) (ValL.one (opt_val46 a3)))))).mono (Nat.le_refl _) (Nat.le_refl _) (by omega)
  | remove x => exact (Val.tup (ValL.cons (str_val46 wOk46.2.2) (ValL.one (str_val46 (show KeyOk x from h))))).mono (Nat.le_refl _) (Nat.le_refl _) (by omega)
theorem held_val46 {os : List Op} {L : List (Str × Int)} (ho : ∀ o ∈ os, OpAll KeyOk o) (hl : os.length ≤ 400) (kL : ∀ p ∈ L, KeyOk p.1 ∧ 1 ≤ p.2 ∧ p.2 ≤ 1000) (ll : L.length ≤ 100) : Val 0 61 140000 (.tup [.tup (os.map encO), .tup (L.map siD)]) := by
  have v1 : Val 0 60 121000 (.tup (os.map encO)) := (Val.tup (ValL.of (n := 400) (B := 300) (D := 1) (m := 0) (fun d hd => by
    obtain ⟨o, h, rfl⟩ := List.mem_map.mp hd
    exact op_val46 (ho o h)) (by rw [List.length_map]; exact hl))).mono (Nat.le_refl _) (by omega) (by omega)
  have v3 : Val 0 60 12000 (.tup (L.map siD)) := (Val.tup (ValL.of (n := 100) (B := 100) (D := 1) (m := 0) (fun d hd => by
    obtain ⟨p, hp, rfl⟩ := List.mem_map.mp hd
    exact si_val (kL p hp).1 (kL p hp).2) (by rw [List.length_map]; exact ll))).mono (Nat.le_refl _) (by omega) (by omega)
  exact (Val.tup (ValL.cons v1 (ValL.one v3))).mono (Nat.le_refl _) (by omega) (by omega)
theorem opAll_imp {P Q : Str → Prop} (h : ∀ k, P k → Q k) {o : Op} (a : OpAll P o) : OpAll Q o := by
  cases o with
  | create x h2 b => exact ⟨h _ a.1, h _ a.2.1, fun y e => h _ (a.2.2 y e)⟩
  | move x h2 b => exact ⟨h _ a.1, h _ a.2.1, fun y e => h _ (a.2.2 y e)⟩
  | remove x => exact h _ a
theorem opAll_key {P : Str → Prop} {o : Op} (a : OpAll P o) : P o.key := by
  cases o with
  | create x h2 b => exact a.1
  | move x h2 b => exact a.1
  | remove x => exact a
/-- the greatest of some that are there -/
theorem maxR46 {l : List Int} {μ : Mu} {Q : SD → Mu → Prop} (h0 : 0 < l.length) (q : ∀ m ∈ l, (∀ y ∈ l, y ≤ m) → Q (.int m) μ) : drMost (fun y m => y ≤ m) [.lst (l.map SD.int)] μ Q := by
  unfold drMost
  simp only [lstD, intsOf_map]
  exact ⟨h0, q⟩
theorem ne_pair46 {a b : Str} (ha : KeyOk a) (hb : KeyOk b) {μ : Mu} {Q : SD → Mu → Prop} (q : Q (.bl false) μ) : dEq true (.tup [.str a, .str b]) (.tup [.str a, .str b]) μ Q := by
  obtain ⟨ps, g⟩ := GoodL.of (D := 0) (B := 61) (ds := [.str a, .str b]) fun d hd => by
    simp only [List.mem_cons, List.not_mem_nil, or_false] at hd
    rcases hd with rfl | rfl
    · exact gStr39 ha
    · exact gStr39 hb
  have g := Good.tup g
  have e : eqD μ (.tup [.str a, .str b]) (.tup [.str a, .str b]) = some true := by
    unfold eqD
    simp only [g.notref μ]
    rw [if_pos ⟨g.shaped (by decide), g.shaped (by decide)⟩, PySem.SeqAt.eqv_refl _ g.cl]
  unfold dEq
  rw [e]
  exact q
theorem eq_nil46 {μ : Mu} {Q : SD → Mu → Prop} (q : Q (.bl true) μ) : dEq false (.tup []) (.tup []) μ Q := by
  have g := Good.tup GoodL.nil
  have e : eqD μ (.tup []) (.tup []) = some true := by
    unfold eqD
    simp only [g.notref μ]
    rw [if_pos ⟨g.shaped (by decide), g.shaped (by decide)⟩, PySem.SeqAt.eqv_refl _ g.cl]
  unfold dEq
  rw [e]
  exact q
theorem zips46 {os : List Op} {w : Op → Int} : zips (os.map encO) ((os.map w).map SD.int) = os.map fun o => .tup [encO o, .int (w o)] := by
  induction os with
  | nil => rfl
  | cons o os ih => rw [List.map_cons, List.map_cons, List.map_cons, List.map_cons, ← ih]; rfl
theorem prO_pos {w : Str → Int} (h : ∀ k, 1 ≤ w k) (o : Op) : 0 ≤ prO w o := by
  unfold prO
  split
  · have := h o.key; omega
  · omega
/-- one asked, with this most -/
theorem ask46 {μ : Mu} {P : Addr} {os : List Op} {L : List (Str × Int)} {most : Int} {ρ : Rho} {Q : SD → Mu → Prop} (tab : μ P = some (.tab P "_law_right" "_law_right.<locals>.<lambda>")) (r3 : ρ[3]? = some (some (.tup (os.map encO)))) (r4 : ρ[4]? = some (some (.ptp (L.map siD)))) (r8 : ρ[8]? = some (some (.int most)))
    (nd : (L.map (·.1)).Nodup) (hl : os.length ≤ 400) (q0 : dearO (pr L) most os = none → ∀ μ', Le μ μ' → Q (.tup [.str "returned", .tup ((batL (pr L) most [] [] 0 os).map opsD)]) μ') (q1 : ∀ op, dearO (pr L) most os = some op → ∀ μ', Le μ μ' → Q (.tup [.str "dear", .str op.key]) μ') :
    dLam "_law_right" "_law_right.<locals>.<lambda>" sp__law_told (fun Ex => (dCallX sp_batched [] Ex (dCons (dVar 3) (dCons (dVar 4) (dCons (dVar 8) dNil))))) ρ μ Q := by
  refine ⟨P, tab, fun Q1 E1 h1 h2 => ?_⟩
  refine r_var r3 ?_
  refine r_var r4 ?_
  refine r_var r8 ?_
  exact ⟨os, L, most, rfl, nd, hl, fun e μ' l => h1 _ _ (q0 e μ' l), fun op e μ' l => h2 _ _ _ ⟨"dear", .str op.key, rfl, q1 op e μ' l⟩⟩
theorem many46 {ρ : Rho} {μ : Mu} {h : Addr} {T i : Nat} {R : SD → Mu → Prop} (r0 : ρ[0]? = some (some (.ref h))) (r2 : ρ[2]? = some (some (.int (i : Nat)))) (H : HandAt μ h T) (hT : T ≤ 800000000) (q : ∀ (many : Nat) μ', many ≤ 400 → HandAt μ' h (T + 1) → LeX h μ μ' → R (.int (many : Nat)) μ') :
    dIf (dTest (dOp dLt (dVar 2) (dC (.int 4)))) (dCall sp__law_take [] (dCons (dVar 0) (dCons (dC (.int 41)) dNil))) (dC (.int 400)) ρ μ R := by
  refine r_var r2 ?_
  refine i_lt ?_
  by_cases g : ((i : Nat) : Int) < 4
  · refine ifT (decide_eq_true g) ?_
    refine r_var r0 ?_
    refine ⟨h, 41, T, rfl, by decide, by decide, by omega, H, fun d μ' d0 d1 H' l' => ?_⟩
    obtain ⟨j, rfl⟩ := Int.eq_ofNat_of_zero_le d0
    exact q j μ' (by omega) H' l'
  · refine ifF (decide_eq_false g) ?_
    exact q 400 μ (Nat.le_refl _) (H.mono (by omega)) (LeX.refl h μ)
theorem l0_46 {xs : List SD} {μ : Mu} {Q : SD → Mu → Prop} (q : Q (.bl (true != xs.isEmpty)) μ) : dL0 true (.lst xs) (.lst []) μ Q := by
  unfold dL0
  exact q
/-- those that are too dear, by their keys -/
theorem dear46 {μ : Mu} {os : List Op} {w : Str → Int} {most : Int} {a0 a1 a2 a4 a6 a7 a9 a10 a11 a12 : Option SD} {Q : SD → Mu → Prop} (hl : os.length ≤ 400) (q : ∀ μ', Le μ μ' → Q (.lst ((os.filter fun o => decide (most < prO w o)).map fun o => SD.str o.key)) μ') :
    dLcS (jZipK (dCons (dVar 3) (dCons (dVar 5) dNil))) (hTup 2 (hNames [11, 12])) (dTest (dOp dGt (dVar 12) (dVar 8))) (dOp dIx (dVar 11) (dC (.int 1))) [11, 12] [a0, a1, a2, some (.tup (os.map encO)), a4, some (.lst ((os.map (prO w)).map SD.int)), a6, a7, some (.int most), a9, a10, a11, a12] μ Q := by
  unfold dLcS dLc jZipK
  refine r_var rfl ?_
  refine r_var rfl ?_
  show (zips (os.map encO) ((os.map (prO w)).map SD.int)).length ≤ sizeLine ∧ _
  rw [zips46]
  refine lc_selA (l := os) (f := fun o => .tup [encO o, .int (prO w o)]) (g := fun o => .str o.key) (fun o => decide (most < prO w o)) (fun _ _ => ⟨rfl, rfl⟩) (by omega) (fun o ho μ' lm A B yes no => ?_) fun μ2 l2 => q μ2 l2
  refine ⟨rfl, rfl, ?_⟩
  refine r_var rfl ?_
  refine r_var rfl ?_
  refine i_gt ?_
  by_cases g : most < prO w o
  · refine ifT (decide_eq_true g) ?_
    obtain ⟨z, rest, e, _⟩ := encO_at o
    rw [e]
    refine r_var rfl ?_
    refine ix_tup (d := .str o.key) (atI_nat (j := 1) rfl) ?_
    exact yes (decide_eq_true g) μ' (Le.refl _)
  · refine ifF (decide_eq_false g) ?_
    exact no (decide_eq_false g) μ' (Le.refl _)
def sp__law_right : DSp := fun ds μ Q _ => ∃ h, ds = [.ref h] ∧ HandAt μ h 0 ∧ Lam46 μ ∧ ∀ μ', LeX h μ μ' → Q (.bl true) μ'
theorem len__law_right : ∀ ds μ Q E, sp__law_right ds μ Q E → ds.length = 1 := by rintro ds μ Q E ⟨h, rfl, _⟩; rfl
def t__law_right : DTS := (dSeq (dSet (dCall sp__law_names [] (dCons (dVar 0) (dCons (dC (.int 12)) dNil))) 1)
    (dSeq (dFor (jRng1 (dCons (dC (.int 5)) dNil)) (hName 2) (dSeq (dSet (dCall sp__law_steps [] (dCons (dVar 0) (dCons (dVar 1) (dCons (dIf (dTest (dOp dLt (dVar 2) (dC (.int 4)))) (dCall sp__law_take [] (dCons (dVar 0) (dCons (dC (.int 41)) dNil))) (dC (.int 400))) dNil)))) 3)
    (dSeq (dSet (dCall sp__law_costs [] (dCons (dVar 0) (dCons (dSl (dVar 1) dNoPart (dPart (dC (.int 9)))) dNil))) 4)
    (dSeq (dPar 5 6 (dCons (dCall sp__law_weights [] (dCons (dVar 3) (dCons (dVar 4) dNil))) (dCons (dCB drReprQ (dCons (dTup (dCons (dVar 3) (dCons (dFg (dVar 4)) dNil))) dNil)) dNil)))
    (dSeq (dSet (dCB (drMost fun y m => y ≤ m) (dCons (dOp dAdd (dLst (dCons (dC (.int 1)) dNil)) (dVar 5)) dNil)) 7)
    (dSeq (dFor (jSeq (dTup (dCons (dC (.int 1)) (dCons (dVar 7) (dCons (dOp dAdd (dVar 7) (dCall sp__law_take [] (dCons (dVar 0) (dCons (dC (.int 30)) dNil)))) (dCons (dCB (drI2 fun i j => if j > i then j else i) (dCons (dC (.int 1)) (dCons (dOp dSub (dVar 7) (dC (.int 1))) dNil))) (dCons (dCB (drI2 fun i j => if j > i then j else i) (dCons (dC (.int 1)) (dCons (dCB drSum (dCons (dVar 5) dNil)) dNil))) (dCons (dOp dPow (dC (.int 10)) (dC (.int 9))) dNil)))))))) (hName 8) (dSeq (dSet (dLam "_law_right" "_law_right.<locals>.<lambda>" sp__law_told (fun Ex => (dCallX sp_batched [] Ex (dCons (dVar 3) (dCons (dVar 4) (dCons (dVar 8) dNil)))))) 9)
    (dSeq (dSet (dLcS (jZipK (dCons (dVar 3) (dCons (dVar 5) dNil))) (hTup 2 (hNames [11, 12])) (dTest (dOp dGt (dVar 12) (dVar 8))) (dOp dIx (dVar 11) (dC (.int 1))) [11, 12]) 10)
    (dIfS (dTest (dOp (dL0 true) (dVar 10) (dLst dNil))) (dIfS (dTest (dOp (dEq true) (dVar 9) (dTup (dCons (dC (.str "dear")) (dCons (dOp dIx (dVar 10) (dC (.int 0))) dNil))))) (dRet (dC (.bl false))) dNext) (dIfS (dOr (dTest (dOp (dEq true) (dOp dIx (dVar 9) (dC (.int 0))) (dC (.str "returned")))) (dNot (dTest (dCall sp__law_parts_right [] (dCons (dVar 3) (dCons (dVar 4) (dCons (dVar 8) (dCons (dOp dIx (dVar 9) (dC (.int 1))) dNil)))))))) (dRet (dC (.bl false))) dNext)))))
    (dIfS (dTest (dOp (dEq true) (dCB drReprQ (dCons (dTup (dCons (dVar 3) (dCons (dFg (dVar 4)) dNil))) dNil)) (dVar 6))) (dRet (dC (.bl false))) dNext)))))))
    (dRet (dOp (dEq false) (dCall (calmSp sp_batched) [] (dCons (dTup dNil) (dCons (dTupP dNil) (dCons (dC (.int 1)) dNil)))) (dTup dNil)))))
theorem read__law_right : ∀ ds μ Q E, sp__law_right ds μ Q E → t__law_right { nx := fun _ μ' => Q .non μ', rt := Q } (begin_ ["_law_hand_here", "_law_names_here", "_law_turn", "_law_steps_here", "_law_prices", "_law_weights_here", "_law_held", "_law_top", "_law_most", "_law_told_here", "_law_dear", "_law_step", "_law_weight"] ds) μ := by
  rintro ds μ Q E ⟨h, rfl, H, lam, q⟩
  unfold t__law_right dFor
  refine r_var rfl ?_
  refine ⟨h, 12, 0, rfl, by decide, by decide, H, fun names μ1 nnd nlen nok H1 l1 => ?_⟩
  have lam1 := lam.lex H l1
  rw [show begin_ ["_law_hand_here", "_law_names_here", "_law_turn", "_law_steps_here", "_law_prices", "_law_weights_here", "_law_held", "_law_top", "_law_most", "_law_told_here", "_law_dear", "_law_step", "_law_weight"] [.ref h] = [some (.ref h), none, none, none, none, none, none, none, none, none, none, none, none] from rfl]
  dsimp only [List.set_cons_zero, List.set_cons_succ]
  refine ⟨by decide, ?_⟩
  refine ⟨fun i ρ μ' => (∃ a2 a3 a4 a5 a6 a7 a8 a9 a10 a11 a12 : Option SD, ρ = [some (.ref h), some (.lst (sts names)), a2, a3, a4, a5, a6, a7, a8, a9, a10, a11, a12]) ∧ HandAt μ' h (134 + 2000 * i) ∧ Lam46 μ' ∧ LeX h μ μ', ⟨⟨_, _, _, _, _, _, _, _, _, _, _, rfl⟩, H1.mono (by omega), lam1, l1⟩, fun _ _ _ _ _ => trivial, ?_, ?_⟩
  · rintro i d ρ μ2 hd ⟨⟨a2, a3, a4, a5, a6, a7, a8, a9, a10, a11, a12, rfl⟩, H2, lam2, l2⟩
    have hi : i < 5 := by
      have := (List.getElem?_eq_some_iff.mp hd).1
      simpa using this
    have hdv : d = .int (i : Nat) := by
      rw [List.getElem?_map, List.getElem?_range (show i < (5 : Int).toNat from hi)] at hd
      exact (Option.some.inj hd).symm
    subst hdv
    dsimp only [List.set_cons_zero, List.set_cons_succ]
    refine r_var rfl ?_
    refine r_var rfl ?_
    refine many46 (h := h) (i := i) rfl rfl H2 (by omega) fun many μ3 hm H3 l3 => ?_
    refine ⟨h, _, names, many, rfl, (fun z => by rw [z] at nlen; cases nlen), by omega, hm, H3, by omega, fun os μ4 ol oall H4 l4 => ?_⟩
    dsimp only [List.set_cons_zero, List.set_cons_succ]
    have kk : ∀ o ∈ os, OpAll KeyOk o := fun o ho => opAll_imp (fun k hk => (nok k hk).1) (oall o ho)
    refine r_var rfl ?_
    refine r_var rfl ?_
    refine sl_L ?_
    refine ⟨h, _, names.take 9, by
      show [SD.ref h, SD.lst (cutL (sts names) none (some 9))] = _
      rw [show cutL (sts names) none (some 9) = (sts names).take 9 from cutL_to _ 9, sts, sts, List.map_take], H4, by omega, by simp; omega, nnd.sublist (List.take_sublist 9 names), fun L μ5 ln Lv ll H5 l5 => ?_⟩
    dsimp only [List.set_cons_zero, List.set_cons_succ]
    have ll9 : L.length ≤ 9 := by simp at ll; omega
    have t9 : (names.take 9).length ≤ 9 := by simp; omega
    have Lk : ∀ p ∈ L, KeyOk p.1 ∧ 1 ≤ p.2 ∧ p.2 ≤ 1000 := fun p hp => ⟨(nok _ (List.mem_of_mem_take (Lv p hp).2.2)).1, (Lv p hp).1, (Lv p hp).2.1⟩
    have pos : ∀ k, 1 ≤ pr L k := fun k => by
      by_cases hk : k ∈ L.map (·.1)
      · obtain ⟨p, hp, rfl⟩ := List.mem_map.mp hk
        rw [pr_at ln hp]; exact (Lv p hp).1
      · rw [pr_out hk]; omega
    have hv := held_val46 kk (by omega) Lk (by omega)
    refine r_var rfl ?_
    refine r_var rfl ?_
    refine ⟨os, L, rfl, ln, by omega, fun μ6 l6 => ?_⟩
    refine r_var rfl ?_
    refine r_var rfl ?_
    refine ⟨(by show 2 ≤ sizeLine; decide), ?_⟩
    refine r_reprQ hv (by decide) (by decide) (by omega) ?_
    dsimp only [List.set_cons_zero, List.set_cons_succ]
    refine ⟨(by show 1 ≤ sizeLine; decide), ?_⟩
    refine r_var rfl ?_
    refine l_add (le_line (m := 401) (by simp; omega) (by omega)) ?_
    rw [show [SD.int 1] ++ (os.map (prO (pr L))).map SD.int = (1 :: os.map (prO (pr L))).map SD.int from rfl]
    refine maxR46 (by simp) fun top htop hle => ?_
    dsimp only [List.set_cons_zero, List.set_cons_succ]
    have top1 : 1 ≤ top := hle 1 (List.mem_cons_self ..)
    refine r_var rfl ?_
    refine r_var rfl ?_
    have lxA : LeX h μ μ6 := ((((l2.trans l3).trans l4).trans l5).trans (l6.x h))
    have H6 := H5.le l6
    refine r_var rfl ?_
    refine ⟨h, 30, _, rfl, by decide, by decide, by omega, H6, fun v μ7 v0 v1 H7 l7 => ?_⟩
    refine i_add ?_
    refine r_var rfl ?_
    refine i_sub ?_
    refine i_maxC ?_
    refine r_var rfl ?_
    refine sum_ok ?_
    refine i_maxC ?_
    refine i_pow (n := 9) (pow_ok (n := 9) (by decide) (by decide)) ?_
    refine ⟨(by show 6 ≤ sizeLine; decide), ?_⟩
    dsimp only [seqD]
    have lam7 : Lam46 μ7 := lam.lex H (lxA.trans l7)
    refine ⟨fun j ρ μ' => (∃ a8 a9 a10 a11 a12 : Option SD, ρ = [some (.ref h), some (.lst (sts names)), some (.int (i : Nat)), some (.tup (os.map encO)), some (.ptp (L.map siD)), some (.lst ((os.map (prO (pr L))).map SD.int)), some (.str (shw (.tup [.tup (os.map encO), .tup (L.map siD)]))), some (.int top), a8, a9, a10, a11, a12]) ∧ Le μ7 μ',
      ⟨⟨_, _, _, _, _, rfl⟩, Le.refl _⟩, fun _ _ _ _ _ => rfl, ?_, ?_⟩
    · rintro j d ρ μ8 hd ⟨⟨a8, a9, a10, a11, a12, rfl⟩, l8⟩
      obtain ⟨most, rfl, most1⟩ : ∃ most : Int, d = .int most ∧ 1 ≤ most := by
        have := List.mem_of_getElem? hd
        simp only [List.mem_cons, List.not_mem_nil, or_false] at this
        rcases this with rfl | rfl | rfl | rfl | rfl | rfl
        · exact ⟨_, rfl, by decide⟩
        · exact ⟨_, rfl, top1⟩
        · exact ⟨_, rfl, by omega⟩
        · exact ⟨_, rfl, by split <;> omega⟩
        · exact ⟨_, rfl, by split <;> omega⟩
        · exact ⟨_, rfl, by decide⟩
      dsimp only [List.set_cons_zero, List.set_cons_succ]
      obtain ⟨P, tab⟩ := lam7.le l8
      refine ask46 tab rfl rfl rfl ln (by omega) (fun e μ9 l9 => ?_) (fun op e μ9 l9 => ?_)
      · dsimp only [List.set_cons_zero, List.set_cons_succ]
        refine dear46 (by omega) fun μ10 l10 => ?_
        have none_ : (os.filter fun o => decide (most < prO (pr L) o)) = [] := by
          rw [List.filter_eq_nil_iff]
          intro o ho
          have := List.find?_eq_none.mp e o ho
          exact this
        have cheap : ∀ o ∈ os, prO (pr L) o ≤ most := fun o ho => by
          have := List.find?_eq_none.mp e o ho
          simp at this; exact this
        rw [none_]
        dsimp only [List.set_cons_zero, List.set_cons_succ, List.map_nil]
        refine r_var rfl ?_
        refine ⟨Nat.zero_le _, ?_⟩
        refine l0_46 ?_
        refine ifF rfl ?_
        refine r_var rfl ?_
        refine ix_tup (d := .str "returned") (atI_nat (j := 0) rfl) ?_
        refine eq_ss ?_
        refine ifF (by decide) ?_
        refine r_var rfl ?_
        refine r_var rfl ?_
        refine r_var rfl ?_
        refine r_var rfl ?_
        refine ix_tup (d := .tup ((batL (pr L) most [] [] 0 os).map opsD)) (atI_nat (j := 1) rfl) ?_
        obtain ⟨b1, b2, b3⟩ := bat_parts os [] [] 0 rfl (by omega) cheap (by simp) (.inl ⟨rfl, rfl⟩)
        refine ⟨os, L, most, _, rfl, ln, by omega, by simpa using b1, b2, b3, kk, fun o ho => ⟨prO_pos pos o, cheap o ho⟩, fun bs b D hb eb => ?_, fun μ11 l11 => ?_⟩
        · have := bat_fewest D hb (fun o ho => ⟨prO_pos pos o, cheap o ho⟩) (by omega) os [] [] [] 0 0 rfl (Nat.le_refl _) (by simp) (by omega) (by simp) D.zero (fun j b h1 h2 => by simp at h2; omega) (fun i j b _ _ _ _ _ => Nat.zero_le _)
          rw [eb] at this
          cases this; rfl
        · refine ifF rfl ?_
          exact ⟨⟨_, _, _, _, _, rfl⟩, ((l8.trans l9).trans l10).trans l11⟩
      · dsimp only [List.set_cons_zero, List.set_cons_succ]
        refine dear46 (by omega) fun μ10 l10 => ?_
        obtain ⟨r, er⟩ : ∃ r, (os.filter fun o => decide (most < prO (pr L) o)) = op :: r := by
          have : (os.filter fun o => decide (most < prO (pr L) o)).head? = some op := by rw [List.head?_filter]; exact e
          cases z : (os.filter fun o => decide (most < prO (pr L) o)) with
          | nil => rw [z] at this; cases this
          | cons a r => rw [z] at this; cases this; exact ⟨r, rfl⟩
        rw [er]
        dsimp only [List.set_cons_zero, List.set_cons_succ, List.map_cons]
        have hop := opAll_key (kk op (List.mem_of_find?_eq_some e))
        refine r_var rfl ?_
        refine ⟨Nat.zero_le _, ?_⟩
        refine l0_46 ?_
        refine ifT rfl ?_
        refine r_var rfl ?_
        refine r_var rfl ?_
        refine ix_lst (d := .str op.key) (atI_nat (j := 0) rfl) ?_
        refine ⟨(by show 2 ≤ sizeLine; decide), ?_⟩
        refine ne_pair46 (by exact ⟨by decide +kernel, by decide +kernel⟩) hop ?_
        refine ifF rfl ?_
        exact ⟨⟨_, _, _, _, _, rfl⟩, (l8.trans l9).trans l10⟩
    · rintro ρ μ8 ⟨⟨a8, a9, a10, a11, a12, rfl⟩, l8⟩
      refine r_var rfl ?_
      refine r_var rfl ?_
      refine ⟨(by show 2 ≤ sizeLine; decide), ?_⟩
      refine r_reprQ hv (by decide) (by decide) (by omega) ?_
      refine r_var rfl ?_
      refine eq_ss ?_
      refine ifF (by rw [show fgT (.ptp (L.map siD)) = .tup (L.map siD) from rfl, decide_eq_true rfl]; rfl) ?_
      exact ⟨⟨_, _, _, _, _, _, _, _, _, _, _, rfl⟩, ((H7.le l8)).mono (by omega), lam7.le l8, (lxA.trans l7).trans (l8.x h)⟩
  · rintro ρ μ2 ⟨⟨a2, a3, a4, a5, a6, a7, a8, a9, a10, a11, a12, rfl⟩, H2, lam2, l2⟩
    refine ⟨Nat.zero_le _, ⟨Nat.zero_le _, ?_⟩⟩
    refine ⟨[], [], 1, rfl, by simp, by simp, fun _ μ3 l3 => ?_, fun op e => by cases e⟩
    refine ⟨Nat.zero_le _, ?_⟩
    refine eq_nil46 ?_
    exact q _ (l2.trans (l3.x h))
def t_law : DTS := (dRet (dCB (drBls fun bs => bs.all _root_.id) (dCons (dLcS (jRng1 (dCons (dCB (drI2 fun i j => if j > i then j else i) (dCons (dC (.int 1)) (dCons (dCB (drI2 fun i j => if j < i then j else i) (dCons (dC (.int 3)) (dCons (dCB drLen (dCons (dVar 0) dNil)) dNil))) dNil))) dNil)) (hName 1) dYes (dCall sp__law_right [] (dCons (dCall sp__law_hand [] (dCons (dVar 0) (dCons (dVar 1) dNil))) dNil)) [1]) dNil)))
theorem read_law : ∀ ds μ Q E, sp_law ds μ Q E → t_law { nx := fun _ μ' => Q .non μ', rt := Q } (begin_ ["_law_script", "_law_k"] ds) μ := lawC_loop (n := 3) (fun μ h Q E H L q => ⟨h, rfl, H, L, q⟩) rfl (by decide) (by decide)
end LK
namespace LK
open PySem PySem.Spec PyProof.Rows L2 DS MA
def top (i : Nat) : Stmt := PySem.Challenge.pw_keyedmoves_k46_batches.main.body.getD i (.Pass ⟨0, 0, 0, 0⟩)
abbrev s_price_of : Stmt := top 10
abbrev s_batched : Stmt := top 13
abbrev s__law_hand : Stmt := top 15
abbrev s__law_take : Stmt := top 16
abbrev s__law_of : Stmt := top 17
abbrev s__law_mixed : Stmt := top 18
abbrev s__law_names : Stmt := top 19
abbrev s__law_price : Stmt := top 20
abbrev s__law_costs : Stmt := top 21
abbrev s__law_told : Stmt := top 22
abbrev s__law_steps : Stmt := top 23
abbrev s__law_weights : Stmt := top 24
abbrev s__law_fewest : Stmt := top 25
abbrev s__law_parts_right : Stmt := top 26
abbrev s__law_right : Stmt := top 27
abbrev s_law : Stmt := top 28
theorem sc_price_of : FnScope ["costs", "key"] ["costs", "key"] (defScope s_price_of) := ⟨rfl, rfl, rfl, by decide +kernel, rfl, by decide +kernel, by decide +kernel⟩
theorem sc_batched : FnScope ["operations", "costs", "most", "parts", "last", "spent", "operation", "price"] ["operations", "costs", "most"] (defScope s_batched) := ⟨rfl, rfl, rfl, by decide +kernel, rfl, by decide +kernel, by decide +kernel⟩
theorem sc__law_hand : FnScope ["_law_script", "_law_k", "_law_cell", "_law_bound", "_law_great"] ["_law_script", "_law_k"] (defScope s__law_hand) := ⟨rfl, rfl, rfl, by decide +kernel, rfl, by decide +kernel, by decide +kernel⟩
theorem sc__law_take : FnScope ["_law_hand_here", "_law_many", "_law_turn", "_law_prime", "_law_mixed_here", "_law_digit"] ["_law_hand_here", "_law_many"] (defScope s__law_take) := ⟨rfl, rfl, rfl, by decide +kernel, rfl, by decide +kernel, by decide +kernel⟩
theorem sc__law_of : FnScope ["_law_hand_here", "_law_some"] ["_law_hand_here", "_law_some"] (defScope s__law_of) := ⟨rfl, rfl, rfl, by decide +kernel, rfl, by decide +kernel, by decide +kernel⟩
theorem sc__law_mixed : FnScope ["_law_hand_here", "_law_some", "_law_left", "_law_found"] ["_law_hand_here", "_law_some"] (defScope s__law_mixed) := ⟨rfl, rfl, rfl, by decide +kernel, rfl, by decide +kernel, by decide +kernel⟩
theorem sc__law_names : FnScope ["_law_hand_here", "_law_count", "_law_letters", "_law_start", "_law_leap", "_law_stem", "_law_turned", "_law_some", "_law_one", "_law_nth", "_law_other"] ["_law_hand_here", "_law_count"] (defScope s__law_names) := ⟨rfl, rfl, rfl, by decide +kernel, rfl, by decide +kernel, by decide +kernel⟩
theorem sc__law_price : FnScope ["_law_prices", "_law_key"] ["_law_prices", "_law_key"] (defScope s__law_price) := ⟨rfl, rfl, rfl, by decide +kernel, rfl, by decide +kernel, by decide +kernel⟩
theorem sc__law_costs : FnScope ["_law_hand_here", "_law_names_here", "_law_top", "_law_key"] ["_law_hand_here", "_law_names_here"] (defScope s__law_costs) := ⟨rfl, rfl, rfl, by decide +kernel, rfl, by decide +kernel, by decide +kernel⟩
theorem sc__law_told : FnScope ["_law_ask", "_law_caught", "_law_found", "_law_marks", "_law_at", "_law_word", "error"] ["_law_ask"] (defScope s__law_told) := ⟨rfl, rfl, rfl, by decide +kernel, rfl, by decide +kernel, by decide +kernel⟩
theorem sc__law_steps : FnScope ["_law_hand_here", "_law_names_here", "_law_many", "_law_found", "_law_turn", "_law_key", "_law_parent", "_law_place", "_law_some"] ["_law_hand_here", "_law_names_here", "_law_many"] (defScope s__law_steps) := ⟨rfl, rfl, rfl, by decide +kernel, rfl, by decide +kernel, by decide +kernel⟩
theorem sc__law_weights : FnScope ["_law_steps_here", "_law_prices", "_law_step"] ["_law_steps_here", "_law_prices"] (defScope s__law_weights) := ⟨rfl, rfl, rfl, by decide +kernel, rfl, by decide +kernel, by decide +kernel⟩
theorem sc__law_fewest : FnScope ["_law_weights_here", "_law_most", "_law_best", "_law_at", "_law_near", "_law_total", "_law_back"] ["_law_weights_here", "_law_most"] (defScope s__law_fewest) := ⟨rfl, rfl, rfl, by decide +kernel, rfl, by decide +kernel, by decide +kernel⟩
theorem sc__law_parts_right : FnScope ["_law_steps_here", "_law_prices", "_law_most", "_law_parts", "_law_part", "_law_later", "_law_weight"] ["_law_steps_here", "_law_prices", "_law_most", "_law_parts"] (defScope s__law_parts_right) := ⟨rfl, rfl, rfl, by decide +kernel, rfl, by decide +kernel, by decide +kernel⟩
theorem sc__law_right : FnScope ["_law_hand_here", "_law_names_here", "_law_turn", "_law_steps_here", "_law_prices", "_law_weights_here", "_law_held", "_law_top", "_law_most", "_law_told_here", "_law_dear", "_law_step", "_law_weight"] ["_law_hand_here"] (defScope s__law_right) := ⟨rfl, rfl, rfl, by decide +kernel, rfl, by decide +kernel, by decide +kernel⟩
theorem sc_law : FnScope ["_law_script", "_law_k"] ["_law_script"] (defScope s_law) := ⟨rfl, rfl, rfl, by decide +kernel, rfl, by decide +kernel, by decide +kernel⟩
abbrev s_NoNumber_init : Stmt := (inCls (top 3)).getD 0 (.Pass ⟨0, 0, 0, 0⟩)
abbrev s_NotKept_init : Stmt := (inCls (top 4)).getD 0 (.Pass ⟨0, 0, 0, 0⟩)
abbrev s_Conflict_init : Stmt := (inCls (top 5)).getD 0 (.Pass ⟨0, 0, 0, 0⟩)
abbrev s_NotPatch_init : Stmt := (inCls (top 6)).getD 0 (.Pass ⟨0, 0, 0, 0⟩)
abbrev s_TooDear_init : Stmt := (inCls (top 7)).getD 0 (.Pass ⟨0, 0, 0, 0⟩)
theorem sc_TooDear_init : FnScope ["self", "key"] ["self", "key"] (defScope s_TooDear_init) := ⟨rfl, rfl, rfl, by decide +kernel, rfl, by decide +kernel, by decide +kernel⟩
structure All (K : PySem.W.Frag) (mg : Str → Option Value) (wp : Params) where
  x_DifferentRoots : XDef0 K mg "DifferentRoots"
  x_NoNumber : XDef K mg "NoNumber" "number" "number" "NoNumber.__init__" s_NoNumber_init
  x_NotKept : XDef K mg "NotKept" "value" "value" "NotKept.__init__" s_NotKept_init
  x_Conflict : XDef K mg "Conflict" "value" "value" "Conflict.__init__" s_Conflict_init
  x_NotPatch : XDef K mg "NotPatch" "value" "value" "NotPatch.__init__" s_NotPatch_init
  x_TooDear : XDef K mg "TooDear" "key" "key" "TooDear.__init__" s_TooDear_init
  b_KeyedError : XBase K mg "KeyedError"
  a_Conflict : Addr
  m_Conflict : mg "Conflict" = some (.ref a_Conflict)
  kit_Conflict : ∀ y b C, kX xnames "Conflict" y = some b → PySem.W.nsIn K mainGlobals y = some (some (.ref C)) → PySem.W.kitOne K (.ref C) (.ref a_Conflict) = some b
  a_DifferentRoots : Addr
  m_DifferentRoots : mg "DifferentRoots" = some (.ref a_DifferentRoots)
  kit_DifferentRoots : ∀ y b C, kX xnames "DifferentRoots" y = some b → PySem.W.nsIn K mainGlobals y = some (some (.ref C)) → PySem.W.kitOne K (.ref C) (.ref a_DifferentRoots) = some b
  a_KeyedError : Addr
  m_KeyedError : mg "KeyedError" = some (.ref a_KeyedError)
  exm_KeyedError : ∀ y b C, kX xnames "KeyedError" y = some b → PySem.W.nsIn K mainGlobals y = some (some (.ref C)) → PySem.W.exmOne K (.ref C) (.ref a_KeyedError) = some b
  kit_KeyedError : ∀ y b C, kX xnames "KeyedError" y = some b → PySem.W.nsIn K mainGlobals y = some (some (.ref C)) → PySem.W.kitOne K (.ref C) (.ref a_KeyedError) = some b
  a_NoNumber : Addr
  m_NoNumber : mg "NoNumber" = some (.ref a_NoNumber)
  kit_NoNumber : ∀ y b C, kX xnames "NoNumber" y = some b → PySem.W.nsIn K mainGlobals y = some (some (.ref C)) → PySem.W.kitOne K (.ref C) (.ref a_NoNumber) = some b
  a_NotKept : Addr
  m_NotKept : mg "NotKept" = some (.ref a_NotKept)
  kit_NotKept : ∀ y b C, kX xnames "NotKept" y = some b → PySem.W.nsIn K mainGlobals y = some (some (.ref C)) → PySem.W.kitOne K (.ref C) (.ref a_NotKept) = some b
  a_NotPatch : Addr
  m_NotPatch : mg "NotPatch" = some (.ref a_NotPatch)
  kit_NotPatch : ∀ y b C, kX xnames "NotPatch" y = some b → PySem.W.nsIn K mainGlobals y = some (some (.ref C)) → PySem.W.kitOne K (.ref C) (.ref a_NotPatch) = some b
  a_TooDear : Addr
  m_TooDear : mg "TooDear" = some (.ref a_TooDear)
  kit_TooDear : ∀ y b C, kX xnames "TooDear" y = some b → PySem.W.nsIn K mainGlobals y = some (some (.ref C)) → PySem.W.kitOne K (.ref C) (.ref a_TooDear) = some b
  kit_ValueError : ∀ y b C, kX xnames "ValueError" y = some b → PySem.W.nsIn K mainGlobals y = some (some (.ref C)) → PySem.W.kitOne K (.ref C) (.type "ValueError") = some b
  price_of : Def K mg "price_of" s_price_of ["costs", "key"]
  batched : Def K mg "batched" s_batched ["operations", "costs", "most"]
  _law_hand : Def K mg "_law_hand" s__law_hand ["_law_script", "_law_k"]
  _law_take : Def K mg "_law_take" s__law_take ["_law_hand_here", "_law_many"]
  _law_of : Def K mg "_law_of" s__law_of ["_law_hand_here", "_law_some"]
  _law_mixed : Def K mg "_law_mixed" s__law_mixed ["_law_hand_here", "_law_some"]
  _law_names : Def K mg "_law_names" s__law_names ["_law_hand_here", "_law_count"]
  _law_price : Def K mg "_law_price" s__law_price ["_law_prices", "_law_key"]
  _law_costs : Def K mg "_law_costs" s__law_costs ["_law_hand_here", "_law_names_here"]
  _law_told : Def K mg "_law_told" s__law_told ["_law_ask"]
  _law_steps : Def K mg "_law_steps" s__law_steps ["_law_hand_here", "_law_names_here", "_law_many"]
  _law_weights : Def K mg "_law_weights" s__law_weights ["_law_steps_here", "_law_prices"]
  _law_fewest : Def K mg "_law_fewest" s__law_fewest ["_law_weights_here", "_law_most"]
  _law_parts_right : Def K mg "_law_parts_right" s__law_parts_right ["_law_steps_here", "_law_prices", "_law_most", "_law_parts"]
  _law_right : Def K mg "_law_right" s__law_right ["_law_hand_here"]
  law : Def K mg "law" s_law ["_law_script"]
  z_ValueError : mg "ValueError" = none
  z_abs : mg "abs" = none
  z_all : mg "all" = none
  z_dict : mg "dict" = none
  z_int : mg "int" = none
  z_isinstance : mg "isinstance" = none
  z_len : mg "len" = none
  z_list : mg "list" = none
  z_max : mg "max" = none
  z_min : mg "min" = none
  z_range : mg "range" = none
  z_repr : mg "repr" = none
  z_sorted : mg "sorted" = none
  z_sum : mg "sum" = none
  z_tuple : mg "tuple" = none
  z_zip : mg "zip" = none
  c_LEAST_COST : ∃ t, mg "LEAST_COST" = some (.int 1 t)
  c_MOVE : ∃ t, mg "MOVE" = some (.str "move" t)
section
variable {P : Program} {w : World} {K : PySem.W.Frag} {mg : Str → Option Value} {base : Heap}
theorem okx_TooDear (T : All K mg w.params) : XIni P w base T.x_TooDear 2 :=
  xini_ok T.x_TooDear T.b_KeyedError sc_TooDear_init rfl rfl (.inl rfl) (.inl rfl) (by decide) (by decide) (by decide) fun _ _ => ⟨_, rfl⟩
theorem ok_price_of (T : All K mg w.params) (Bm : BM base mg) : FnD P w base T.price_of 1 sp_price_of := by
  exact def_ok (k := 0) T.price_of.F sc_price_of _ (len_of (n := 2) len_price_of) (fun cdv A outer s H E hq hr => (dss_one (ds_ret (de_dget2 (hu_of hr) (de_callT (call_dictT rfl) lc_dictT rfl T.z_dict bt_dict (da_cons (dv 0) da_nil)) (dv 1) (de_gint T.c_LEAST_COST) ⟨by rfl, by rfl, by rfl, by rfl⟩)))) fun ds μ Q E h => read_price_of ds μ Q E h
theorem ok__law_hand (T : All K mg w.params) (Bm : BM base mg) : FnD P w base T._law_hand 1 sp__law_hand := by
  exact def_ok (k := 0) T._law_hand.F sc__law_hand _ (len_of (n := 2) len__law_hand) (fun cdv A outer s H E hq hr => (dss_cons (ds_set (i := 2) sc__law_hand.nd rfl (by first | exact Or.inl rfl | exact Or.inr rfl) (de_ifExp (dt_cmp opr_lt lr_lt (dv 1) (de_callB cr_len lc_len rfl T.z_len bt_len (da_cons (dv 0) da_nil)) (nomark _)) (de_ix (dv 0) (dv 1) (fun _ _ => rfl)) (de_op opr_add lr_add (de_op opr_mul lr_mul de_int (dv 1)) de_int)))
    (dss_cons (ds_set (i := 3) sc__law_hand.nd rfl (by first | exact Or.inl rfl | exact Or.inr rfl) (de_op opr_mul lr_mul (de_op opr_mul lr_mul (de_op opr_mul lr_mul (de_op opr_mul lr_mul (de_op op_powW lr_i2 de_int de_int) (de_op op_powW lr_i2 de_int de_int)) (de_op op_powW lr_i2 de_int de_int)) (de_op op_powW lr_i2 de_int de_int)) (de_op op_powW lr_i2 de_int de_int)))
    (dss_cons (ds_set (i := 4) sc__law_hand.nd rfl (by first | exact Or.inl rfl | exact Or.inr rfl) (de_op opr_mul lr_mul (de_op op_mod lr_i2 (de_callB call_abs lc_abs rfl T.z_abs bt_abs (da_cons (dv 2) da_nil)) (dv 3)) (de_callT call_int1 lc_int rfl T.z_int bt_int (da_cons (de_cmp opr_ge lr_cmp (de_callB call_abs lc_abs rfl T.z_abs bt_abs (da_cons (dv 2) da_nil)) (de_op op_powW lr_i2 de_int de_int) (nomark _)) da_nil))))
    (dss_one (ds_ret (de_lstM (da_cons (dv 4) (da_cons (de_op op_mod lr_i2 (de_op opr_mul lr_mul (de_op opr_add lr_add (de_op opr_add lr_add (de_op op_mod lr_i2 (dv 2) de_int) (de_op opr_mul lr_mul (de_op opr_mul lr_mul de_int (dv 1)) (dv 1))) de_int) de_int) de_int) (da_cons de_int da_nil)))))))))) fun ds μ Q E h => read__law_hand ds μ Q E h
theorem ok__law_take (T : All K mg w.params) (Bm : BM base mg) : FnD P w base T._law_take 1 sp__law_take := by
  exact def_ok (k := 0) T._law_take.F sc__law_take _ (len_of (n := 2) len__law_take) (fun cdv A outer s H E hq hr => (dss_cons (ds_if (dt_cmp opr_gt lr_cmp (de_ix (dv 0) de_int (fun _ _ => rfl)) de_int (nomark _)) (dss_cons (ds_set (i := 5) sc__law_take.nd rfl (by first | exact Or.inl rfl | exact Or.inr rfl) (de_op op_mod lr_i2 (de_ix (dv 0) de_int (fun _ _ => rfl)) (dv 1)))
    (dss_cons (ds_asg (de_op op_fdivW lr_i2 (de_ix (dv 0) de_int (fun _ _ => rfl)) (dv 1)) (dg_sub (dv 0) de_int set_list ls_list))
    (dss_one (ds_ret (dv 5))))) dss_nil)
    (dss_cons (ds_set (i := 2) sc__law_take.nd rfl (by first | exact Or.inl rfl | exact Or.inr rfl) (de_op opr_add lr_add (de_ix (dv 0) de_int (fun _ _ => rfl)) de_int))
    (dss_cons (ds_asg (dv 2) (dg_sub (dv 0) de_int set_list ls_list))
    (dss_cons (ds_set (i := 3) sc__law_take.nd rfl (by first | exact Or.inl rfl | exact Or.inr rfl) (de_ix (de_lst (da_cons de_int (da_cons de_int (da_cons de_int (da_cons de_int (da_cons de_int (da_cons de_int da_nil))))))) (de_op op_mod lr_i2 (dv 2) de_int) (fun _ _ => rfl)))
    (dss_cons (ds_set (i := 4) sc__law_take.nd rfl (by first | exact Or.inl rfl | exact Or.inr rfl) (de_op op_mod lr_i2 (de_op op_powW lr_i2 (de_op opr_add lr_add (de_op opr_add lr_add (de_ix (dv 0) de_int (fun _ _ => rfl)) (de_op opr_mul lr_mul (de_op opr_mul lr_mul de_int (dv 2)) (dv 2))) (de_op opr_mul lr_mul de_int (dv 2))) de_int) (dv 3)))
    (dss_one (ds_ret (de_op op_mod lr_i2 (de_op op_fdivW lr_i2 (de_op op_mod lr_i2 (de_op opr_mul lr_mul (dv 4) (de_op opr_add lr_add (de_op op_mod lr_i2 (dv 4) de_int) (de_op opr_mul lr_mul de_int (dv 2)))) de_int) de_int) (dv 1)))))))))) fun ds μ Q E h => read__law_take ds μ Q E h
theorem ok__law_price (T : All K mg w.params) (Bm : BM base mg) : FnD P w base T._law_price 1 sp__law_price := by
  exact def_ok (k := 0) T._law_price.F sc__law_price _ (len_of (n := 2) len__law_price) (fun cdv A outer s H E hq hr => (dss_one (ds_ret (de_dget2 (hu_of hr) (de_callT (call_dictT rfl) lc_dictT rfl T.z_dict bt_dict (da_cons (dv 0) da_nil)) (dv 1) de_int ⟨by rfl, by rfl, by rfl, by rfl⟩)))) fun ds μ Q E h => read__law_price ds μ Q E h
theorem gv__law_told {X : Cx} (T : All X.K X.mg X.w.params) (cdv : Value) (hq : Quiet X.A) (hr : Room 1 X.A) {q : Str} : GivesS X ["_law_ask", "_law_caught", "_law_found", "_law_marks", "_law_at", "_law_word", "error"] "_law_told" (defScope s__law_told) T._law_told.f cdv (defBody s__law_told) "_law_ask" q (TTd X.K q sp__law_told) := by
  exact gives_d _ (fun s H f An th hA ask => have hr := hr.deeper (envOfC "_law_told" (defScope s__law_told) s.heap.objs.size T._law_told.f cdv)
    (sas_cons hA (sa (ds_asg (de_tup (da_cons de_non (da_cons de_non da_nil))) (dg_tup rfl (dgs_cons (dg_name (i := 1) sc__law_told.nd rfl (by first | exact Or.inl rfl | exact Or.inr rfl)) (dgs_cons (dg_name (i := 2) sc__law_told.nd rfl (by first | exact Or.inl rfl | exact Or.inr rfl)) dgs_nil)))))
    (sas_cons hA (sa_try (i := 6) (k := 2) (j := 1) hA ask rfl rfl rfl sc__law_told.nd ⟨rfl, by decide, .inl T.m_KeyedError⟩ T.exm_KeyedError rfl rfl rfl rfl (by first | exact Or.inl rfl | exact Or.inr rfl | exact Or.inr (Or.inl rfl) | exact Or.inr (Or.inr rfl)) (by first | exact Or.inl rfl | exact Or.inr rfl | exact Or.inr (Or.inl rfl) | exact Or.inr (Or.inr rfl)) (by first | exact Or.inl rfl | exact Or.inr rfl | exact Or.inr (Or.inl rfl) | exact Or.inr (Or.inr rfl)))
    (sas_cons hA (sa (ds_if (dt_isN (dv 1)) (dss_one (ds_ret (de_tup (da_cons de_str (da_cons (dv 2) da_nil))))) dss_nil))
    (sas_cons hA (sa (ds_set (i := 3) sc__law_told.nd rfl (by first | exact Or.inl rfl | exact Or.inr rfl) (de_lst (da_cons (de_isX (dv 1) rfl T.z_isinstance rfl T.m_DifferentRoots T.kit_DifferentRoots) (da_cons (de_isX (dv 1) rfl T.z_isinstance rfl T.m_NotKept T.kit_NotKept) (da_cons (de_isX (dv 1) rfl T.z_isinstance rfl T.m_Conflict T.kit_Conflict) da_nil))))))
    (sas_cons hA (sa (ds_set (i := 3) sc__law_told.nd rfl (by first | exact Or.inl rfl | exact Or.inr rfl) (de_op opr_add lr_add (dv 3) (de_lst (da_cons (de_isX (dv 1) rfl T.z_isinstance rfl T.m_NoNumber T.kit_NoNumber) (da_cons (de_isX (dv 1) rfl T.z_isinstance rfl T.m_NotPatch T.kit_NotPatch) (da_cons (de_isX (dv 1) rfl T.z_isinstance rfl T.m_TooDear T.kit_TooDear) da_nil)))))))
    (sas_cons hA (sa (ds_if (PW.pt (dw_or (dt_cmp (opr_ne (unit64 hr)) lr_ne (de_countF (dv 3) de_bl) de_int (nomark _)) (dw_or1 (dt_not (dt_val (de_isXT (dv 1) rfl T.z_isinstance rfl T.z_ValueError bt_ValueError T.kit_ValueError)))))) (dss_one (ds_ret (de_tup (da_cons de_str (da_cons de_non da_nil))))) dss_nil))
    (sas_cons hA (sa (ds_if (dt_val (de_ix (dv 3) de_int (fun _ _ => rfl))) (dss_one (ds_ret (de_tup (da_cons de_str (da_cons de_non da_nil))))) dss_nil))
    (sas_cons hA (sa (ds_for PassesOwn.never rfl (di_seq (de_tup (da_cons (de_tup (da_cons de_int (da_cons de_str da_nil))) (da_cons (de_tup (da_cons de_int (da_cons de_str da_nil))) (da_cons (de_tup (da_cons de_int (da_cons de_str da_nil))) da_nil))))) (dg_tup rfl (dgs_cons (dg_name (i := 4) sc__law_told.nd rfl (by first | exact Or.inl rfl | exact Or.inr rfl)) (dgs_cons (dg_name (i := 5) sc__law_told.nd rfl (by first | exact Or.inl rfl | exact Or.inr rfl)) dgs_nil))) (dss_one (ds_if (dt_val (de_ix (dv 3) (dv 4) (fun _ _ => rfl))) (dss_one (ds_ret (de_tup (da_cons (dv 5) (da_cons (de_fld (dv 1)) da_nil))))) dss_nil))))
    (sas_one (sa (ds_ret (de_ifExp (dt_val (de_ix (dv 3) de_int (fun _ _ => rfl))) (de_tup (da_cons de_str (da_cons (de_fld (dv 1)) da_nil))) (de_tup (da_cons de_str (da_cons (de_fld (dv 1)) da_nil)))))))))))))))) fun f th μ Q h => read__law_told f th μ Q h
theorem ok__law_fewest (T : All K mg w.params) (Bm : BM base mg) : FnD P w base T._law_fewest 1 sp__law_fewest := by
  exact def_ok (k := 0) T._law_fewest.F sc__law_fewest _ (len_of (n := 2) len__law_fewest) (fun cdv A outer s H E hq hr => (dss_cons (ds_set (i := 2) sc__law_fewest.nd rfl (by first | exact Or.inl rfl | exact Or.inr rfl) (de_lstM (da_cons de_int da_nil)))
    (dss_cons (ds_for PassesOwn.never rfl (di_range2 rfl T.z_range (da_cons de_int (da_cons (de_op opr_add lr_add (de_callB cr_len lc_len rfl T.z_len bt_len (da_cons (dv 0) da_nil)) de_int) da_nil))) (dg_name (i := 3) sc__law_fewest.nd rfl (by first | exact Or.inl rfl | exact Or.inr rfl)) (dss_cons (ds_par3 (i := 4) (j := 5) (l := 6) rfl sc__law_fewest.nd rfl rfl rfl (by decide) (by decide) (by decide) rfl rfl rfl (da_cons (de_lstM da_nil) (da_cons de_int (da_cons (de_op op_sub lr_sub (dv 3) de_int) da_nil))) rfl)
    (dss_cons (ds_while PassesOwn.never (PW.pt (dw_and (dt_cmp opr_ge lr_cmp (dv 6) de_int (nomark _)) (dw_and1 (dt_cmp opr_le lr_cmp (de_op opr_add lr_add (dv 5) (de_ix (dv 0) (dv 6) (fun _ _ => rfl))) (dv 1) (nomark _))))) (dss_cons (ds_par (i := 5) (j := 6) rfl sc__law_fewest.nd rfl rfl (by decide) rfl rfl (da_cons (de_op opr_add lr_add (dv 5) (de_ix (dv 0) (dv 6) (fun _ _ => rfl))) (da_cons (de_op op_sub lr_sub (dv 6) de_int) da_nil)) rfl)
    (dss_one (ds_expr (de_append (dv 4) (de_op opr_add lr_add (de_ix (dv 2) (de_op opr_add lr_add (dv 6) de_int) (fun _ _ => rfl)) de_int))))))
    (dss_one (ds_expr (de_append (dv 2) (de_callB (cr_min rfl) lc_min1 rfl T.z_min bt_min (da_cons (dv 4) da_nil))))))))
    (dss_one (ds_ret (de_ix (dv 2) (de_neg de_int) (fun _ _ => rfl))))))) fun ds μ Q E h => read__law_fewest ds μ Q E h
theorem ok__law_of (T : All K mg w.params) (Bm : BM base mg) : FnD P w base T._law_of 2 sp__law_of := by
  have F__law_take := ok__law_take (P := P) (w := w) (base := base) T Bm
  exact def_ok (k := 1) T._law_of.F sc__law_of _ (len_of (n := 2) len__law_of) (fun cdv A outer s H E hq hr => (dss_one (ds_ret (de_ix (dv 1) (de_def F__law_take hq hr (da_cons (dv 0) (da_cons (de_callB cr_len lc_len rfl T.z_len bt_len (da_cons (dv 1) da_nil)) da_nil))) (fun _ _ => rfl))))) fun ds μ Q E h => read__law_of ds μ Q E h
theorem ok__law_mixed (T : All K mg w.params) (Bm : BM base mg) : FnD P w base T._law_mixed 2 sp__law_mixed := by
  have F__law_take := ok__law_take (P := P) (w := w) (base := base) T Bm
  exact def_ok (k := 1) T._law_mixed.F sc__law_mixed _ (len_of (n := 2) len__law_mixed) (fun cdv A outer s H E hq hr => (dss_cons (ds_par (i := 2) (j := 3) rfl sc__law_mixed.nd rfl rfl (by decide) rfl rfl (da_cons (de_callT call_list_of lc_listM rfl T.z_list bt_list (da_cons (dv 1) da_nil)) (da_cons (de_lstM da_nil) da_nil)) rfl)
    (dss_cons (ds_while PassesOwn.never (dt_cmp (opr_ne (unit64 hr)) lr_ne (dv 2) (de_lst da_nil) (nomark _)) (dss_one (ds_expr (de_append (dv 3) (de_popAt (dv 2) (de_def F__law_take hq hr (da_cons (dv 0) (da_cons (de_callB cr_len lc_len rfl T.z_len bt_len (da_cons (dv 2) da_nil)) da_nil))))))))
    (dss_one (ds_retF (dv 3)))))) fun ds μ Q E h => read__law_mixed ds μ Q E h
theorem ok__law_weights (T : All K mg w.params) (Bm : BM base mg) : FnD P w base T._law_weights 2 sp__law_weights := by
  have F__law_price := ok__law_price (P := P) (w := w) (base := base) T Bm
  exact def_ok (k := 1) T._law_weights.F sc__law_weights _ (len_of (n := 2) len__law_weights) (fun cdv A outer s H E hq hr => (dss_one (ds_ret (de_lc (own := [("_law_step", 2)]) rfl sc__law_weights.nd (blkOk_by (show blkC ["_law_steps_here", "_law_prices", "_law_step"] (defScope s__law_weights) _ [("_law_step", 2)] = true by decide +kernel)) (own_name (by decide)) (di_seq (dv 0)) (fun _ _ _ _ _ => (pg_name (i := 2) sc__law_weights.nd rfl (by first | exact Or.inl rfl | exact Or.inr rfl) (by first | exact .inl rfl | exact .inr rfl))) (fun _ _ _ _ _ => dts_nil) (fun _ _ _ _ _ => (de_ifExp (dt_cmp (opr_eq (unit64 hr)) lr_eq (de_ix (dv 2) de_int (fun _ _ => rfl)) de_str (nomark _)) (de_def F__law_price hq hr (da_cons (dv 1) (da_cons (de_ix (dv 2) de_int (fun _ _ => rfl)) da_nil))) de_int)))))) fun ds μ Q E h => read__law_weights ds μ Q E h
theorem ok__law_names (T : All K mg w.params) (Bm : BM base mg) : FnD P w base T._law_names 3 sp__law_names := by
  have F__law_take := ok__law_take (P := P) (w := w) (base := base) T Bm
  have F__law_of := ok__law_of (P := P) (w := w) (base := base) T Bm
  have F__law_mixed := ok__law_mixed (P := P) (w := w) (base := base) T Bm
  exact def_ok (k := 2) T._law_names.F sc__law_names _ (len_of (n := 2) len__law_names) (fun cdv A outer s H E hq hr => (dss_cons (ds_asg (de_tup (da_cons de_str (da_cons (de_def F__law_take hq hr (da_cons (dv 0) (da_cons de_int da_nil))) (da_cons (de_def F__law_of hq hr (da_cons (dv 0) (da_cons (de_lst (da_cons de_int (da_cons de_int (da_cons de_int (da_cons de_int (da_cons de_int (da_cons de_int (da_cons de_int da_nil)))))))) da_nil))) da_nil)))) (dg_tup rfl (dgs_cons (dg_name (i := 2) sc__law_names.nd rfl (by first | exact Or.inl rfl | exact Or.inr rfl)) (dgs_cons (dg_name (i := 3) sc__law_names.nd rfl (by first | exact Or.inl rfl | exact Or.inr rfl)) (dgs_cons (dg_name (i := 4) sc__law_names.nd rfl (by first | exact Or.inl rfl | exact Or.inr rfl)) dgs_nil)))))
    (dss_cons (ds_set (i := 5) sc__law_names.nd rfl (by first | exact Or.inl rfl | exact Or.inr rfl) (de_op opr_mul lr_mul (de_def F__law_of hq hr (da_cons (dv 0) (da_cons (dv 2) da_nil))) (de_def F__law_of hq hr (da_cons (dv 0) (da_cons (de_lst (da_cons de_int (da_cons de_int (da_cons de_int (da_cons de_int (da_cons de_int da_nil)))))) da_nil)))))
    (dss_cons (ds_setLc (own := [("_law_nth", 9)]) rfl sc__law_names.nd (blkOk_by (show blkC ["_law_hand_here", "_law_count", "_law_letters", "_law_start", "_law_leap", "_law_stem", "_law_turned", "_law_some", "_law_one", "_law_nth", "_law_other"] (defScope s__law_names) _ [("_law_nth", 9)] = true by decide +kernel)) (own_name (by decide)) (di_range1 (by rfl) T.z_range (da_cons de_int da_nil)) (fun _ _ _ _ _ => (pg_name (i := 9) sc__law_names.nd rfl (by first | exact Or.inl rfl | exact Or.inr rfl) (by first | exact .inl rfl | exact .inr rfl))) (fun _ _ _ _ _ => dts_nil) (fun _ _ _ _ _ => (de_ix (dv 2) (de_op op_mod lr_i2 (de_op opr_add lr_add (dv 3) (de_op opr_mul lr_mul (dv 4) (dv 9))) de_int) (fun _ _ => rfl))) (i := 6) rfl rfl rfl)
    (dss_cons (ds_setLcM (own := [("_law_one", 8)]) rfl sc__law_names.nd (blkOk_by (show blkC ["_law_hand_here", "_law_count", "_law_letters", "_law_start", "_law_leap", "_law_stem", "_law_turned", "_law_some", "_law_one", "_law_nth", "_law_other"] (defScope s__law_names) _ [("_law_one", 8)] = true by decide +kernel)) (own_name (by decide)) (di_seq (dv 6)) (fun _ _ _ _ _ => (pg_name (i := 8) sc__law_names.nd rfl (by first | exact Or.inl rfl | exact Or.inr rfl) (by first | exact .inl rfl | exact .inr rfl))) (fun _ _ _ _ _ => dts_nil) (fun _ _ _ _ _ => (de_op opr_add lr_add (dv 5) (dv 8))) (i := 7) rfl rfl rfl)
    (dss_cons (ds_for PassesOwn.never rfl (di_seq (de_slice (dv 6) do_none (do_some de_int))) (dg_name (i := 8) sc__law_names.nd rfl (by first | exact Or.inl rfl | exact Or.inr rfl)) (dss_one (ds_expr (de_extend (dv 7) (de_lc (own := [("_law_other", 10)]) rfl sc__law_names.nd (blkOk_by (show blkC ["_law_hand_here", "_law_count", "_law_letters", "_law_start", "_law_leap", "_law_stem", "_law_turned", "_law_some", "_law_one", "_law_nth", "_law_other"] (defScope s__law_names) _ [("_law_other", 10)] = true by decide +kernel)) (own_name (by decide)) (di_seq (dv 6)) (fun _ _ _ _ _ => (pg_name (i := 10) sc__law_names.nd rfl (by first | exact Or.inl rfl | exact Or.inr rfl) (by first | exact .inl rfl | exact .inr rfl))) (fun _ _ _ _ _ => dts_nil) (fun _ _ _ _ _ => (de_op opr_add lr_add (de_op opr_add lr_add (dv 5) (dv 8)) (dv 10))))))))
    (dss_one (ds_ret (de_def F__law_mixed hq hr (da_cons (dv 0) (da_cons (de_slice (dv 7) do_none (do_some (dv 1))) da_nil))))))))))) fun ds μ Q E h => read__law_names ds μ Q E h
theorem ok__law_costs (T : All K mg w.params) (Bm : BM base mg) : FnD P w base T._law_costs 3 sp__law_costs := by
  have F__law_take := ok__law_take (P := P) (w := w) (base := base) T Bm
  have F__law_of := ok__law_of (P := P) (w := w) (base := base) T Bm
  exact def_ok (k := 2) T._law_costs.F sc__law_costs _ (len_of (n := 2) len__law_costs) (fun cdv A outer s H E hq hr => (dss_cons (ds_set (i := 2) sc__law_costs.nd rfl (by first | exact Or.inl rfl | exact Or.inr rfl) (de_def F__law_of hq hr (da_cons (dv 0) (da_cons (de_lst (da_cons de_int (da_cons de_int (da_cons de_int (da_cons de_int (da_cons de_int da_nil)))))) da_nil))))
    (dss_one (ds_ret (de_callT call_tupleP lc_tupleP rfl T.z_tuple bt_tuple (da_cons (de_callB cr_sortedSI lc_sortedSI rfl T.z_sorted bt_sorted (da_cons (de_lc (own := [("_law_key", 3)]) rfl sc__law_costs.nd (blkOk_by (show blkC ["_law_hand_here", "_law_names_here", "_law_top", "_law_key"] (defScope s__law_costs) _ [("_law_key", 3)] = true by decide +kernel)) (own_name (by decide)) (di_seq (dv 1)) (fun _ _ _ _ _ => (pg_name (i := 3) sc__law_costs.nd rfl (by first | exact Or.inl rfl | exact Or.inr rfl) (by first | exact .inl rfl | exact .inr rfl))) (fun _ _ _ _ _ => (dts_one (dt_cmp opr_gt lr_cmp (de_def F__law_take hq hr (da_cons (dv 0) (da_cons de_int da_nil))) de_int (nomark _)))) (fun _ _ _ _ _ => (de_tup (da_cons (dv 3) (da_cons (de_op opr_add lr_add de_int (de_def F__law_take hq hr (da_cons (dv 0) (da_cons (dv 2) da_nil)))) da_nil))))) da_nil)) da_nil)))))) fun ds μ Q E h => read__law_costs ds μ Q E h
theorem ok__law_steps (T : All K mg w.params) (Bm : BM base mg) : FnD P w base T._law_steps 3 sp__law_steps := by
  have F__law_of := ok__law_of (P := P) (w := w) (base := base) T Bm
  exact def_ok (k := 2) T._law_steps.F sc__law_steps _ (len_of (n := 3) len__law_steps) (fun cdv A outer s H E hq hr => (dss_cons (ds_set (i := 3) sc__law_steps.nd rfl (by first | exact Or.inl rfl | exact Or.inr rfl) (de_lstM da_nil))
    (dss_cons (ds_for PassesOwn.never rfl (di_range1 rfl T.z_range (da_cons (dv 2) da_nil)) (dg_name (i := 4) sc__law_steps.nd rfl (by first | exact Or.inl rfl | exact Or.inr rfl)) (dss_cons (ds_par3 (i := 5) (j := 6) (l := 7) rfl sc__law_steps.nd rfl rfl rfl (by decide) (by decide) (by decide) rfl rfl rfl (da_cons (de_def F__law_of hq hr (da_cons (dv 0) (da_cons (dv 1) da_nil))) (da_cons (de_def F__law_of hq hr (da_cons (dv 0) (da_cons (dv 1) da_nil))) (da_cons (de_def F__law_of hq hr (da_cons (dv 0) (da_cons (de_op opr_add lr_add (dv 1) (de_lst (da_cons de_non da_nil))) da_nil))) da_nil))) rfl)
    (dss_cons (ds_set (i := 8) sc__law_steps.nd rfl (by first | exact Or.inl rfl | exact Or.inr rfl) (de_op opr_mul lr_mul (de_lst (da_cons (de_tup (da_cons de_str (da_cons (dv 5) (da_cons (dv 6) (da_cons (dv 7) da_nil))))) da_nil)) de_int))
    (dss_one (ds_expr (de_append (dv 3) (de_def F__law_of hq hr (da_cons (dv 0) (da_cons (de_op opr_add lr_add (dv 8) (de_lst (da_cons (de_tup (da_cons de_str (da_cons (dv 5) (da_cons (dv 6) (da_cons (dv 7) da_nil))))) (da_cons (de_tup (da_cons de_str (da_cons (dv 5) da_nil))) da_nil)))) da_nil)))))))))
    (dss_one (ds_ret (de_callT call_tuple_of lc_tuple rfl T.z_tuple bt_tuple (da_cons (dv 3) da_nil))))))) fun ds μ Q E h => read__law_steps ds μ Q E h
theorem ok__law_parts_right (T : All K mg w.params) (Bm : BM base mg) : FnD P w base T._law_parts_right 3 sp__law_parts_right := by
  have F__law_weights := ok__law_weights (P := P) (w := w) (base := base) T Bm
  have F__law_fewest := ok__law_fewest (P := P) (w := w) (base := base) T Bm
  exact def_ok (k := 2) T._law_parts_right.F sc__law_parts_right _ (len_of (n := 4) len__law_parts_right) (fun cdv A outer s H E hq hr => (dss_cons (ds_if (PW.pt (dw_or (dt_not (dt_val (de_callB call_isi lc_isi rfl T.z_isinstance bt_isinstance (da_cons (dv 3) (da_cons (de_ty rfl T.z_tuple bt_tuple) da_nil))))) (dw_or (dt_cmp (opr_ne (unit64 hr)) lr_ne (de_callB (cr_sumT rfl) lc_sumT rfl T.z_sum bt_sum (da_cons (dv 3) (da_cons (de_tup da_nil) da_nil))) (dv 0) (nomark _)) (dw_or1 (dt_cmp (op_inDT (unit65 hr)) lr_inTT (de_tup da_nil) (dv 3) (by with_unfolding_all rfl)))))) (dss_one (ds_ret de_bl)) dss_nil)
    (dss_cons (ds_for PassesOwn.never rfl (di_zip rfl T.z_zip (da_cons (dv 3) (da_cons (de_op opr_add lr_add (de_slice (dv 3) (do_some de_int) do_none) (de_tup (da_cons (de_tup da_nil) da_nil))) da_nil))) (dg_tup rfl (dgs_cons (dg_name (i := 4) sc__law_parts_right.nd rfl (by first | exact Or.inl rfl | exact Or.inr rfl)) (dgs_cons (dg_name (i := 5) sc__law_parts_right.nd rfl (by first | exact Or.inl rfl | exact Or.inr rfl)) dgs_nil))) (dss_cons (ds_set (i := 6) sc__law_parts_right.nd rfl (by first | exact Or.inl rfl | exact Or.inr rfl) (de_callB (cr_sum rfl) lc_sum rfl T.z_sum bt_sum (da_cons (de_def F__law_weights hq hr (da_cons (dv 4) (da_cons (dv 1) da_nil))) da_nil)))
    (dss_one (ds_if (PW.pt (dw_or (dt_cmp opr_gt lr_cmp (dv 6) (dv 2) (nomark _)) (dw_or1 (PW.pt (dw_and (dt_cmp (opr_neT0 (unit64 hr)) lr_T0 (dv 5) (de_tup da_nil) (nomark _)) (dw_and1 (dt_cmp opr_le lr_cmp (de_op opr_add lr_add (dv 6) (de_ix (de_def F__law_weights hq hr (da_cons (de_slice (dv 5) do_none (do_some de_int)) (da_cons (dv 1) da_nil))) de_int (fun _ _ => rfl))) (dv 2) (nomark _)))))))) (dss_one (ds_ret de_bl)) dss_nil))))
    (dss_one (ds_ret (de_or (de_cmp opr_gt lr_cmp (de_callB cr_len lc_len rfl T.z_len bt_len (da_cons (dv 0) da_nil)) de_int (nomark _)) (de_one (de_cmp (opr_eq (unit64 hr)) lr_eq (de_callB cr_len lc_len rfl T.z_len bt_len (da_cons (dv 3) da_nil)) (de_def F__law_fewest hq hr (da_cons (de_def F__law_weights hq hr (da_cons (dv 0) (da_cons (dv 1) da_nil))) (da_cons (dv 2) da_nil))) (nomark _))))))))) fun ds μ Q E h => read__law_parts_right ds μ Q E h
theorem ok_batched (T : All K mg w.params) (Bm : BM base mg) : FnX P w base T.batched 4 sp_batched := by
  have X_TooDear := okx_TooDear (P := P) (w := w) (base := base) T
  have F_price_of := ok_price_of (P := P) (w := w) (base := base) T Bm
  exact def_okR (k := 3) T.batched.F sc_batched _ len_batched (fun cdv A outer s H E Ex An hq hr hz => (sas_cons hz.gr (sa (ds_par3 (i := 3) (j := 4) (l := 5) rfl sc_batched.nd rfl rfl rfl (by decide) (by decide) (by decide) rfl rfl rfl (da_cons (de_lstM da_nil) (da_cons (de_lstM da_nil) (da_cons de_int da_nil))) rfl))
    (sas_cons hz.gr (sa_for hz.gr (passes_of rfl) rfl (di_seq (dv 0)) (dg_name (i := 6) sc_batched.nd rfl (by first | exact Or.inl rfl | exact Or.inr rfl)) (sas_cons hz.gr (sa (ds_set (i := 7) sc_batched.nd rfl (by first | exact Or.inl rfl | exact Or.inr rfl) (de_ifExp (dt_cmp (opr_eq (unit64 hr)) lr_eq (de_ix (dv 6) de_int (fun _ _ => rfl)) (de_gstr T.c_MOVE) (nomark _)) (de_def F_price_of hq hr (da_cons (dv 1) (da_cons (de_ix (dv 6) de_int (fun _ _ => rfl)) da_nil))) de_int)))
    (sas_cons hz.gr (sa_if hz.gr (ta_ (dt_cmp opr_gt lr_cmp (dv 7) (dv 2) (nomark _))) (sas_one (sa_raise X_TooDear hq hr hz (ea (de_ix (dv 6) de_int (fun _ _ => rfl))))) (sas dss_nil))
    (sas_cons hz.gr (sa (ds_if (dt_cmp opr_gt lr_cmp (de_op opr_add lr_add (dv 5) (dv 7)) (dv 2) (nomark _)) (dss_cons (ds_expr (de_append (dv 3) (de_callT call_tuple_of lc_tuple rfl T.z_tuple bt_tuple (da_cons (dv 4) da_nil))))
    (dss_one (ds_par (i := 4) (j := 5) rfl sc_batched.nd rfl rfl (by decide) rfl rfl (da_cons (de_lstM da_nil) (da_cons de_int da_nil)) rfl))) dss_nil))
    (sas_cons hz.gr (sa (ds_expr (de_append (dv 4) (dv 6))))
    (sas_one (sa (ds_augI (i := 5) ip_add sc_batched.nd rfl (by first | exact Or.inl rfl | exact Or.inr rfl) (dv 7)))))))))
    (sas_one (sa (ds_ret (de_callT call_tuple_of lc_tuple rfl T.z_tuple bt_tuple (da_cons (de_ifExp (dt_cmp (opr_neL0 (unit64 hr)) lr_L0 (dv 4) (de_lst da_nil) (nomark _)) (de_op opr_add lr_add (dv 3) (de_lst (da_cons (de_callT call_tuple_of lc_tuple rfl T.z_tuple bt_tuple (da_cons (dv 4) da_nil)) da_nil))) (dv 3)) da_nil)))))))) fun ds μ Q E h => read_batched ds μ Q E h
theorem ok__law_right (T : All K mg w.params) (Bm : BM base mg) : FnD P w base T._law_right 7 sp__law_right := by
  have F__law_steps := ok__law_steps (P := P) (w := w) (base := base) T Bm
  have F__law_weights := ok__law_weights (P := P) (w := w) (base := base) T Bm
  have F_batched := ok_batched (P := P) (w := w) (base := base) T Bm
  have F__law_take := ok__law_take (P := P) (w := w) (base := base) T Bm
  have F__law_parts_right := ok__law_parts_right (P := P) (w := w) (base := base) T Bm
  have F__law_costs := ok__law_costs (P := P) (w := w) (base := base) T Bm
  have F__law_names := ok__law_names (P := P) (w := w) (base := base) T Bm
  exact def_okL (k := 6) T._law_right sc__law_right _ (len_of (n := 1) len__law_right) (fun cdv A outer s H E hq hr how => (dss_cons (ds_set (i := 1) sc__law_right.nd rfl (by first | exact Or.inl rfl | exact Or.inr rfl) (de_def F__law_names hq hr (da_cons (dv 0) (da_cons de_int da_nil))))
    (dss_cons (ds_for PassesOwn.never rfl (di_range1 rfl T.z_range (da_cons de_int da_nil)) (dg_name (i := 2) sc__law_right.nd rfl (by first | exact Or.inl rfl | exact Or.inr rfl)) (dss_cons (ds_set (i := 3) sc__law_right.nd rfl (by first | exact Or.inl rfl | exact Or.inr rfl) (de_def F__law_steps hq hr (da_cons (dv 0) (da_cons (dv 1) (da_cons (de_ifExp (dt_cmp opr_lt lr_lt (dv 2) de_int (nomark _)) (de_def F__law_take hq hr (da_cons (dv 0) (da_cons de_int da_nil))) de_int) da_nil)))))
    (dss_cons (ds_set (i := 4) sc__law_right.nd rfl (by first | exact Or.inl rfl | exact Or.inr rfl) (de_def F__law_costs hq hr (da_cons (dv 0) (da_cons (de_slice (dv 1) do_none (do_some de_int)) da_nil))))
    (dss_cons (ds_par (i := 5) (j := 6) rfl sc__law_right.nd rfl rfl (by decide) rfl rfl (da_cons (de_def F__law_weights hq hr (da_cons (dv 3) (da_cons (dv 4) da_nil))) (da_cons (de_callB (cr_reprQ hq (unit66 hr)) lc_reprQ rfl T.z_repr bt_repr (da_cons (de_tup (da_cons (dv 3) (da_cons (de_fg (dv 4)) da_nil))) da_nil)) da_nil)) rfl)
    (dss_cons (ds_set (i := 7) sc__law_right.nd rfl (by first | exact Or.inl rfl | exact Or.inr rfl) (de_callB (cr_max rfl) lc_max1 rfl T.z_max bt_max (da_cons (de_op opr_add lr_add (de_lst (da_cons de_int da_nil)) (dv 5)) da_nil)))
    (dss_cons (ds_for PassesOwn.never rfl (di_seq (de_tup (da_cons de_int (da_cons (dv 7) (da_cons (de_op opr_add lr_add (dv 7) (de_def F__law_take hq hr (da_cons (dv 0) (da_cons de_int da_nil)))) (da_cons (de_callB (call_max2 rfl) lc_i2 rfl T.z_max bt_max (da_cons de_int (da_cons (de_op op_sub lr_sub (dv 7) de_int) da_nil))) (da_cons (de_callB (call_max2 rfl) lc_i2 rfl T.z_max bt_max (da_cons de_int (da_cons (de_callB (cr_sum rfl) lc_sum rfl T.z_sum bt_sum (da_cons (dv 5) da_nil)) da_nil))) (da_cons (de_op op_powW lr_i2 de_int de_int) da_nil)))))))) (dg_name (i := 8) sc__law_right.nd rfl (by first | exact Or.inl rfl | exact Or.inr rfl)) (dss_cons (ds_set (i := 9) sc__law_right.nd rfl (by first | exact Or.inl rfl | exact Or.inr rfl) (de_lam (D := T._law_told) (k := 4) (ttd := sp__law_told) Bm how hq hr (fun cdv2 => gv__law_told (X := (cxOf CX0 P w K mg base ["_law_hand_here", "_law_names_here", "_law_turn", "_law_steps_here", "_law_prices", "_law_weights_here", "_law_held", "_law_top", "_law_most", "_law_told_here", "_law_dear", "_law_step", "_law_weight"] "_law_right" (defScope s__law_right) T._law_right.f cdv A outer s H E).nox) T cdv2 hq (hr.mono (by omega))) sc__law_told (LamX.lamS_by (show LamX.lamSB (defScope s__law_right) _ = true by decide +kernel)) (fun A outer s H E f c' An Ex hq hr hz => (ea_def F_batched hq hr hz (aa (da_cons (dv 3) (da_cons (dv 4) (da_cons (dv 8) da_nil))))))))
    (dss_cons (ds_setLc (own := [("_law_step", 11), ("_law_weight", 12)]) rfl sc__law_right.nd (blkOk_by (show blkC ["_law_hand_here", "_law_names_here", "_law_turn", "_law_steps_here", "_law_prices", "_law_weights_here", "_law_held", "_law_top", "_law_most", "_law_told_here", "_law_dear", "_law_step", "_law_weight"] (defScope s__law_right) _ [("_law_step", 11), ("_law_weight", 12)] = true by decide +kernel)) (own_tup (by decide)) (di_zipK (by rfl) T.z_zip (da_cons (dv 3) (da_cons (dv 5) da_nil))) (fun _ _ _ _ _ => (pg_tup rfl (pgs_cons (pg_name (i := 11) sc__law_right.nd rfl (by first | exact Or.inl rfl | exact Or.inr rfl) (by first | exact .inl rfl | exact .inr rfl)) (pgs_cons (pg_name (i := 12) sc__law_right.nd rfl (by first | exact Or.inl rfl | exact Or.inr rfl) (by first | exact .inl rfl | exact .inr rfl)) pgs_nil rfl) rfl) rfl)) (fun _ _ _ _ _ => (dts_one (dt_cmp opr_gt lr_cmp (dv 12) (dv 8) (nomark _)))) (fun _ _ _ _ _ => (de_ix (dv 11) de_int (fun _ _ => rfl))) (i := 10) rfl rfl rfl)
    (dss_one (ds_if (dt_cmp (opr_neL0 (unit64 hr)) lr_L0 (dv 10) (de_lst da_nil) (nomark _)) (dss_one (ds_if (dt_cmp (opr_ne (unit64 hr)) lr_ne (dv 9) (de_tup (da_cons de_str (da_cons (de_ix (dv 10) de_int (fun _ _ => rfl)) da_nil))) (nomark _)) (dss_one (ds_ret de_bl)) dss_nil)) (dss_one (ds_if (PW.pt (dw_or (dt_cmp (opr_ne (unit64 hr)) lr_ne (de_ix (dv 9) de_int (fun _ _ => rfl)) de_str (nomark _)) (dw_or1 (dt_not (dt_val (de_def F__law_parts_right hq hr (da_cons (dv 3) (da_cons (dv 4) (da_cons (dv 8) (da_cons (de_ix (dv 9) de_int (fun _ _ => rfl)) da_nil)))))))))) (dss_one (ds_ret de_bl)) dss_nil)))))))
    (dss_one (ds_if (dt_cmp (opr_ne (unit64 hr)) lr_ne (de_callB (cr_reprQ hq (unit66 hr)) lc_reprQ rfl T.z_repr bt_repr (da_cons (de_tup (da_cons (dv 3) (da_cons (de_fg (dv 4)) da_nil))) da_nil)) (dv 6) (nomark _)) (dss_one (ds_ret de_bl)) dss_nil))))))))
    (dss_one (ds_ret (de_cmp (opr_eq (unit64 hr)) lr_eq (de_defX F_batched hq hr (da_cons (de_tup da_nil) (da_cons (de_tupP da_nil) (da_cons de_int da_nil)))) (de_tup da_nil) (nomark _))))))) fun ds μ Q E h => read__law_right ds μ Q E h
theorem ok_law (T : All K mg w.params) (Bm : BM base mg) : FnD P w base T.law 8 sp_law := by
  have F__law_right := ok__law_right (P := P) (w := w) (base := base) T Bm
  have F__law_hand := ok__law_hand (P := P) (w := w) (base := base) T Bm
  exact def_ok (k := 7) T.law.F sc_law _ (len_of (n := 1) len_law) (fun cdv A outer s H E hq hr => (dss_one (ds_ret (de_callB (cr_all rfl) lc_all rfl T.z_all bt_all (da_cons (de_lc (own := [("_law_k", 1)]) rfl sc_law.nd (blkOk_by (show blkC ["_law_script", "_law_k"] (defScope s_law) _ [("_law_k", 1)] = true by decide +kernel)) (own_name (by decide)) (di_range1 rfl T.z_range (da_cons (de_callB (call_max2 rfl) lc_i2 rfl T.z_max bt_max (da_cons de_int (da_cons (de_callB (call_min2 rfl) lc_i2 rfl T.z_min bt_min (da_cons de_int (da_cons (de_callB cr_len lc_len rfl T.z_len bt_len (da_cons (dv 0) da_nil)) da_nil))) da_nil))) da_nil)) (fun _ _ _ _ _ => (pg_name (i := 1) sc_law.nd rfl (by first | exact Or.inl rfl | exact Or.inr rfl) (by first | exact .inl rfl | exact .inr rfl))) (fun _ _ _ _ _ => dts_nil) (fun _ _ _ _ _ => (de_def F__law_right hq hr (da_cons (de_def F__law_hand hq hr (da_cons (dv 0) (da_cons (dv 1) da_nil))) da_nil)))) da_nil))))) fun ds μ Q E h => read_law ds μ Q E h
end
theorem all_mk {l : PySem.W.OpenLaw} {w : World} {K : PySem.W.Frag} {h : Heap} {mg : Str → Option Value} {fa f0 f1 f2 f3 f4 f5 f6 f7 f8 f9 f10 f11 f12 f13 f14 f15 : Addr} (X : K.In h) (G : h.Ns mainGlobals mg) (hfa : mg "law" = some (.ref fa))
    {od0 an0 : Option Addr} {sl0 : Array (Option Value)} {oc0 kV0 dc0 pm0 cd0 ct0 : Value} (a0 : PySem.W.nsIn K mainGlobals "price_of" = some (some (.ref f0))) (l0 : K.lookup f0 = some ⟨oc0, od0, .func (PySem.W.fnOf "price_of" "price_of" (defArgs s_price_of) (defBody s_price_of) (defScope s_price_of) .none kV0 dc0 pm0 an0 cd0 ct0), sl0⟩) (c0 : PySem.W.codeIn K cd0 "price_of" = true) (k0 : PySem.W.keepIn K (.ref f0) = true)
    {od1 an1 : Option Addr} {sl1 : Array (Option Value)} {oc1 kV1 dc1 pm1 cd1 ct1 : Value} (a1 : PySem.W.nsIn K mainGlobals "batched" = some (some (.ref f1))) (l1 : K.lookup f1 = some ⟨oc1, od1, .func (PySem.W.fnOf "batched" "batched" (defArgs s_batched) (defBody s_batched) (defScope s_batched) .none kV1 dc1 pm1 an1 cd1 ct1), sl1⟩) (c1 : PySem.W.codeIn K cd1 "batched" = true) (k1 : PySem.W.keepIn K (.ref f1) = true)
    {od2 an2 : Option Addr} {sl2 : Array (Option Value)} {oc2 kV2 dc2 pm2 cd2 ct2 : Value} (a2 : PySem.W.nsIn K mainGlobals "_law_hand" = some (some (.ref f2))) (l2 : K.lookup f2 = some ⟨oc2, od2, .func (PySem.W.fnOf "_law_hand" "_law_hand" (defArgs s__law_hand) (defBody s__law_hand) (defScope s__law_hand) .none kV2 dc2 pm2 an2 cd2 ct2), sl2⟩) (c2 : PySem.W.codeIn K cd2 "_law_hand" = true) (k2 : PySem.W.keepIn K (.ref f2) = true)
    {od3 an3 : Option Addr} {sl3 : Array (Option Value)} {oc3 kV3 dc3 pm3 cd3 ct3 : Value} (a3 : PySem.W.nsIn K mainGlobals "_law_take" = some (some (.ref f3))) (l3 : K.lookup f3 = some ⟨oc3, od3, .func (PySem.W.fnOf "_law_take" "_law_take" (defArgs s__law_take) (defBody s__law_take) (defScope s__law_take) .none kV3 dc3 pm3 an3 cd3 ct3), sl3⟩) (c3 : PySem.W.codeIn K cd3 "_law_take" = true) (k3 : PySem.W.keepIn K (.ref f3) = true)
    {od4 an4 : Option Addr} {sl4 : Array (Option Value)} {oc4 kV4 dc4 pm4 cd4 ct4 : Value} (a4 : PySem.W.nsIn K mainGlobals "_law_of" = some (some (.ref f4))) (l4 : K.lookup f4 = some ⟨oc4, od4, .func (PySem.W.fnOf "_law_of" "_law_of" (defArgs s__law_of) (defBody s__law_of) (defScope s__law_of) .none kV4 dc4 pm4 an4 cd4 ct4), sl4⟩) (c4 : PySem.W.codeIn K cd4 "_law_of" = true) (k4 : PySem.W.keepIn K (.ref f4) = true)
    {od5 an5 : Option Addr} {sl5 : Array (Option Value)} {oc5 kV5 dc5 pm5 cd5 ct5 : Value} (a5 : PySem.W.nsIn K mainGlobals "_law_mixed" = some (some (.ref f5))) (l5 : K.lookup f5 = some ⟨oc5, od5, .func (PySem.W.fnOf "_law_mixed" "_law_mixed" (defArgs s__law_mixed) (defBody s__law_mixed) (defScope s__law_mixed) .none kV5 dc5 pm5 an5 cd5 ct5), sl5⟩) (c5 : PySem.W.codeIn K cd5 "_law_mixed" = true) (k5 : PySem.W.keepIn K (.ref f5) = true)
    {od6 an6 : Option Addr} {sl6 : Array (Option Value)} {oc6 kV6 dc6 pm6 cd6 ct6 : Value} (a6 : PySem.W.nsIn K mainGlobals "_law_names" = some (some (.ref f6))) (l6 : K.lookup f6 = some ⟨oc6, od6, .func (PySem.W.fnOf "_law_names" "_law_names" (defArgs s__law_names) (defBody s__law_names) (defScope s__law_names) .none kV6 dc6 pm6 an6 cd6 ct6), sl6⟩) (c6 : PySem.W.codeIn K cd6 "_law_names" = true) (k6 : PySem.W.keepIn K (.ref f6) = true)
    {od7 an7 : Option Addr} {sl7 : Array (Option Value)} {oc7 kV7 dc7 pm7 cd7 ct7 : Value} (a7 : PySem.W.nsIn K mainGlobals "_law_price" = some (some (.ref f7))) (l7 : K.lookup f7 = some ⟨oc7, od7, .func (PySem.W.fnOf "_law_price" "_law_price" (defArgs s__law_price) (defBody s__law_price) (defScope s__law_price) .none kV7 dc7 pm7 an7 cd7 ct7), sl7⟩) (c7 : PySem.W.codeIn K cd7 "_law_price" = true) (k7 : PySem.W.keepIn K (.ref f7) = true)
    {od8 an8 : Option Addr} {sl8 : Array (Option Value)} {oc8 kV8 dc8 pm8 cd8 ct8 : Value} (a8 : PySem.W.nsIn K mainGlobals "_law_costs" = some (some (.ref f8))) (l8 : K.lookup f8 = some ⟨oc8, od8, .func (PySem.W.fnOf "_law_costs" "_law_costs" (defArgs s__law_costs) (defBody s__law_costs) (defScope s__law_costs) .none kV8 dc8 pm8 an8 cd8 ct8), sl8⟩) (c8 : PySem.W.codeIn K cd8 "_law_costs" = true) (k8 : PySem.W.keepIn K (.ref f8) = true)
    {od9 an9 : Option Addr} {sl9 : Array (Option Value)} {oc9 kV9 dc9 pm9 cd9 ct9 : Value} (a9 : PySem.W.nsIn K mainGlobals "_law_told" = some (some (.ref f9))) (l9 : K.lookup f9 = some ⟨oc9, od9, .func (PySem.W.fnOf "_law_told" "_law_told" (defArgs s__law_told) (defBody s__law_told) (defScope s__law_told) .none kV9 dc9 pm9 an9 cd9 ct9), sl9⟩) (c9 : PySem.W.codeIn K cd9 "_law_told" = true) (k9 : PySem.W.keepIn K (.ref f9) = true)
    {od10 an10 : Option Addr} {sl10 : Array (Option Value)} {oc10 kV10 dc10 pm10 cd10 ct10 : Value} (a10 : PySem.W.nsIn K mainGlobals "_law_steps" = some (some (.ref f10))) (l10 : K.lookup f10 = some ⟨oc10, od10, .func (PySem.W.fnOf "_law_steps" "_law_steps" (defArgs s__law_steps) (defBody s__law_steps) (defScope s__law_steps) .none kV10 dc10 pm10 an10 cd10 ct10), sl10⟩) (c10 : PySem.W.codeIn K cd10 "_law_steps" = true) (k10 : PySem.W.keepIn K (.ref f10) = true)
    {od11 an11 : Option Addr} {sl11 : Array (Option Value)} {oc11 kV11 dc11 pm11 cd11 ct11 : Value} (a11 : PySem.W.nsIn K mainGlobals "_law_weights" = some (some (.ref f11))) (l11 : K.lookup f11 = some ⟨oc11, od11, .func (PySem.W.fnOf "_law_weights" "_law_weights" (defArgs s__law_weights) (defBody s__law_weights) (defScope s__law_weights) .none kV11 dc11 pm11 an11 cd11 ct11), sl11⟩) (c11 : PySem.W.codeIn K cd11 "_law_weights" = true) (k11 : PySem.W.keepIn K (.ref f11) = true)
    {od12 an12 : Option Addr} {sl12 : Array (Option Value)} {oc12 kV12 dc12 pm12 cd12 ct12 : Value} (a12 : PySem.W.nsIn K mainGlobals "_law_fewest" = some (some (.ref f12))) (l12 : K.lookup f12 = some ⟨oc12, od12, .func (PySem.W.fnOf "_law_fewest" "_law_fewest" (defArgs s__law_fewest) (defBody s__law_fewest) (defScope s__law_fewest) .none kV12 dc12 pm12 an12 cd12 ct12), sl12⟩) (c12 : PySem.W.codeIn K cd12 "_law_fewest" = true) (k12 : PySem.W.keepIn K (.ref f12) = true)
    {od13 an13 : Option Addr} {sl13 : Array (Option Value)} {oc13 kV13 dc13 pm13 cd13 ct13 : Value} (a13 : PySem.W.nsIn K mainGlobals "_law_parts_right" = some (some (.ref f13))) (l13 : K.lookup f13 = some ⟨oc13, od13, .func (PySem.W.fnOf "_law_parts_right" "_law_parts_right" (defArgs s__law_parts_right) (defBody s__law_parts_right) (defScope s__law_parts_right) .none kV13 dc13 pm13 an13 cd13 ct13), sl13⟩) (c13 : PySem.W.codeIn K cd13 "_law_parts_right" = true) (k13 : PySem.W.keepIn K (.ref f13) = true)
    {od14 an14 : Option Addr} {sl14 : Array (Option Value)} {oc14 kV14 dc14 pm14 cd14 ct14 : Value} (a14 : PySem.W.nsIn K mainGlobals "_law_right" = some (some (.ref f14))) (l14 : K.lookup f14 = some ⟨oc14, od14, .func (PySem.W.fnOf "_law_right" "_law_right" (defArgs s__law_right) (defBody s__law_right) (defScope s__law_right) .none kV14 dc14 pm14 an14 cd14 ct14), sl14⟩) (c14 : PySem.W.codeIn K cd14 "_law_right" = true) (k14 : PySem.W.keepIn K (.ref f14) = true)
    {od15 an15 : Option Addr} {sl15 : Array (Option Value)} {oc15 kV15 dc15 pm15 cd15 ct15 : Value} (a15 : PySem.W.nsIn K mainGlobals "law" = some (some (.ref f15))) (l15 : K.lookup f15 = some ⟨oc15, od15, .func (PySem.W.fnOf "law" "law" (defArgs s_law) (defBody s_law) (defScope s_law) .none kV15 dc15 pm15 an15 cd15 ct15), sl15⟩) (c15 : PySem.W.codeIn K cd15 "law" = true) (k15 : PySem.W.keepIn K (.ref f15) = true)
    {C0 N0 : Addr} {nm0 qn0 : Str} {bs0 bm0 sub0 : List Value} {sn0 : List Str} {ab0 : Bool} {col0 : Option Bool} {dd0 : Option Addr} {ka0 kb0 kc0 kd0 ke0 : Option Value} (xa0 : PySem.W.nsIn K mainGlobals "DifferentRoots" = some (some (.ref C0))) (xl0 : K.lookup C0 = some (excClassObj nm0 qn0 C0 N0 bs0 bm0 true sn0 sub0 ab0 col0 dd0 ka0 kb0 kc0 kd0 ke0 "ValueError.__new__")) (xv0 : PySem.HandSPX.refsVE bm0 = true) (xf0 : XF K C0)
    (xe0 : PySem.W.excIn K C0 [.type "ValueError", .type "Exception", .type "BaseException", .type "object"] "ValueError.__new__" = true)
    {C1 N1 : Addr} {nm1 qn1 : Str} {bs1 bm1 sub1 : List Value} {sn1 : List Str} {ab1 : Bool} {col1 : Option Bool} {dd1 : Option Addr} {ka1 kb1 kc1 kd1 ke1 : Option Value} (xa1 : PySem.W.nsIn K mainGlobals "NoNumber" = some (some (.ref C1))) (xl1 : K.lookup C1 = some (excClassObj nm1 qn1 C1 N1 bs1 bm1 true sn1 sub1 ab1 col1 dd1 ka1 kb1 kc1 kd1 ke1 "ValueError.__new__")) (xv1 : PySem.HandSPX.refsVE bm1 = true) (xf1 : XF K C1)
    {I1 : Addr} {xod1 xan1 : Option Addr} {xsl1 : Array (Option Value)} {xoc1 xkV1 xdc1 xpm1 xcd1 xct1 : Value} (xi1 : PySem.W.findIn K (.ref C1) "__init__" = some (some (.ref I1))) (xL1 : K.lookup I1 = some ⟨xoc1, xod1, .func (PySem.W.fnOf "__init__" "NoNumber.__init__" (defArgs s_NoNumber_init) (defBody s_NoNumber_init) (defScope s_NoNumber_init) .none xkV1 xdc1 xpm1 xan1 xcd1 xct1), xsl1⟩) (xc1 : PySem.W.codeIn K xcd1 "NoNumber.__init__" = true) (xk1 : PySem.W.keepIn K (.ref I1) = true) (xt1 : PySem.W.typeIn K (.ref I1) = some (.type "function")) (xn1 : PySem.W.findIn K (.ref C1) "number" = some none)
    {C2 N2 : Addr} {nm2 qn2 : Str} {bs2 bm2 sub2 : List Value} {sn2 : List Str} {ab2 : Bool} {col2 : Option Bool} {dd2 : Option Addr} {ka2 kb2 kc2 kd2 ke2 : Option Value} (xa2 : PySem.W.nsIn K mainGlobals "NotKept" = some (some (.ref C2))) (xl2 : K.lookup C2 = some (excClassObj nm2 qn2 C2 N2 bs2 bm2 true sn2 sub2 ab2 col2 dd2 ka2 kb2 kc2 kd2 ke2 "ValueError.__new__")) (xv2 : PySem.HandSPX.refsVE bm2 = true) (xf2 : XF K C2)
    {I2 : Addr} {xod2 xan2 : Option Addr} {xsl2 : Array (Option Value)} {xoc2 xkV2 xdc2 xpm2 xcd2 xct2 : Value} (xi2 : PySem.W.findIn K (.ref C2) "__init__" = some (some (.ref I2))) (xL2 : K.lookup I2 = some ⟨xoc2, xod2, .func (PySem.W.fnOf "__init__" "NotKept.__init__" (defArgs s_NotKept_init) (defBody s_NotKept_init) (defScope s_NotKept_init) .none xkV2 xdc2 xpm2 xan2 xcd2 xct2), xsl2⟩) (xc2 : PySem.W.codeIn K xcd2 "NotKept.__init__" = true) (xk2 : PySem.W.keepIn K (.ref I2) = true) (xt2 : PySem.W.typeIn K (.ref I2) = some (.type "function")) (xn2 : PySem.W.findIn K (.ref C2) "value" = some none)
    {C3 N3 : Addr} {nm3 qn3 : Str} {bs3 bm3 sub3 : List Value} {sn3 : List Str} {ab3 : Bool} {col3 : Option Bool} {dd3 : Option Addr} {ka3 kb3 kc3 kd3 ke3 : Option Value} (xa3 : PySem.W.nsIn K mainGlobals "Conflict" = some (some (.ref C3))) (xl3 : K.lookup C3 = some (excClassObj nm3 qn3 C3 N3 bs3 bm3 true sn3 sub3 ab3 col3 dd3 ka3 kb3 kc3 kd3 ke3 "ValueError.__new__")) (xv3 : PySem.HandSPX.refsVE bm3 = true) (xf3 : XF K C3)
    {I3 : Addr} {xod3 xan3 : Option Addr} {xsl3 : Array (Option Value)} {xoc3 xkV3 xdc3 xpm3 xcd3 xct3 : Value} (xi3 : PySem.W.findIn K (.ref C3) "__init__" = some (some (.ref I3))) (xL3 : K.lookup I3 = some ⟨xoc3, xod3, .func (PySem.W.fnOf "__init__" "Conflict.__init__" (defArgs s_Conflict_init) (defBody s_Conflict_init) (defScope s_Conflict_init) .none xkV3 xdc3 xpm3 xan3 xcd3 xct3), xsl3⟩) (xc3 : PySem.W.codeIn K xcd3 "Conflict.__init__" = true) (xk3 : PySem.W.keepIn K (.ref I3) = true) (xt3 : PySem.W.typeIn K (.ref I3) = some (.type "function")) (xn3 : PySem.W.findIn K (.ref C3) "value" = some none)
    {C4 N4 : Addr} {nm4 qn4 : Str} {bs4 bm4 sub4 : List Value} {sn4 : List Str} {ab4 : Bool} {col4 : Option Bool} {dd4 : Option Addr} {ka4 kb4 kc4 kd4 ke4 : Option Value} (xa4 : PySem.W.nsIn K mainGlobals "NotPatch" = some (some (.ref C4))) (xl4 : K.lookup C4 = some (excClassObj nm4 qn4 C4 N4 bs4 bm4 true sn4 sub4 ab4 col4 dd4 ka4 kb4 kc4 kd4 ke4 "ValueError.__new__")) (xv4 : PySem.HandSPX.refsVE bm4 = true) (xf4 : XF K C4)
    {I4 : Addr} {xod4 xan4 : Option Addr} {xsl4 : Array (Option Value)} {xoc4 xkV4 xdc4 xpm4 xcd4 xct4 : Value} (xi4 : PySem.W.findIn K (.ref C4) "__init__" = some (some (.ref I4))) (xL4 : K.lookup I4 = some ⟨xoc4, xod4, .func (PySem.W.fnOf "__init__" "NotPatch.__init__" (defArgs s_NotPatch_init) (defBody s_NotPatch_init) (defScope s_NotPatch_init) .none xkV4 xdc4 xpm4 xan4 xcd4 xct4), xsl4⟩) (xc4 : PySem.W.codeIn K xcd4 "NotPatch.__init__" = true) (xk4 : PySem.W.keepIn K (.ref I4) = true) (xt4 : PySem.W.typeIn K (.ref I4) = some (.type "function")) (xn4 : PySem.W.findIn K (.ref C4) "value" = some none)
    {C5 N5 : Addr} {nm5 qn5 : Str} {bs5 bm5 sub5 : List Value} {sn5 : List Str} {ab5 : Bool} {col5 : Option Bool} {dd5 : Option Addr} {ka5 kb5 kc5 kd5 ke5 : Option Value} (xa5 : PySem.W.nsIn K mainGlobals "TooDear" = some (some (.ref C5))) (xl5 : K.lookup C5 = some (excClassObj nm5 qn5 C5 N5 bs5 bm5 true sn5 sub5 ab5 col5 dd5 ka5 kb5 kc5 kd5 ke5 "ValueError.__new__")) (xv5 : PySem.HandSPX.refsVE bm5 = true) (xf5 : XF K C5)
    {I5 : Addr} {xod5 xan5 : Option Addr} {xsl5 : Array (Option Value)} {xoc5 xkV5 xdc5 xpm5 xcd5 xct5 : Value} (xi5 : PySem.W.findIn K (.ref C5) "__init__" = some (some (.ref I5))) (xL5 : K.lookup I5 = some ⟨xoc5, xod5, .func (PySem.W.fnOf "__init__" "TooDear.__init__" (defArgs s_TooDear_init) (defBody s_TooDear_init) (defScope s_TooDear_init) .none xkV5 xdc5 xpm5 xan5 xcd5 xct5), xsl5⟩) (xc5 : PySem.W.codeIn K xcd5 "TooDear.__init__" = true) (xk5 : PySem.W.keepIn K (.ref I5) = true) (xt5 : PySem.W.typeIn K (.ref I5) = some (.type "function")) (xn5 : PySem.W.findIn K (.ref C5) "key" = some none)
    {CB : Addr} (ba : PySem.W.nsIn K mainGlobals "KeyedError" = some (some (.ref CB))) (bsp : PySem.W.specialIn K (.ref CB) "__getattribute__" = some (some (.builtin "type.__getattribute__"))) (brd : PySem.W.readsIn K CB (.type "type") = true) (bat : PySem.W.findCls K (.ref CB) (.type "type") "__init__" = some (.val (.builtin "ValueError.__init__"))) (bis : PySem.W.isClsIn K CB = true) (bty : PySem.W.typeIn K (.ref CB) = some (.type "type")) (bsub : PySem.W.subIn K (.ref CB) (.type "BaseException") = some true)
    (kq_Conflict : kitQ [("DifferentRoots", C0, bm0), ("NoNumber", C1, bm1), ("NotKept", C2, bm2), ("Conflict", C3, bm3), ("NotPatch", C4, bm4), ("TooDear", C5, bm5)] "Conflict" C3 = true) (kq_DifferentRoots : kitQ [("DifferentRoots", C0, bm0), ("NoNumber", C1, bm1), ("NotKept", C2, bm2), ("Conflict", C3, bm3), ("NotPatch", C4, bm4), ("TooDear", C5, bm5)] "DifferentRoots" C0 = true) (kq_KeyedError : kitQ [("DifferentRoots", C0, bm0), ("NoNumber", C1, bm1), ("NotKept", C2, bm2), ("Conflict", C3, bm3), ("NotPatch", C4, bm4), ("TooDear", C5, bm5)] "KeyedError" CB = true) (kq_NoNumber : kitQ [("DifferentRoots", C0, bm0), ("NoNumber", C1, bm1), ("NotKept", C2, bm2), ("Conflict", C3, bm3), ("NotPatch", C4, bm4), ("TooDear", C5, bm5)] "NoNumber" C1 = true) (kq_NotKept : kitQ [("DifferentRoots", C0, bm0), ("NoNumber", C1, bm1), ("NotKept", C2, bm2), ("Conflict", C3, bm3), ("NotPatch", C4, bm4), ("TooDear", C5, bm5)] "NotKept" C2 = true) (kq_NotPatch : kitQ [("DifferentRoots", C0, bm0), ("NoNumber", C1, bm1), ("NotKept", C2, bm2), ("Conflict", C3, bm3), ("NotPatch", C4, bm4), ("TooDear", C5, bm5)] "NotPatch" C4 = true) (kq_TooDear : kitQ [("DifferentRoots", C0, bm0), ("NoNumber", C1, bm1), ("NotKept", C2, bm2), ("Conflict", C3, bm3), ("NotPatch", C4, bm4), ("TooDear", C5, bm5)] "TooDear" C5 = true)
    {tk_LEAST_COST : Nat} (c_LEAST_COST : PySem.W.nsIn K mainGlobals "LEAST_COST" = some (some (.int 1 tk_LEAST_COST))) {tk_MOVE : Nat} (c_MOVE : PySem.W.nsIn K mainGlobals "MOVE" = some (some (.str "move" tk_MOVE)))
    (z_ValueError : PySem.W.nsIn K mainGlobals "ValueError" = some none) (z_abs : PySem.W.nsIn K mainGlobals "abs" = some none) (z_all : PySem.W.nsIn K mainGlobals "all" = some none) (z_dict : PySem.W.nsIn K mainGlobals "dict" = some none) (z_int : PySem.W.nsIn K mainGlobals "int" = some none) (z_isinstance : PySem.W.nsIn K mainGlobals "isinstance" = some none) (z_len : PySem.W.nsIn K mainGlobals "len" = some none) (z_list : PySem.W.nsIn K mainGlobals "list" = some none) (z_max : PySem.W.nsIn K mainGlobals "max" = some none) (z_min : PySem.W.nsIn K mainGlobals "min" = some none) (z_range : PySem.W.nsIn K mainGlobals "range" = some none) (z_repr : PySem.W.nsIn K mainGlobals "repr" = some none) (z_sorted : PySem.W.nsIn K mainGlobals "sorted" = some none) (z_sum : PySem.W.nsIn K mainGlobals "sum" = some none) (z_tuple : PySem.W.nsIn K mainGlobals "tuple" = some none) (z_zip : PySem.W.nsIn K mainGlobals "zip" = some none)
    (hcd : cd14 = .ref (tabOf K f14).1) (hth : PySem.W.codeHdIn K (tabOf K f14).1 (tabOf K f14).2 = true) (htn : K.lookup (tabOf K f14).2 = none) :
    ∃ (T0 : Addr) (fd : FuncData), TabAt K "_law_right" T0 ∧ K.lookup T0 = none ∧ (∀ (s : Shared) (v : Value), BindsTo s fd ⟨[v], []⟩ [("_law_script", v)]) ∧ ∀ base : Heap, K.In base → base.Ns mainGlobals mg → BM base mg → FnG l.prog w K mg base CX0 8 fa fd ["_law_script"] (LSp K sp_law) := by
  have e := hfa.symm.trans (PySem.W.mg_of X G a15)
  cases e
  have F0 := fun_mk (st := s_price_of) l0 c0 k0
  have b0 := F0.binds (ps := ["costs", "key"]) fun _ _ _ _ _ _ us hl => match us, hl with | [_, _], _ => rfl
  have F1 := fun_mk (st := s_batched) l1 c1 k1
  have b1 := F1.binds (ps := ["operations", "costs", "most"]) fun _ _ _ _ _ _ us hl => match us, hl with | [_, _, _], _ => rfl
  have F2 := fun_mk (st := s__law_hand) l2 c2 k2
  have b2 := F2.binds (ps := ["_law_script", "_law_k"]) fun _ _ _ _ _ _ us hl => match us, hl with | [_, _], _ => rfl
  have F3 := fun_mk (st := s__law_take) l3 c3 k3
  have b3 := F3.binds (ps := ["_law_hand_here", "_law_many"]) fun _ _ _ _ _ _ us hl => match us, hl with | [_, _], _ => rfl
  have F4 := fun_mk (st := s__law_of) l4 c4 k4
  have b4 := F4.binds (ps := ["_law_hand_here", "_law_some"]) fun _ _ _ _ _ _ us hl => match us, hl with | [_, _], _ => rfl
  have F5 := fun_mk (st := s__law_mixed) l5 c5 k5
  have b5 := F5.binds (ps := ["_law_hand_here", "_law_some"]) fun _ _ _ _ _ _ us hl => match us, hl with | [_, _], _ => rfl
  have F6 := fun_mk (st := s__law_names) l6 c6 k6
  have b6 := F6.binds (ps := ["_law_hand_here", "_law_count"]) fun _ _ _ _ _ _ us hl => match us, hl with | [_, _], _ => rfl
  have F7 := fun_mk (st := s__law_price) l7 c7 k7
  have b7 := F7.binds (ps := ["_law_prices", "_law_key"]) fun _ _ _ _ _ _ us hl => match us, hl with | [_, _], _ => rfl
  have F8 := fun_mk (st := s__law_costs) l8 c8 k8
  have b8 := F8.binds (ps := ["_law_hand_here", "_law_names_here"]) fun _ _ _ _ _ _ us hl => match us, hl with | [_, _], _ => rfl
  have F9 := fun_mk (st := s__law_told) l9 c9 k9
  have b9 := F9.binds (ps := ["_law_ask"]) fun _ _ _ _ _ _ us hl => match us, hl with | [_], _ => rfl
  have F10 := fun_mk (st := s__law_steps) l10 c10 k10
  have b10 := F10.binds (ps := ["_law_hand_here", "_law_names_here", "_law_many"]) fun _ _ _ _ _ _ us hl => match us, hl with | [_, _, _], _ => rfl
  have F11 := fun_mk (st := s__law_weights) l11 c11 k11
  have b11 := F11.binds (ps := ["_law_steps_here", "_law_prices"]) fun _ _ _ _ _ _ us hl => match us, hl with | [_, _], _ => rfl
  have F12 := fun_mk (st := s__law_fewest) l12 c12 k12
  have b12 := F12.binds (ps := ["_law_weights_here", "_law_most"]) fun _ _ _ _ _ _ us hl => match us, hl with | [_, _], _ => rfl
  have F13 := fun_mk (st := s__law_parts_right) l13 c13 k13
  have b13 := F13.binds (ps := ["_law_steps_here", "_law_prices", "_law_most", "_law_parts"]) fun _ _ _ _ _ _ us hl => match us, hl with | [_, _, _, _], _ => rfl
  have F14 := fun_mk (st := s__law_right) l14 c14 k14
  have b14 := F14.binds (ps := ["_law_hand_here"]) fun _ _ _ _ _ _ us hl => match us, hl with | [_], _ => rfl
  have F15 := fun_mk (st := s_law) l15 c15 k15
  have b15 := F15.binds (ps := ["_law_script"]) fun _ _ _ _ _ _ us hl => match us, hl with | [_], _ => rfl
  have xr0 : XRow K ("DifferentRoots", C0, bm0) := ⟨xa0, xv0, _, _, _, _, _, _, _, _, _, _, _, _, _, _, xl0⟩
  have xr1 : XRow K ("NoNumber", C1, bm1) := ⟨xa1, xv1, _, _, _, _, _, _, _, _, _, _, _, _, _, _, xl1⟩
  have xF1 := fun_mk (st := s_NoNumber_init) xL1 xc1 xk1
  have xb1 := xF1.binds (ps := ["self", "number"]) fun _ _ _ _ _ _ us hl => match us, hl with | [_, _], _ => rfl
  have xkb1 : KBinds K _ ["self", "number"] ["number"] (kwG [.inl 0, .inr 0] 1 1) (kwG [.inl 0, .inr 0] 1 1) := kbinds_of xF1 (fun _ _ _ _ _ _ us ws h1 h2 _ => match us, ws, h1, h2 with | [_], [_], _, _ => rfl) (by simp)
  have xr2 : XRow K ("NotKept", C2, bm2) := ⟨xa2, xv2, _, _, _, _, _, _, _, _, _, _, _, _, _, _, xl2⟩
  have xF2 := fun_mk (st := s_NotKept_init) xL2 xc2 xk2
  have xb2 := xF2.binds (ps := ["self", "value"]) fun _ _ _ _ _ _ us hl => match us, hl with | [_, _], _ => rfl
  have xkb2 : KBinds K _ ["self", "value"] ["value"] (kwG [.inl 0, .inr 0] 1 1) (kwG [.inl 0, .inr 0] 1 1) := kbinds_of xF2 (fun _ _ _ _ _ _ us ws h1 h2 _ => match us, ws, h1, h2 with | [_], [_], _, _ => rfl) (by simp)
  have xr3 : XRow K ("Conflict", C3, bm3) := ⟨xa3, xv3, _, _, _, _, _, _, _, _, _, _, _, _, _, _, xl3⟩
  have xF3 := fun_mk (st := s_Conflict_init) xL3 xc3 xk3
  have xb3 := xF3.binds (ps := ["self", "value"]) fun _ _ _ _ _ _ us hl => match us, hl with | [_, _], _ => rfl
  have xkb3 : KBinds K _ ["self", "value"] ["value"] (kwG [.inl 0, .inr 0] 1 1) (kwG [.inl 0, .inr 0] 1 1) := kbinds_of xF3 (fun _ _ _ _ _ _ us ws h1 h2 _ => match us, ws, h1, h2 with | [_], [_], _, _ => rfl) (by simp)
  have xr4 : XRow K ("NotPatch", C4, bm4) := ⟨xa4, xv4, _, _, _, _, _, _, _, _, _, _, _, _, _, _, xl4⟩
  have xF4 := fun_mk (st := s_NotPatch_init) xL4 xc4 xk4
  have xb4 := xF4.binds (ps := ["self", "value"]) fun _ _ _ _ _ _ us hl => match us, hl with | [_, _], _ => rfl
  have xkb4 : KBinds K _ ["self", "value"] ["value"] (kwG [.inl 0, .inr 0] 1 1) (kwG [.inl 0, .inr 0] 1 1) := kbinds_of xF4 (fun _ _ _ _ _ _ us ws h1 h2 _ => match us, ws, h1, h2 with | [_], [_], _, _ => rfl) (by simp)
  have xr5 : XRow K ("TooDear", C5, bm5) := ⟨xa5, xv5, _, _, _, _, _, _, _, _, _, _, _, _, _, _, xl5⟩
  have xF5 := fun_mk (st := s_TooDear_init) xL5 xc5 xk5
  have xb5 := xF5.binds (ps := ["self", "key"]) fun _ _ _ _ _ _ us hl => match us, hl with | [_, _], _ => rfl
  have xkb5 : KBinds K _ ["self", "key"] ["key"] (kwG [.inl 0, .inr 0] 1 1) (kwG [.inl 0, .inr 0] 1 1) := kbinds_of xF5 (fun _ _ _ _ _ _ us ws h1 h2 _ => match us, ws, h1, h2 with | [_], [_], _, _ => rfl) (by simp)
  have rows : ∀ r ∈ ([("DifferentRoots", C0, bm0), ("NoNumber", C1, bm1), ("NotKept", C2, bm2), ("Conflict", C3, bm3), ("NotPatch", C4, bm4), ("TooDear", C5, bm5)] : List (Str × Addr × List Value)), XRow K r := fun r hr => by
    simp only [List.mem_cons, List.not_mem_nil, or_false] at hr
    rcases hr with rfl | rfl | rfl | rfl | rfl | rfl
    · exact xr0
    · exact xr1
    · exact xr2
    · exact xr3
    · exact xr4
    · exact xr5
  have isCB : (PySem.W.clsIn K CB).isSome = true := bis
  have isC_Conflict : (PySem.W.clsIn K C3).isSome = true := by obtain ⟨cd, e, _⟩ := xrow_cls xr3; exact Option.isSome_iff_exists.mpr ⟨cd, e⟩
  have isC_DifferentRoots : (PySem.W.clsIn K C0).isSome = true := by obtain ⟨cd, e, _⟩ := xrow_cls xr0; exact Option.isSome_iff_exists.mpr ⟨cd, e⟩
  have isC_NoNumber : (PySem.W.clsIn K C1).isSome = true := by obtain ⟨cd, e, _⟩ := xrow_cls xr1; exact Option.isSome_iff_exists.mpr ⟨cd, e⟩
  have isC_NotKept : (PySem.W.clsIn K C2).isSome = true := by obtain ⟨cd, e, _⟩ := xrow_cls xr2; exact Option.isSome_iff_exists.mpr ⟨cd, e⟩
  have isC_NotPatch : (PySem.W.clsIn K C4).isSome = true := by obtain ⟨cd, e, _⟩ := xrow_cls xr4; exact Option.isSome_iff_exists.mpr ⟨cd, e⟩
  have isC_TooDear : (PySem.W.clsIn K C5).isSome = true := by obtain ⟨cd, e, _⟩ := xrow_cls xr5; exact Option.isSome_iff_exists.mpr ⟨cd, e⟩
  let T : All K mg w.params := { x_DifferentRoots := ⟨C0, PySem.W.mg_of X G xa0, xe0, xf0.kc, xf0.xck xa0 (fun f hf => by cases hf)⟩, x_NoNumber := ⟨C1, I1, _, xF1, PySem.W.mg_of X G xa1, xf1.oex xr1, xi1, xt1, xb1, xkb1, xf1.xck xa1 (fun f hf => by cases List.mem_singleton.mp hf; exact xn1)⟩, x_NotKept := ⟨C2, I2, _, xF2, PySem.W.mg_of X G xa2, xf2.oex xr2, xi2, xt2, xb2, xkb2, xf2.xck xa2 (fun f hf => by cases List.mem_singleton.mp hf; exact xn2)⟩, x_Conflict := ⟨C3, I3, _, xF3, PySem.W.mg_of X G xa3, xf3.oex xr3, xi3, xt3, xb3, xkb3, xf3.xck xa3 (fun f hf => by cases List.mem_singleton.mp hf; exact xn3)⟩, x_NotPatch := ⟨C4, I4, _, xF4, PySem.W.mg_of X G xa4, xf4.oex xr4, xi4, xt4, xb4, xkb4, xf4.xck xa4 (fun f hf => by cases List.mem_singleton.mp hf; exact xn4)⟩, x_TooDear := ⟨C5, I5, _, xF5, PySem.W.mg_of X G xa5, xf5.oex xr5, xi5, xt5, xb5, xkb5, xf5.xck xa5 (fun f hf => by cases List.mem_singleton.mp hf; exact xn5)⟩, b_KeyedError := ⟨CB, PySem.W.mg_of X G ba, bsp, brd, bat⟩, exm_KeyedError := fun y b C => exm_ok kq_KeyedError rows isCB bty bsub y b C, a_Conflict := C3, m_Conflict := PySem.W.mg_of X G xa3, kit_Conflict := fun y b C => kit_ok kq_Conflict rows isC_Conflict xf3.ty y b C, a_DifferentRoots := C0, m_DifferentRoots := PySem.W.mg_of X G xa0, kit_DifferentRoots := fun y b C => kit_ok kq_DifferentRoots rows isC_DifferentRoots xf0.ty y b C, a_KeyedError := CB, m_KeyedError := PySem.W.mg_of X G ba, kit_KeyedError := fun y b C => kit_ok kq_KeyedError rows isCB bty y b C, a_NoNumber := C1, m_NoNumber := PySem.W.mg_of X G xa1, kit_NoNumber := fun y b C => kit_ok kq_NoNumber rows isC_NoNumber xf1.ty y b C, a_NotKept := C2, m_NotKept := PySem.W.mg_of X G xa2, kit_NotKept := fun y b C => kit_ok kq_NotKept rows isC_NotKept xf2.ty y b C, a_NotPatch := C4, m_NotPatch := PySem.W.mg_of X G xa4, kit_NotPatch := fun y b C => kit_ok kq_NotPatch rows isC_NotPatch xf4.ty y b C, a_TooDear := C5, m_TooDear := PySem.W.mg_of X G xa5, kit_TooDear := fun y b C => kit_ok kq_TooDear rows isC_TooDear xf5.ty y b C, kit_ValueError := fun y b C => kit_ve rows y b C, price_of := ⟨_, _, F0, PySem.W.mg_of X G a0, b0⟩, batched := ⟨_, _, F1, PySem.W.mg_of X G a1, b1⟩, _law_hand := ⟨_, _, F2, PySem.W.mg_of X G a2, b2⟩, _law_take := ⟨_, _, F3, PySem.W.mg_of X G a3, b3⟩, _law_of := ⟨_, _, F4, PySem.W.mg_of X G a4, b4⟩, _law_mixed := ⟨_, _, F5, PySem.W.mg_of X G a5, b5⟩, _law_names := ⟨_, _, F6, PySem.W.mg_of X G a6, b6⟩, _law_price := ⟨_, _, F7, PySem.W.mg_of X G a7, b7⟩, _law_costs := ⟨_, _, F8, PySem.W.mg_of X G a8, b8⟩, _law_told := ⟨_, _, F9, PySem.W.mg_of X G a9, b9⟩, _law_steps := ⟨_, _, F10, PySem.W.mg_of X G a10, b10⟩, _law_weights := ⟨_, _, F11, PySem.W.mg_of X G a11, b11⟩, _law_fewest := ⟨_, _, F12, PySem.W.mg_of X G a12, b12⟩, _law_parts_right := ⟨_, _, F13, PySem.W.mg_of X G a13, b13⟩, _law_right := ⟨_, _, F14, PySem.W.mg_of X G a14, b14⟩, law := ⟨_, _, F15, PySem.W.mg_of X G a15, b15⟩, z_ValueError := PySem.W.mg_none_of X G z_ValueError, z_abs := PySem.W.mg_none_of X G z_abs, z_all := PySem.W.mg_none_of X G z_all, z_dict := PySem.W.mg_none_of X G z_dict, z_int := PySem.W.mg_none_of X G z_int, z_isinstance := PySem.W.mg_none_of X G z_isinstance, z_len := PySem.W.mg_none_of X G z_len, z_list := PySem.W.mg_none_of X G z_list, z_max := PySem.W.mg_none_of X G z_max, z_min := PySem.W.mg_none_of X G z_min, z_range := PySem.W.mg_none_of X G z_range, z_repr := PySem.W.mg_none_of X G z_repr, z_sorted := PySem.W.mg_none_of X G z_sorted, z_sum := PySem.W.mg_none_of X G z_sum, z_tuple := PySem.W.mg_none_of X G z_tuple, z_zip := PySem.W.mg_none_of X G z_zip, c_LEAST_COST := ⟨_, PySem.W.mg_of X G c_LEAST_COST⟩, c_MOVE := ⟨_, PySem.W.mg_of X G c_MOVE⟩ }
  exact ⟨_, PySem.W.fnOf "law" "law" (defArgs s_law) (defBody s_law) (defScope s_law) .none kV15 dc15 pm15 an15 cd15 ct15, ⟨f14, _, _, _, _, _, a14, l14, hcd, hth⟩, htn, fun s v => .of_eq rfl, fun base _ _ bm => ok_law (P := l.prog) (w := w) (base := base) T bm⟩
theorem walk {l : PySem.W.OpenLaw} {q : Program} {loose : List Str} {XP : (Str → Option Value) → Heap → Prop} {YP : World → Heap → Prop} {d : DefRec} {K : Params → PySem.W.Frag} (hn : l.most = some 63) (hdf : d.params.defaults = [])
    (hY : ∀ (w : World) (h : Heap), YP w h → (K w.params).In h)
    (hrec : ((recsOf q).any fun e => e.name == "_law_right") = true) (F : ∀ (w : World) (mg : Str → Option Value) (fa : Addr) (h : Heap), (K w.params).In h → h.Ns mainGlobals mg → mg d.name = some (.ref fa) →
      ∃ (T0 : Addr) (fd : FuncData), TabAt (K w.params) "_law_right" T0 ∧ (K w.params).lookup T0 = none ∧ (∀ (s : Shared) (u : Value), BindsTo s fd ⟨[u], []⟩ [("_law_script", u)]) ∧ ∀ base : Heap, (K w.params).In base → base.Ns mainGlobals mg → BM base mg → FnG l.prog w (K w.params) mg base CX0 8 fa fd ["_law_script"] (LSp (K w.params) sp_law)) :
    PySem.W.WalkO q loose XP YP l.row.toRowW d [] (fun f vs => PySem.call f vs) :=
  walkGT (n := 63) (k := 8) (x := "_law_script") (x0 := "_law_right") (CX := CX0) (sp := fun K => LSp K sp_law) hn (by decide) hdf ⟨rfl, by decide, by decide⟩ hY hrec F (fun K H a T ns hl hA hT hS => law_startT (q := "_law_right.<locals>.<lambda>") hA hT hS (law_takes hl)) fun _ _ _ _ z => z
end LK
open PySem PySem.W PyProof.Rows
set_option maxRecDepth 100000 in
set_option maxHeartbeats 0 in
theorem PySem.Challenge.cw_keyedmoves_k46_batches_holds : PySem.Challenge.rw_keyedmoves_k46_batches.Holds := by
  w_on; o_law; k_head; (case hw => w_witness2)
  k_fill
  refine LK.walk (l := PySem.Challenge.rw_keyedmoves_k46_batches) rfl rfl (fun w h Y => PySem.W.km_in_of Y) ?hrec ?F
  case hrec => kernel_rfl
  case F =>
    intro w mg fa h KX G hmg
    refine' LK.all_mk KX G hmg  ?a0 ?l0 ?c0 ?k0 ?a1 ?l1 ?c1 ?k1 ?a2 ?l2 ?c2 ?k2 ?a3 ?l3 ?c3 ?k3 ?a4 ?l4 ?c4 ?k4 ?a5 ?l5 ?c5 ?k5 ?a6 ?l6 ?c6 ?k6 ?a7 ?l7 ?c7 ?k7 ?a8 ?l8 ?c8 ?k8 ?a9 ?l9 ?c9 ?k9 ?a10 ?l10 ?c10 ?k10 ?a11 ?l11 ?c11 ?k11 ?a12 ?l12 ?c12 ?k12 ?a13 ?l13 ?c13 ?k13 ?a14 ?l14 ?c14 ?k14 ?a15 ?l15 ?c15 ?k15 ?xa0 ?xl0 ?xv0 ?xf0 ?xe0 ?xa1 ?xl1 ?xv1 ?xf1 ?xi1 ?xL1 ?xc1 ?xk1 ?xt1 ?xn1 ?xa2 ?xl2 ?xv2 ?xf2 ?xi2 ?xL2 ?xc2 ?xk2 ?xt2 ?xn2 ?xa3 ?xl3 ?xv3 ?xf3 ?xi3 ?xL3 ?xc3 ?xk3 ?xt3 ?xn3 ?xa4 ?xl4 ?xv4 ?xf4 ?xi4 ?xL4 ?xc4 ?xk4 ?xt4 ?xn4 ?xa5 ?xl5 ?xv5 ?xf5 ?xi5 ?xL5 ?xc5 ?xk5 ?xt5 ?xn5 ?ba ?bsp ?brd ?bat ?bis ?bty ?bsub ?kq_Conflict ?kq_DifferentRoots ?kq_KeyedError ?kq_NoNumber ?kq_NotKept ?kq_NotPatch ?kq_TooDear  ?c_LEAST_COST ?c_MOVE ?z_ValueError ?z_abs ?z_all ?z_dict ?z_int ?z_isinstance ?z_len ?z_list ?z_max ?z_min ?z_range ?z_repr ?z_sorted ?z_sum ?z_tuple ?z_zip ?hcd ?hth ?htn
    (case a0 => k_is); (case l0 => k_is); (case c0 => k_is); (case k0 => k_is)
    (case a1 => k_is); (case l1 => k_is); (case c1 => k_is); (case k1 => k_is)
    (case a2 => k_is); (case l2 => k_is); (case c2 => k_is); (case k2 => k_is)
    (case a3 => k_is); (case l3 => k_is); (case c3 => k_is); (case k3 => k_is)
    (case a4 => k_is); (case l4 => k_is); (case c4 => k_is); (case k4 => k_is)
    (case a5 => k_is); (case l5 => k_is); (case c5 => k_is); (case k5 => k_is)
    (case a6 => k_is); (case l6 => k_is); (case c6 => k_is); (case k6 => k_is)
    (case a7 => k_is); (case l7 => k_is); (case c7 => k_is); (case k7 => k_is)
    (case a8 => k_is); (case l8 => k_is); (case c8 => k_is); (case k8 => k_is)
    (case a9 => k_is); (case l9 => k_is); (case c9 => k_is); (case k9 => k_is)
    (case a10 => k_is); (case l10 => k_is); (case c10 => k_is); (case k10 => k_is)
    (case a11 => k_is); (case l11 => k_is); (case c11 => k_is); (case k11 => k_is)
    (case a12 => k_is); (case l12 => k_is); (case c12 => k_is); (case k12 => k_is)
    (case a13 => k_is); (case l13 => k_is); (case c13 => k_is); (case k13 => k_is)
    (case a14 => k_is); (case l14 => k_is); (case c14 => k_is); (case k14 => k_is)
    (case a15 => k_is); (case l15 => k_is); (case c15 => k_is); (case k15 => k_is)
    (case xa0 => k_is); (case xl0 => k_is); (case xv0 => rfl); (case xf0 => refine' DS.XF.mk ?_ ?_ ?_ ?_ ?_ ?_ ?_ ?_ ?_ ?_ ?_ <;> k_is)
    (case xe0 => kernel_rfl)
    (case xa1 => k_is); (case xl1 => k_is); (case xv1 => rfl); (case xf1 => refine' DS.XF.mk ?_ ?_ ?_ ?_ ?_ ?_ ?_ ?_ ?_ ?_ ?_ <;> k_is)
    (case xi1 => k_is); (case xL1 => k_is); (case xc1 => k_is); (case xk1 => k_is); (case xt1 => k_is); (case xn1 => k_is)
    (case xa2 => k_is); (case xl2 => k_is); (case xv2 => rfl); (case xf2 => refine' DS.XF.mk ?_ ?_ ?_ ?_ ?_ ?_ ?_ ?_ ?_ ?_ ?_ <;> k_is)
    (case xi2 => k_is); (case xL2 => k_is); (case xc2 => k_is); (case xk2 => k_is); (case xt2 => k_is); (case xn2 => k_is)
    (case xa3 => k_is); (case xl3 => k_is); (case xv3 => rfl); (case xf3 => refine' DS.XF.mk ?_ ?_ ?_ ?_ ?_ ?_ ?_ ?_ ?_ ?_ ?_ <;> k_is)
    (case xi3 => k_is); (case xL3 => k_is); (case xc3 => k_is); (case xk3 => k_is); (case xt3 => k_is); (case xn3 => k_is)
    (case xa4 => k_is); (case xl4 => k_is); (case xv4 => rfl); (case xf4 => refine' DS.XF.mk ?_ ?_ ?_ ?_ ?_ ?_ ?_ ?_ ?_ ?_ ?_ <;> k_is)
    (case xi4 => k_is); (case xL4 => k_is); (case xc4 => k_is); (case xk4 => k_is); (case xt4 => k_is); (case xn4 => k_is)
    (case xa5 => k_is); (case xl5 => k_is); (case xv5 => rfl); (case xf5 => refine' DS.XF.mk ?_ ?_ ?_ ?_ ?_ ?_ ?_ ?_ ?_ ?_ ?_ <;> k_is)
    (case xi5 => k_is); (case xL5 => k_is); (case xc5 => k_is); (case xk5 => k_is); (case xt5 => k_is); (case xn5 => k_is)
    (case ba => k_is); (case bsp => k_is); (case brd => k_is); (case bat => k_is); (case bis => k_is); (case bty => k_is); (case bsub => k_is)
    (case kq_Conflict => kernel_rfl); (case kq_DifferentRoots => kernel_rfl); (case kq_KeyedError => kernel_rfl); (case kq_NoNumber => kernel_rfl); (case kq_NotKept => kernel_rfl); (case kq_NotPatch => kernel_rfl); (case kq_TooDear => kernel_rfl)
    (case c_LEAST_COST => k_is); (case c_MOVE => k_is)
    (case z_ValueError => k_is); (case z_abs => k_is); (case z_all => k_is); (case z_dict => k_is); (case z_int => k_is); (case z_isinstance => k_is); (case z_len => k_is); (case z_list => k_is); (case z_max => k_is); (case z_min => k_is); (case z_range => k_is); (case z_repr => k_is); (case z_sorted => k_is); (case z_sum => k_is); (case z_tuple => k_is); (case z_zip => k_is)
    (case hcd => kernel_rfl); (case hth => kernel_rfl); (case htn => kernel_rfl)
