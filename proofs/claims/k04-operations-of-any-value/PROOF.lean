import PyProof.Rows.All
import Wide.All
import OpenK.AllK
import Wide.FinOn
import HandS.ForMost
import HandS.Flow
import HandS.Style
import HandS.Conv
import HandS.Exc
import KE.KExcIs
import KE.KNestM
import HandS.Lambda
import HandS.Zip
import HandS.TupAny
import HandS.Wide
import HandS.TryOnly
import HandS.WordsExc
import HandS.ExcInit
import PyProof.ReprReads
import PyProof.ReprRoads
import PyProof.Rows.RuleB_pow
import PyProof.StrOps2
import HandS.IsInst
import HandS.SortInts
import PyProof.AutoSeq1
import KE.KRevSl
import HandS.More
import HandS.Text
import HandS.Codes
import HandS.SetFor
import HandS.Strs
import HandS.Set
import PyProof.Rows.SetFrom
import PyProof.Rows.IntBool
import PyProof.Rows.StrStep
import PyProof.NeKinds
import HandS.ExcValue
import PyProof.Rows.SortShellAny
import PyProof.Rows.StrMeet
import HandS.TupMul
import PyProof.Rows.StrInSeq3
import HandS.ListItems
import HandS.DictComp
import HandS.SortKw
import HandS.WordsDict
import KE.DataMinMax
import KE.GoesEnum
import PyProof.DictUpdate
import KE.KDictList
import KE.KDictPairs
import PyProof.SeqIndex
import HandS.SortOrd
import PyProof.Rows.SortKeyStr
import HandS.TupLe
import HandS.Deep
import PyProof.Rows.SeqMore
import KE.SortKeyHeap
import HandS.Iter
import HandS.EndBits
import HandS.Defaults
import KE.GoesMore
import HandS.Call
import HandS.WideBits
import PyProof.SumWalkG
import PyProof.Rows.ReprOcc
import PySem.Challenge.RW_keyedmoves_k04_operations_of_any_value
set_option Elab.async false
set_option linter.all false
set_option autoImplicit false
set_option maxRecDepth 100000
set_option maxHeartbeats 4000000
namespace DS
open PySem PySem.Spec PyProof.Rows L2

/-- data without addresses; ref: an address of its own standing (something that changes, a def, a class) -/
inductive SD where
  | non | bl (b : Bool) | int (i : Int) | str (x : Str) | ref (a : Addr) | ty (n : String)
  | tup (xs : List SD) | lst (xs : List SD) | dic (kvs : List (Key × SD))
  /-- a list that is read only (the script) -/
  | rol (xs : List SD)
  /-- an error of the own class named x, with its fields; it changes no more -/
  | exc (x : Str) (fs : List (Str × SD))
  /-- a tuple of which it is known that it has no dict of its own -/
  | ptp (xs : List SD)

/-- at a: an error of the class at C, its dict -/
def exq (a C : Addr) (d : Option Addr) : HO := .ext fun h => ∃ (oe : Obj) (vs : Array Value), h.get? a = some oe ∧ Zc (.ref C) d oe ∧ oe.data = .fields vs
/-- what the written part says of the class named x, and of the names fs as fields of its instances -/
structure XcK (K : PySem.W.Frag) (x : Str) (C : Addr) (fs : List Str) : Prop where
  at_ : PySem.W.nsIn K mainGlobals x = some (some (.ref C))
  ga : PySem.W.findIn K (.ref C) "__getattribute__" = some (some (.builtin "BaseException.__getattribute__"))
  gg : PySem.W.findIn K (.ref C) "__getattr__" = some none
  sub : PySem.W.subIn K (.ref C) (.type "BaseException") = some true
  hd : PySem.W.hasDictIn K C = true
  cl : PySem.W.findIn K (.ref C) "__class__" = some (some (.builtin "object.__class__"))
  sp : PySem.W.specialIn K (.builtin "object.__class__") "__get__" = some (some (.builtin "getset_descriptor.__get__"))
  tk : PySem.W.takesIn K (.builtin "object.__class__") = some true
  mro : PySem.W.mroIn K C (.type "object") = some true
  no : ∀ f ∈ fs, PySem.W.findIn K (.ref C) f = some none
/-- what tells of a thing that stays as it is -/
def still : HO → Bool
  | .ext _ => true
  | .xd _ => true
  | _ => false

mutual
/-- the value v is the datum, by what F knows -/
inductive RepS (K : PySem.W.Frag) (F : Hp) : SD → V → Prop
  | non : RepS K F .non .non
  | bl (b : Bool) : RepS K F (.bl b) (.bl b)
  | int (i : Int) : RepS K F (.int i) (.int i)
  | str (x : Str) : RepS K F (.str x) (.str x)
  | ref (a : Addr) : RepS K F (.ref a) (.ref a)
  | ty (n : String) : RepS K F (.ty n) (.ty n)
  | tup {a : Addr} {ds : List SD} {vs : List V} : SqT K F a vs → RepL K F ds vs → RepS K F (.tup ds) (.ref a)
  | lst {a : Addr} {ds : List SD} {vs : List V} : F a = some (.lst vs) → RepL K F ds vs → RepS K F (.lst ds) (.ref a)
  | rol {a : Addr} {ds : List SD} {vs : List V} : SqL K F a vs → RepL K F ds vs → RepS K F (.rol ds) (.ref a)
  | dic {a : Addr} {ds : List (Key × SD)} {vs : List (Key × V)} : Rd F a (.dK vs) → vs.map (·.1) = ds.map (·.1) → RepL K F (ds.map (·.2)) (vs.map (·.2)) → RepS K F (.dic ds) (.ref a)
  | exc0 {a C : Addr} {x : Str} : XcK K x C [] → F a = some (exq a C none) → RepS K F (.exc x []) (.ref a)
  | exc {a C dx : Addr} {x : Str} {ds : List (Str × SD)} {vs : List (Str × V)} : XcK K x C (ds.map (·.1)) → F a = some (exq a C (some dx)) → F dx = some (.xd vs) → vs.map (·.1) = ds.map (·.1) → RepL K F (ds.map (·.2)) (vs.map (·.2)) → RepS K F (.exc x ds) (.ref a)
  | ptp {a : Addr} {o : Obj} {ds : List SD} {vs : List V} : F a = some (.frz o (.tup vs)) → o.dict = none → RepL K F ds vs → RepS K F (.ptp ds) (.ref a)
inductive RepL (K : PySem.W.Frag) (F : Hp) : List SD → List V → Prop
  | nil : RepL K F [] []
  | cons {d : SD} {v : V} {ds : List SD} {vs : List V} : RepS K F d v → RepL K F ds vs → RepL K F (d :: ds) (v :: vs)
end

/-- F' reads whatever F reads -/
structure Ext (F F' : Hp) : Prop where
  rd : ∀ a u, Rd F a u → Rd F' a u
  ls : ∀ a vs, F a = some (.lst vs) → F' a = some (.lst vs)
  fz : ∀ a o u, F a = some (.frz o u) → F' a = some (.frz o u)
  st : ∀ a o, still o = true → F a = some o → F' a = some o
theorem Ext.refl (F : Hp) : Ext F F := ⟨fun _ _ h => h, fun _ _ h => h, fun _ _ _ h => h, fun _ _ _ h => h⟩
theorem Ext.trans {F F1 F2 : Hp} (a : Ext F F1) (b : Ext F1 F2) : Ext F F2 := ⟨fun x u h => b.rd x u (a.rd x u h), fun x u h => b.ls x u (a.ls x u h), fun x o u h => b.fz x o u (a.fz x o u h), fun x o q h => b.st x o q (a.st x o q h)⟩
theorem Ext.sqL {K : PySem.W.Frag} {F F' : Hp} {a : Addr} {xs : List V} (e : Ext F F') (h : SqL K F a xs) : SqL K F' a xs := h.elim (fun r => .inl (e.rd a _ r)) .inr
theorem Ext.sqT {K : PySem.W.Frag} {F F' : Hp} {a : Addr} {xs : List V} (e : Ext F F') (h : SqT K F a xs) : SqT K F' a xs := h.elim (fun r => .inl (e.rd a _ r)) .inr
theorem Ext.of_sub {F F' : Hp} (h : ∀ a o, F a = some o → F' a = some o) : Ext F F' := ⟨fun a u r => r.elim (fun z => .inl (h a _ z)) fun ⟨o, z⟩ => .inr ⟨o, h a _ z⟩, fun a vs z => h a _ z, fun a o u z => h a _ z, fun a o _ z => h a _ z⟩
theorem Ext.new {F : Hp} {p : Addr} {o : HO} (h : F p = none) : Ext F (upd F p o) := Ext.of_sub fun a u e => by
  rw [upd_ne (ne_of_none e h)]; exact e

mutual
theorem RepS.mono {K : PySem.W.Frag} {F F' : Hp} (e : Ext F F') : ∀ {d : SD} {v : V}, RepS K F d v → RepS K F' d v
  | _, _, .non => .non
  | _, _, .bl b => .bl b
  | _, _, .int i => .int i
  | _, _, .str x => .str x
  | _, _, .ref a => .ref a
  | _, _, .ty n => .ty n
  | _, _, .tup h r => .tup (e.sqT h) (RepL.mono e r)
  | _, _, .lst h r => .lst (e.ls _ _ h) (RepL.mono e r)
  | _, _, .rol h r => .rol (e.sqL h) (RepL.mono e r)
  | _, _, .dic h q r => .dic (e.rd _ _ h) q (RepL.mono e r)
  | _, _, .exc0 h q => .exc0 h (e.st _ _ rfl q)
  | _, _, .exc h q p z r => .exc h (e.st _ _ rfl q) (e.st _ _ rfl p) z (RepL.mono e r)
  | _, _, .ptp h q r => .ptp (e.fz _ _ _ h) q (RepL.mono e r)
theorem RepL.mono {K : PySem.W.Frag} {F F' : Hp} (e : Ext F F') : ∀ {ds : List SD} {vs : List V}, RepL K F ds vs → RepL K F' ds vs
  | _, _, .nil => .nil
  | _, _, .cons h r => .cons (RepS.mono e h) (RepL.mono e r)
end

section
variable {K : PySem.W.Frag} {F : Hp}
theorem RepL.length : ∀ {ds : List SD} {vs : List V}, RepL K F ds vs → ds.length = vs.length
  | _, _, .nil => rfl
  | _, _, .cons _ r => congrArg (· + 1) (RepL.length r)
theorem RepL.get : ∀ {ds : List SD} {vs : List V} {i : Nat} {d : SD}, RepL K F ds vs → ds[i]? = some d → ∃ v, vs[i]? = some v ∧ RepS K F d v
  | _, _, _, _, .nil, e => by simp at e
  | _, _, 0, _, .cons h _, e => by simp at e; subst e; exact ⟨_, rfl, h⟩
  | _, _, i + 1, d, .cons _ r, e => by
    obtain ⟨v, h1, h2⟩ := RepL.get (i := i) (d := d) r (by simpa using e)
    exact ⟨v, by simpa using h1, h2⟩
theorem RepL.getV : ∀ {ds : List SD} {vs : List V} {i : Nat} {v : V}, RepL K F ds vs → vs[i]? = some v → ∃ d, ds[i]? = some d ∧ RepS K F d v
  | _, _, _, _, .nil, e => by simp at e
  | _, _, 0, _, .cons h _, e => by simp at e; subst e; exact ⟨_, rfl, h⟩
  | _, _, i + 1, v, .cons _ r, e => by
    obtain ⟨d, h1, h2⟩ := RepL.getV (i := i) (v := v) r (by simpa using e)
    exact ⟨d, by simpa using h1, h2⟩
theorem RepL.append : ∀ {ds es : List SD} {vs ws : List V}, RepL K F ds vs → RepL K F es ws → RepL K F (ds ++ es) (vs ++ ws)
  | _, _, _, _, .nil, s => s
  | _, _, _, _, .cons h r, s => .cons h (RepL.append r s)
theorem RepL.take : ∀ {ds : List SD} {vs : List V} (n : Nat), RepL K F ds vs → RepL K F (ds.take n) (vs.take n)
  | _, _, 0, _ => .nil
  | _, _, _ + 1, .nil => .nil
  | _, _, n + 1, .cons h r => .cons h (RepL.take n r)
theorem RepL.drop : ∀ {ds : List SD} {vs : List V} (n : Nat), RepL K F ds vs → RepL K F (ds.drop n) (vs.drop n)
  | _, _, 0, r => r
  | _, _, _ + 1, .nil => .nil
  | _, _, n + 1, .cons _ r => RepL.drop n r
theorem RepL.one {d : SD} {v : V} (h : RepS K F d v) : RepL K F [d] [v] := .cons h .nil
theorem RepL.reverse : ∀ {ds : List SD} {vs : List V}, RepL K F ds vs → RepL K F ds.reverse vs.reverse
  | _, _, .nil => .nil
  | _, _, .cons h r => by rw [List.reverse_cons, List.reverse_cons]; exact (RepL.reverse r).append (.one h)
theorem RepL.set {e : SD} {w : V} (h : RepS K F e w) : ∀ {ds : List SD} {vs : List V} (i : Nat), RepL K F ds vs → RepL K F (ds.set i e) (vs.set i w)
  | _, _, _, .nil => .nil
  | _, _, 0, .cons _ r => .cons h r
  | _, _, i + 1, .cons q r => .cons q (RepL.set h i r)
theorem RepL.dropLast {ds : List SD} {vs : List V} (h : RepL K F ds vs) : RepL K F ds.dropLast vs.dropLast := by
  rw [List.dropLast_eq_take, List.dropLast_eq_take, h.length]; exact h.take _
theorem RepL.eraseIdx : ∀ {ds : List SD} {vs : List V} (i : Nat), RepL K F ds vs → RepL K F (ds.eraseIdx i) (vs.eraseIdx i)
  | _, _, _, .nil => .nil
  | _, _, 0, .cons _ r => r
  | _, _, i + 1, .cons q r => .cons q (RepL.eraseIdx i r)
theorem RepL.cut {ds : List SD} {vs : List V} (h : RepL K F ds vs) (i : Nat) : RepL K F (ds.take i ++ ds.drop i) (vs.take i ++ vs.drop i) := (h.take i).append (h.drop i)
theorem RepL.nil_iff {ds : List SD} {vs : List V} (h : RepL K F ds vs) : ds = [] ↔ vs = [] := by
  cases h <;> simp
theorem RepL.ofInts : ∀ (ns : List Int), RepL K F (ns.map SD.int) (ns.map V.int)
  | [] => .nil
  | n :: r => .cons (.int n) (RepL.ofInts r)
theorem RepL.strs : ∀ {ns : List Str} {vs : List V}, RepL K F (ns.map SD.str) vs → vs = ns.map V.str
  | [], _, .nil => rfl
  | _ :: _, _, .cons (.str _) r => by rw [RepL.strs r]; rfl
theorem RepL.ofStrs : ∀ (ns : List Str), RepL K F (ns.map SD.str) (ns.map V.str)
  | [] => .nil
  | n :: r => .cons (.str n) (RepL.ofStrs r)
end

/-- what stands at an address and may change -/
inductive MO where
  | lst (xs : List SD)
  | dic (kvs : List (Key × SD))
  /-- an instance of the own class named x -/
  | obj (x : Str) (fs : List (Str × SD))
  /-- a dict that is walked through: it stands just so -/
  | fdic (kvs : List (Key × SD)) (o : HO)
  /-- the table of code objects at P of the def x: all that it tells bear the name q -/
  | tab (P : Addr) (x q : Str)
  /-- any thing, by what the heap tells of it -/
  | hob (o : HO)
abbrev Mu := Addr → Option MO
def up (μ : Mu) (a : Addr) (m : MO) : Mu := fun b => if b = a then some m else μ b
theorem up_same {μ : Mu} {a : Addr} {m : MO} : up μ a m a = some m := by unfold up; rw [if_pos rfl]
theorem up_ne {μ : Mu} {a b : Addr} {m : MO} (h : b ≠ a) : up μ a m b = μ b := by unfold up; rw [if_neg h]
theorem up_up {μ : Mu} {a : Addr} {m n : MO} : up (up μ a m) a n = up μ a n := by funext b; unfold up; split <;> rfl
theorem mu_ne {μ : Mu} {a b : Addr} {m : MO} (h : μ a = some m) (h' : μ b = none) : a ≠ b := by
  intro e; subst e; rw [h] at h'; cases h'
/-- what the written part says of the own class named x -/
structure OcK (K : PySem.W.Frag) (x : Str) (C : Addr) : Prop where
  at_ : PySem.W.nsIn K mainGlobals x = some (some (.ref C))
  c : Cls K C
/-- the table of the code object of the def named x stands at P -/
def TabAt (K : PySem.W.Frag) (x : Str) (P : Addr) : Prop := ∃ (f c : Addr) (oc : Value) (od : Option Addr) (fd : FuncData) (osl : Array (Option Value)), PySem.W.nsIn K mainGlobals x = some (some (.ref f)) ∧ K.lookup f = some ⟨oc, od, .func fd, osl⟩ ∧ fd.code = .ref c ∧ PySem.W.codeHdIn K c P = true
inductive RepO (K : PySem.W.Frag) (F : Hp) : MO → HO → Prop
  | lst {ds : List SD} {vs : List V} : RepL K F ds vs → RepO K F (.lst ds) (.lst vs)
  | dic {ds : List (Key × SD)} {vs : List (Key × V)} : vs.map (·.1) = ds.map (·.1) → RepL K F (ds.map (·.2)) (vs.map (·.2)) → RepO K F (.dic ds) (.dK vs)
  | obj {C dx : Addr} {x : Str} {ds : List (Str × SD)} {vs : List (Str × V)} : OcK K x C → vs.map (·.1) = ds.map (·.1) → RepL K F (ds.map (·.2)) (vs.map (·.2)) → RepO K F (.obj x ds) (.ins C dx vs)
  | fdic {ob : Obj} {ds : List (Key × SD)} {vs : List (Key × V)} : vs.map (·.1) = ds.map (·.1) → RepL K F (ds.map (·.2)) (vs.map (·.2)) → RepO K F (.fdic ds (.frz ob (.dK vs))) (.frz ob (.dK vs))
  | tab {P : Addr} {x q : Str} {ps : Array Value} : TabAt K x P → TriplesOk ps.toList → (∀ (pos : Pos) (cv : Value), codeAmong pos ps.toList = some cv → ∃ c, cv = .ref c ∧ F c = some (LamX.CodeO c q)) → RepO K F (.tab P x q) (.tbl ps)
  | hob {o : HO} : RepO K F (.hob o) o
theorem RepO.mono {K : PySem.W.Frag} {F F' : Hp} (e : Ext F F') {m : MO} {o : HO} (h : RepO K F m o) : RepO K F' m o := by
  cases h with
  | lst r => exact .lst (r.mono e)
  | dic q r => exact .dic q (r.mono e)
  | obj c q r => exact .obj c q (r.mono e)
  | fdic q r => exact .fdic q (r.mono e)
  | tab a t k => exact .tab a t fun pos cv hc => (k pos cv hc).elim fun c z => ⟨c, z.1, e.st _ _ rfl z.2⟩
  | hob => exact .hob

/-- the heap H is F (known, unchanging) and μ (what changes), and more -/
structure HReal (K : PySem.W.Frag) (F H : Hp) (μ : Mu) : Prop where
  sub : ∀ a o, F a = some o → H a = some o
  mus : ∀ a m, μ a = some m → F a = none ∧ ∃ o, H a = some o ∧ RepO K F m o
/-- what is neither F's nor μ's stays so -/
structure Stp (F H : Hp) (μ : Mu) (F' H' : Hp) (μ' : Mu) : Prop where
  ext : Ext F F'
  fr : ∀ a, H a ≠ none → F a = none → μ a = none → H' a = H a ∧ F' a = none ∧ μ' a = none
theorem Stp.refl (F H : Hp) (μ : Mu) : Stp F H μ F H μ := ⟨Ext.refl F, fun _ _ b c => ⟨rfl, b, c⟩⟩
theorem Stp.trans {F H F1 H1 F2 H2 : Hp} {μ μ1 μ2 : Mu} (a : Stp F H μ F1 H1 μ1) (b : Stp F1 H1 μ1 F2 H2 μ2) : Stp F H μ F2 H2 μ2 :=
  ⟨a.ext.trans b.ext, fun x h1 h2 h3 => by
    obtain ⟨p, q, r⟩ := a.fr x h1 h2 h3
    obtain ⟨p', q', r'⟩ := b.fr x (by rw [p]; exact h1) q r
    exact ⟨p'.trans p, q', r'⟩⟩
section
variable {K : PySem.W.Frag} {F H : Hp} {μ : Mu} {p a : Addr}
theorem HReal.freeF (R : HReal K F H μ) (h : H p = none) : F p = none := by
  cases e : F p with
  | none => rfl
  | some o => rw [R.sub p o e] at h; cases h
theorem HReal.freeM (R : HReal K F H μ) (h : H p = none) : μ p = none := by
  cases e : μ p with
  | none => rfl
  | some m =>
    obtain ⟨_, o, z, _⟩ := R.mus p m e
    rw [z] at h; cases h
theorem HReal.ext (R : HReal K F H μ) : Ext F H := Ext.of_sub R.sub
/-- a new object that will not change -/
theorem HReal.newS (R : HReal K F H μ) {o : HO} (h : H p = none) : HReal K (upd F p o) (upd H p o) μ := by
  have hF := R.freeF h
  refine ⟨fun b u e => ?_, fun b m e => ?_⟩
  · by_cases hb : b = p
    · subst hb; rw [upd_same] at e ⊢; exact e
    · rw [upd_ne hb] at e ⊢; exact R.sub b u e
  · obtain ⟨z, u, q, r⟩ := R.mus b m e
    have hb : b ≠ p := ne_of_none q h
    exact ⟨by rw [upd_ne hb]; exact z, u, by rw [upd_ne hb]; exact q, r.mono (Ext.new hF)⟩
theorem Stp.newS (R : HReal K F H μ) {o : HO} (h : H p = none) : Stp F H μ (upd F p o) (upd H p o) μ :=
  ⟨Ext.new (R.freeF h), fun b h1 h2 h3 => by
    have hb : b ≠ p := fun z => by subst z; exact h1 h
    exact ⟨upd_ne hb, by rw [upd_ne hb]; exact h2, h3⟩⟩
/-- a new object that may change -/
theorem HReal.newM (R : HReal K F H μ) {o : HO} {m : MO} (h : H p = none) (r : RepO K F m o) : HReal K F (upd H p o) (up μ p m) := by
  have hF := R.freeF h
  refine ⟨fun b u e => ?_, fun b n e => ?_⟩
  · rw [upd_ne (ne_of_none e hF)]; exact R.sub b u e
  · by_cases hb : b = p
    · subst hb; rw [up_same] at e; cases e; exact ⟨hF, o, upd_same, r⟩
    · rw [up_ne hb] at e
      obtain ⟨z, u, q, r'⟩ := R.mus b n e
      exact ⟨z, u, by rw [upd_ne hb]; exact q, r'⟩
theorem Stp.newM (R : HReal K F H μ) {o : HO} {m : MO} (h : H p = none) : Stp F H μ F (upd H p o) (up μ p m) :=
  ⟨Ext.refl F, fun b h1 h2 h3 => by
    have hb : b ≠ p := fun z => by subst z; exact h1 h
    exact ⟨upd_ne hb, h2, by rw [up_ne hb]; exact h3⟩⟩
/-- an object is changed -/
theorem HReal.put (R : HReal K F H μ) {o : HO} {m n : MO} (h : μ a = some n) (r : RepO K F m o) : HReal K F (upd H a o) (up μ a m) := by
  have hF := (R.mus a n h).1
  refine ⟨fun b u e => ?_, fun b k e => ?_⟩
  · rw [upd_ne (ne_of_none e hF)]; exact R.sub b u e
  · by_cases hb : b = a
    · subst hb; rw [up_same] at e; cases e; exact ⟨hF, o, upd_same, r⟩
    · rw [up_ne hb] at e
      obtain ⟨z, u, q, r'⟩ := R.mus b k e
      exact ⟨z, u, by rw [upd_ne hb]; exact q, r'⟩
theorem Stp.put {o : HO} {m n : MO} (h : μ a = some n) : Stp F H μ F (upd H a o) (up μ a m) :=
  ⟨Ext.refl F, fun b h1 h2 h3 => by
    have hb : b ≠ a := fun z => by subst z; rw [h] at h3; cases h3
    exact ⟨upd_ne hb, h2, by rw [up_ne hb]; exact h3⟩⟩
/-- forgetting -/
def rm (μ : Mu) (a : Addr) : Mu := fun b => if b = a then none else μ b
theorem rm_same : rm μ a a = none := by unfold rm; rw [if_pos rfl]
theorem rm_ne {b : Addr} (h : b ≠ a) : rm μ a b = μ b := by unfold rm; rw [if_neg h]
/-- a list that changes no more -/
theorem HReal.freeze (R : HReal K F H μ) {xs : List SD} (h : μ a = some (.lst xs)) : ∃ vs, H a = some (.lst vs) ∧ RepL K F xs vs ∧ HReal K (upd F a (.lst vs)) H (rm μ a) ∧ Stp F H μ (upd F a (.lst vs)) H (rm μ a) ∧ RepS K (upd F a (.lst vs)) (.lst xs) (.ref a) := by
  obtain ⟨hF, o, hH, r⟩ := R.mus a _ h
  cases r with
  | lst r =>
    rename_i vs
    have ex : Ext F (upd F a (.lst vs)) := Ext.new hF
    refine ⟨vs, hH, r, ⟨fun b u e => ?_, fun b m e => ?_⟩, ⟨ex, fun b h1 h2 h3 => ?_⟩, .lst upd_same (r.mono ex)⟩
    · by_cases hb : b = a
      · subst hb; rw [upd_same] at e; cases e; exact hH
      · rw [upd_ne hb] at e; exact R.sub b u e
    · by_cases hb : b = a
      · subst hb; rw [rm_same] at e; cases e
      · rw [rm_ne hb] at e
        obtain ⟨z, u, q, r'⟩ := R.mus b m e
        exact ⟨by rw [upd_ne hb]; exact z, u, q, r'.mono ex⟩
    · have hb : b ≠ a := fun z => by subst z; rw [h] at h3; cases h3
      exact ⟨rfl, by rw [upd_ne hb]; exact h2, by rw [rm_ne hb]; exact h3⟩
theorem HReal.freezeD (R : HReal K F H μ) {xs : List (Key × SD)} (h : μ a = some (.dic xs)) : ∃ vs, H a = some (.dK vs) ∧ HReal K (upd F a (.dK vs)) H (rm μ a) ∧ Stp F H μ (upd F a (.dK vs)) H (rm μ a) ∧ RepS K (upd F a (.dK vs)) (.dic xs) (.ref a) := by
  obtain ⟨hF, o, hH, r⟩ := R.mus a _ h
  cases r with
  | dic q r =>
    rename_i vs
    have ex : Ext F (upd F a (.dK vs)) := Ext.new hF
    refine ⟨vs, hH, ⟨fun b u e => ?_, fun b m e => ?_⟩, ⟨ex, fun b h1 h2 h3 => ?_⟩, .dic (.inl upd_same) q (r.mono ex)⟩
    · by_cases hb : b = a
      · subst hb; rw [upd_same] at e; cases e; exact hH
      · rw [upd_ne hb] at e; exact R.sub b u e
    · by_cases hb : b = a
      · subst hb; rw [rm_same] at e; cases e
      · rw [rm_ne hb] at e
        obtain ⟨z, u, q, r'⟩ := R.mus b m e
        exact ⟨by rw [upd_ne hb]; exact z, u, q, r'.mono ex⟩
    · have hb : b ≠ a := fun z => by subst z; rw [h] at h3; cases h3
      exact ⟨rfl, by rw [upd_ne hb]; exact h2, by rw [rm_ne hb]; exact h3⟩
end

abbrev Rho := List (Option SD)
/-- the slots: where ρ knows a datum, σ has it -/
structure Slots (K : PySem.W.Frag) (F : Hp) (σ : L2.St) (ρ : Rho) : Prop where
  len : σ.length = ρ.length
  at_ : ∀ (i : Nat) (d : SD), ρ[i]? = some (some d) → ∃ v, σ[i]? = some (some v) ∧ RepS K F d v
section
variable {K : PySem.W.Frag} {F F' : Hp} {σ : L2.St} {ρ : Rho}
theorem Slots.mono (e : Ext F F') (h : Slots K F σ ρ) : Slots K F' σ ρ := ⟨h.len, fun i d q => let ⟨v, a, b⟩ := h.at_ i d q; ⟨v, a, b.mono e⟩⟩
theorem Slots.set {d : SD} {v : V} (h : Slots K F σ ρ) (i : Nat) (r : RepS K F d v) : Slots K F (σ.set i (some v)) (ρ.set i (some d)) := by
  refine ⟨by simp [h.len], fun j e q => ?_⟩
  by_cases hj : j = i
  · subst hj
    by_cases hl : j < ρ.length
    · rw [List.getElem?_set_self hl] at q
      cases q
      exact ⟨v, List.getElem?_set_self (by rw [h.len]; exact hl), r⟩
    · rw [List.getElem?_eq_none (by simpa using Nat.le_of_not_lt hl)] at q; cases q
  · rw [List.getElem?_set_ne (Ne.symm hj)] at q ⊢
    exact h.at_ j e q
end

abbrev DTE := Rho → Mu → (SD → Mu → Prop) → Prop
abbrev DTT := Rho → Mu → (Bool → Mu → Prop) → Prop
abbrev DTA := Rho → Mu → (List SD → Mu → Prop) → Prop
/-- what an exception's reading may speak of: the class, its attributes -/
abbrev DXK := Addr → List (Str × SD) → Mu → Prop
structure DEnds where
  nx : Rho → Mu → Prop
  rt : SD → Mu → Prop
  bk : Rho → Mu → Prop := fun _ _ => False
  ct : Rho → Mu → Prop := fun _ _ => False
abbrev DTS := DEnds → Rho → Mu → Prop
abbrev DTG := SD → Rho → Mu → (Rho → Mu → Prop) → Prop
abbrev DTGs := List SD → Rho → Mu → (Rho → Mu → Prop) → Prop

/-- the state is (F, H, μ) with the slots; behind it Q' is to hold of the datum -/
def LE (K : PySem.W.Frag) (t : DTE) : TE := fun σ H Q => ∃ F ρ μ Q', HReal K F H μ ∧ Slots K F σ ρ ∧ t ρ μ Q' ∧
  ∀ d μ', Q' d μ' → ∀ F' H' v, Stp F H μ F' H' μ' → HReal K F' H' μ' → RepS K F' d v → Q v H'
def LT (K : PySem.W.Frag) (t : DTT) : TT := fun σ H Q => ∃ F ρ μ Q', HReal K F H μ ∧ Slots K F σ ρ ∧ t ρ μ Q' ∧
  ∀ b μ', Q' b μ' → ∀ F' H', Stp F H μ F' H' μ' → HReal K F' H' μ' → Q b H'
def LA (K : PySem.W.Frag) (t : DTA) : TA := fun σ H Q => ∃ F ρ μ Q', HReal K F H μ ∧ Slots K F σ ρ ∧ t ρ μ Q' ∧
  ∀ ds μ', Q' ds μ' → ∀ F' H' vs, Stp F H μ F' H' μ' → HReal K F' H' μ' → RepL K F' ds vs → Q vs H'
def LG (K : PySem.W.Frag) (t : DTG) : TG := fun v σ H Q => ∃ F ρ μ d Q', HReal K F H μ ∧ Slots K F σ ρ ∧ RepS K F d v ∧ t d ρ μ Q' ∧
  ∀ ρ' μ', Q' ρ' μ' → ∀ F' H' σ', Stp F H μ F' H' μ' → HReal K F' H' μ' → Slots K F' σ' ρ' → Q σ' H'
def LGs (K : PySem.W.Frag) (t : DTGs) : TGs := fun vs σ H Q => ∃ F ρ μ ds Q', HReal K F H μ ∧ Slots K F σ ρ ∧ RepL K F ds vs ∧ t ds ρ μ Q' ∧
  ∀ ρ' μ', Q' ρ' μ' → ∀ F' H' σ', Stp F H μ F' H' μ' → HReal K F' H' μ' → Slots K F' σ' ρ' → Q σ' H'
def LS (K : PySem.W.Frag) (t : DTS) : TS := fun D σ H => ∃ F ρ μ D', HReal K F H μ ∧ Slots K F σ ρ ∧ t D' ρ μ ∧
  (∀ ρ' μ', D'.nx ρ' μ' → ∀ F' H' σ', Stp F H μ F' H' μ' → HReal K F' H' μ' → Slots K F' σ' ρ' → D.nx σ' H') ∧
  (∀ d μ', D'.rt d μ' → ∀ F' H' v, Stp F H μ F' H' μ' → HReal K F' H' μ' → RepS K F' d v → D.rt v H') ∧
  (∀ ρ' μ', D'.bk ρ' μ' → ∀ F' H' σ', Stp F H μ F' H' μ' → HReal K F' H' μ' → Slots K F' σ' ρ' → D.bk σ' H') ∧
  (∀ ρ' μ', D'.ct ρ' μ' → ∀ F' H' σ', Stp F H μ F' H' μ' → HReal K F' H' μ' → Slots K F' σ' ρ' → D.ct σ' H')

abbrev DE (X : Cx) (e : Expr) (t : DTE) : Prop := PE X e (LE X.K t)
abbrev DT (X : Cx) (e : Expr) (t : DTT) : Prop := PT X e (LT X.K t)
abbrev DW (X : Cx) (e : Expr) (t : DTT) : Prop := PW X e (LT X.K t)
abbrev DA (X : Cx) (es : List Expr) (t : DTA) : Prop := PA X es (LA X.K t)
abbrev DG (X : Cx) (e : Expr) (t : DTG) : Prop := PG X e (LG X.K t)
abbrev DGs (X : Cx) (es : List Expr) (t : DTGs) : Prop := PGs X es (LGs X.K t)
abbrev DS_ (X : Cx) (s : Stmt) (t : DTS) : Prop := PS X s (LS X.K t)
abbrev DSs (X : Cx) (s : List Stmt) (t : DTS) : Prop := PSs X s (LS X.K t)

theorem weakE {X : Cx} {e : Expr} {t t' : TE} (h : PE X e t) (w : ∀ σ H Q, t' σ H Q → t σ H Q) : PE X e t' := ⟨fun pins s σ H Q I q => h.run pins s σ H Q I (w σ H Q q)⟩
theorem weakT {X : Cx} {e : Expr} {t t' : TT} (h : PT X e t) (w : ∀ σ H Q, t' σ H Q → t σ H Q) : PT X e t' := ⟨fun pins s σ H Q I q => h.run pins s σ H Q I (w σ H Q q)⟩
theorem weakW {X : Cx} {e : Expr} {t t' : TT} (h : PW X e t) (w : ∀ σ H Q, t' σ H Q → t σ H Q) : PW X e t' := ⟨fun wh pins s σ H Q I q => h.run wh pins s σ H Q I (w σ H Q q)⟩
theorem weakA {X : Cx} {e : List Expr} {t t' : TA} (h : PA X e t) (w : ∀ σ H Q, t' σ H Q → t σ H Q) : PA X e t' := ⟨fun ps pins s σ H Q I q => h.run ps pins s σ H Q I (w σ H Q q)⟩
theorem weakS {X : Cx} {e : Stmt} {t t' : TS} (h : PS X e t) (w : ∀ D σ H, t' D σ H → t D σ H) : PS X e t' := ⟨fun pins s σ H D I q => h.run pins s σ H D I (w D σ H q)⟩
theorem weakSs {X : Cx} {e : List Stmt} {t t' : TS} (h : PSs X e t) (w : ∀ D σ H, t' D σ H → t D σ H) : PSs X e t' := ⟨fun pins s σ H D I q => h.run pins s σ H D I (w D σ H q)⟩
theorem weakG {X : Cx} {e : Expr} {t t' : TG} (h : PG X e t) (w : ∀ v σ H Q, t' v σ H Q → t v σ H Q) : PG X e t' := ⟨fun pins s σ H v u Q I r q => h.run pins s σ H v u Q I r (w v σ H Q q)⟩
theorem weakGs {X : Cx} {e : List Expr} {t t' : TGs} (h : PGs X e t) (w : ∀ v σ H Q, t' v σ H Q → t v σ H Q) : PGs X e t' := ⟨fun pins s σ H v u Q I r q => h.run pins s σ H v u Q I r (w v σ H Q q)⟩

section
variable {X : Cx} {pos p : Pos} {a b c e o : Expr} {es : List Expr} {x : Str}
def dVar (i : Nat) : DTE := fun ρ μ Q => match ρ[i]? with
  | some (some d) => Q d μ
  | _ => False
theorem de_var {i : Nat} (hN : X.N[i]? = some x) (hv : Vis X.env.scope x) (hd : (x == ("__debug__" : Str)) = false := by decide) (hcd : (x == ("__classdict__" : Str)) = false := by decide) : DE X (.Name x pos) (dVar i) :=
  weakE (pe_var hN hv hd hcd) fun σ H Q h => by
    obtain ⟨F, ρ, μ, Q', R, S, t, k⟩ := h
    unfold dVar at t
    split at t
    · rename_i d e
      obtain ⟨v, h1, h2⟩ := S.at_ _ _ e
      exact ⟨v, h1, k d μ t F H v (Stp.refl F H μ) R h2⟩
    · exact t.elim
abbrev dC (d : SD) : DTE := fun _ μ Q => Q d μ
/-- a datum whose value is plain -/
def plain : SD → Option V
  | .non => some .non
  | .bl b => some (.bl b)
  | .int i => some (.int i)
  | .str x => some (.str x)
  | .ref a => some (.ref a)
  | .ty n => some (.ty n)
  | _ => none
theorem RepS.plain {K : PySem.W.Frag} {F : Hp} {d : SD} {v : V} (h : plain d = some v) : RepS K F d v := by
  cases d <;> simp [DS.plain] at h <;> subst h <;> constructor
theorem RepS.isPlain {K : PySem.W.Frag} {F : Hp} {d : SD} {v w : V} (h : RepS K F d v) (p : DS.plain d = some w) : v = w := by
  cases h <;> simp [DS.plain] at p <;> exact p
theorem liftC {t : TE} {d : SD} {v : V} (h : PE X e (tC v)) (p : plain d = some v) : DE X e (dC d) :=
  weakE h fun σ H Q h => by
    obtain ⟨F, ρ, μ, Q', R, S, t, k⟩ := h
    exact k d μ t F H v (Stp.refl F H μ) R (RepS.plain p)
theorem de_int {i : Int} {j} : DE X (.Constant (.int i) j pos) (dC (.int i)) := liftC (t := tC (.int i)) pe_int rfl
theorem de_bl {i : Bool} {j} : DE X (.Constant (.bool i) j pos) (dC (.bl i)) := liftC (t := tC (.bl i)) pe_bl rfl
theorem de_non {j} : DE X (.Constant .none j pos) (dC .non) := liftC (t := tC .non) pe_non rfl
theorem de_str {y : Str} {j} : DE X (.Constant (.str y) j pos) (dC (.str y)) := liftC (t := tC (.str y)) pe_str rfl
theorem de_glob {d : SD} {v : V} {u : Value} (hg : Gl X x) (hm : X.mg x = some u) (r : RelV v u) (pl : plain d = some v) (hd : (x == ("__debug__" : Str)) = false := by decide) : DE X (.Name x pos) (dC d) := liftC (t := tC v) (pe_glob hg hm r hd) pl

/-- two operands -/
abbrev DR2 := SD → SD → Mu → (SD → Mu → Prop) → Prop
def LR2 (K : PySem.W.Frag) (dr : DR2) (r : R2) : Prop := ∀ F H μ x y dx dy Q' Q, HReal K F H μ → RepS K F dx x → RepS K F dy y → dr dx dy μ Q' →
  (∀ d μ', Q' d μ' → ∀ F' H' v, Stp F H μ F' H' μ' → HReal K F' H' μ' → RepS K F' d v → Q v H') → r x y H Q
abbrev dOp (dr : DR2) (ta tb : DTE) : DTE := fun ρ μ Q => ta ρ μ fun x μ1 => tb ρ μ1 fun y μ2 => dr x y μ2 Q
theorem lift2 {K : PySem.W.Frag} {dr : DR2} {r : R2} {ta tb : DTE} (hl : LR2 K dr r) : ∀ σ H Q, LE K (dOp dr ta tb) σ H Q → tOp r (LE K ta) (LE K tb) σ H Q := fun σ H Q h => by
  obtain ⟨F, ρ, μ, Q', R, S, t, k⟩ := h
  refine ⟨F, ρ, μ, _, R, S, t, fun d1 μ1 t1 F1 H1 v1 s1 R1 r1 => ?_⟩
  refine ⟨F1, ρ, μ1, _, R1, S.mono s1.ext, t1, fun d2 μ2 t2 F2 H2 v2 s2 R2 r2 => ?_⟩
  exact hl F2 H2 μ2 v1 v2 d1 d2 Q' Q R2 (r1.mono s2.ext) r2 t2 fun d μ' q F' H' v s R' r' => k d μ' q F' H' v ((s1.trans s2).trans s) R' r'
theorem de_op {op : Operator} {r : R2} {dr : DR2} {ta tb : DTE} (ho : OpR X (binaryOp op) r) (hl : LR2 X.K dr r) (ha : DE X a ta) (hb : DE X b tb) : DE X (.BinOp a op b pos) (dOp dr ta tb) :=
  weakE (pe_op ho ha hb) (lift2 hl)
theorem de_cmp {op : CmpOp} {r : R2} {dr : DR2} {ta tb : DTE} (ho : OpR X (compareOp op) r) (hl : LR2 X.K dr r) (ha : DE X a ta) (hb : DE X b tb) (hm : behindInMarks op b = false) : DE X (.Compare a [op] [b] pos) (dOp dr ta tb) :=
  weakE (pe_cmpR ho ha hb hm) (lift2 hl)
abbrev dTest (t : DTE) : DTT := fun ρ μ Q => t ρ μ fun d μ1 => match d with
  | .bl b => Q b μ1
  | _ => False
theorem dt_cmp {op : CmpOp} {r : R2} {dr : DR2} {ta tb : DTE} (ho : OpR X (compareOp op) r) (hl : LR2 X.K dr r) (ha : DE X a ta) (hb : DE X b tb) (hm : behindInMarks op b = false) : DT X (.Compare a [op] [b] pos) (dTest (dOp dr ta tb)) :=
  weakT (pt_cmpR ho ha hb hm) fun σ H Q h => by
    obtain ⟨F, ρ, μ, Q', R, S, t, k⟩ := h
    refine lift2 hl σ H _ ⟨F, ρ, μ, _, R, S, t, fun d μ' q F' H' v s R' r' => ?_⟩
    cases r' with
    | bl b => exact ⟨b, rfl, k b μ' q F' H' s R'⟩
    | _ => exact q.elim
/-- an expression that gives True or False, as a test -/
theorem dt_val {t : DTE} (h : DE X e t) (he : ∀ whole, isTrue e X.env whole = (do let v ← whole; standAt e.pos; holding [v] (truthy v)) := by intro _; rfl) : DT X e (dTest t) :=
  weakT (pt_val h he) fun σ H Q h => by
    obtain ⟨F, ρ, μ, Q', R, S, t, k⟩ := h
    refine ⟨F, ρ, μ, _, R, S, t, fun d μ' q F' H' v s R' r' => ?_⟩
    cases r' with
    | bl b => exact ⟨b, rfl, k b μ' q F' H' s R'⟩
    | _ => exact q.elim
abbrev dAnd (t u : DTT) : DTT := fun ρ μ Q => t ρ μ fun c μ1 => if c = true then u ρ μ1 Q else Q false μ1
abbrev dOr (t u : DTT) : DTT := fun ρ μ Q => t ρ μ fun c μ1 => if c = true then Q true μ1 else u ρ μ1 Q
abbrev dNot (t : DTT) : DTT := fun ρ μ Q => t ρ μ fun c μ1 => Q (!c) μ1
section
variable {K : PySem.W.Frag} {t u : DTT}
theorem lift_and : ∀ σ H Q, LT K (dAnd t u) σ H Q → tAnd (LT K t) (LT K u) σ H Q := fun σ H Q h => by
  obtain ⟨F, ρ, μ, Q', R, S, t, k⟩ := h
  refine ⟨F, ρ, μ, _, R, S, t, fun c μ1 t1 F1 H1 s1 R1 => ?_⟩
  cases c with
  | true => exact ⟨F1, ρ, μ1, Q', R1, S.mono s1.ext, t1, fun b μ' q F' H' s R' => k b μ' q F' H' (s1.trans s) R'⟩
  | false => exact k false μ1 t1 F1 H1 s1 R1
theorem lift_or : ∀ σ H Q, LT K (dOr t u) σ H Q → tOr (LT K t) (LT K u) σ H Q := fun σ H Q h => by
  obtain ⟨F, ρ, μ, Q', R, S, t, k⟩ := h
  refine ⟨F, ρ, μ, _, R, S, t, fun c μ1 t1 F1 H1 s1 R1 => ?_⟩
  cases c with
  | false => exact ⟨F1, ρ, μ1, Q', R1, S.mono s1.ext, t1, fun b μ' q F' H' s R' => k b μ' q F' H' (s1.trans s) R'⟩
  | true => exact k true μ1 t1 F1 H1 s1 R1
end
theorem dw_and1 {t : DTT} (ha : DT X a t) : DW X (.BoolOp .And [a] pos) t := pw_and1 ha
theorem dw_or1 {t : DTT} (ha : DT X a t) : DW X (.BoolOp .Or [a] pos) t := pw_or1 ha
theorem dw_and {t u : DTT} {rest : List Expr} (ha : DT X a t) (hb : DW X (.BoolOp .And (b :: rest) pos) u) : DW X (.BoolOp .And (a :: b :: rest) pos) (dAnd t u) := weakW (pw_and ha hb) lift_and
theorem dw_or {t u : DTT} {rest : List Expr} (ha : DT X a t) (hb : DW X (.BoolOp .Or (b :: rest) pos) u) : DW X (.BoolOp .Or (a :: b :: rest) pos) (dOr t u) := weakW (pw_or ha hb) lift_or
theorem dt_not {t : DTT} (ha : DT X a t) : DT X (.UnaryOp .Not a pos) (dNot t) := weakT (pt_not ha) fun σ H Q h => by
  obtain ⟨F, ρ, μ, Q', R, S, t, k⟩ := h
  exact ⟨F, ρ, μ, _, R, S, t, fun c μ1 t1 F1 H1 s1 R1 => k (!c) μ1 t1 F1 H1 s1 R1⟩
/-- and, or, not as values: all but the last True or False -/
abbrev dAndV (ta tb : DTE) : DTE := fun ρ μ Q => ta ρ μ fun x μ1 => match x with
  | .bl true => tb ρ μ1 Q
  | .bl false => Q (.bl false) μ1
  | _ => False
abbrev dOrV (ta tb : DTE) : DTE := fun ρ μ Q => ta ρ μ fun x μ1 => match x with
  | .bl true => Q (.bl true) μ1
  | .bl false => tb ρ μ1 Q
  | _ => False
theorem de_one {op} {t : DTE} (h : DE X a t) : DE X (.BoolOp op [a] pos) t := pe_one h
theorem de_and {ta tb : DTE} {rest : List Expr} (ha : DE X a ta) (hb : DE X (.BoolOp .And (b :: rest) pos) tb) : DE X (.BoolOp .And (a :: b :: rest) pos) (dAndV ta tb) := weakE (pe_and ha hb) fun σ H Q h => by
  obtain ⟨F, ρ, μ, Q', R, S, t, k⟩ := h
  refine ⟨F, ρ, μ, _, R, S, t, fun d μ1 t1 F1 H1 v s1 R1 r1 => ?_⟩
  cases r1 with
  | bl c =>
    refine ⟨c, rfl, ?_⟩
    cases c with
    | true => exact ⟨F1, ρ, μ1, Q', R1, S.mono s1.ext, t1, fun b μ' q F' H' v s R' r' => k b μ' q F' H' v (s1.trans s) R' r'⟩
    | false => exact k _ μ1 t1 F1 H1 _ s1 R1 (.bl false)
  | _ => exact t1.elim
theorem de_or {ta tb : DTE} {rest : List Expr} (ha : DE X a ta) (hb : DE X (.BoolOp .Or (b :: rest) pos) tb) : DE X (.BoolOp .Or (a :: b :: rest) pos) (dOrV ta tb) := weakE (pe_or ha hb) fun σ H Q h => by
  obtain ⟨F, ρ, μ, Q', R, S, t, k⟩ := h
  refine ⟨F, ρ, μ, _, R, S, t, fun d μ1 t1 F1 H1 v s1 R1 r1 => ?_⟩
  cases r1 with
  | bl c =>
    refine ⟨c, rfl, ?_⟩
    cases c with
    | false => exact ⟨F1, ρ, μ1, Q', R1, S.mono s1.ext, t1, fun b μ' q F' H' v s R' r' => k b μ' q F' H' v (s1.trans s) R' r'⟩
    | true => exact k _ μ1 t1 F1 H1 _ s1 R1 (.bl true)
  | _ => exact t1.elim
abbrev dIf (t : DTT) (ta tb : DTE) : DTE := fun ρ μ Q => t ρ μ fun c μ1 => if c = true then ta ρ μ1 Q else tb ρ μ1 Q
theorem de_ifExp {t : DTT} {ta tb : DTE} (hc : DT X c t) (ha : DE X a ta) (hb : DE X b tb) : DE X (.IfExp c a b pos) (dIf t ta tb) := weakE (pe_ifExp hc ha hb) fun σ H Q h => by
  obtain ⟨F, ρ, μ, Q', R, S, t, k⟩ := h
  refine ⟨F, ρ, μ, _, R, S, t, fun d μ1 t1 F1 H1 s1 R1 => ?_⟩
  cases d with
  | true => exact ⟨F1, ρ, μ1, Q', R1, S.mono s1.ext, t1, fun b μ' q F' H' v s R' r' => k b μ' q F' H' v (s1.trans s) R' r'⟩
  | false => exact ⟨F1, ρ, μ1, Q', R1, S.mono s1.ext, t1, fun b μ' q F' H' v s R' r' => k b μ' q F' H' v (s1.trans s) R' r'⟩
/-- a < b < c -/
abbrev dChain (r r' : DR2) (ta tb tc : DTE) : DTE := fun ρ μ Q => ta ρ μ fun x μ1 => tb ρ μ1 fun y μ2 => r x y μ2 fun z μ3 => match z with
  | .bl true => tc ρ μ3 fun w μ4 => r' y w μ4 Q
  | .bl false => Q (.bl false) μ3
  | _ => False
abbrev dNil : DTA := fun _ μ Q => Q [] μ
abbrev dCons (te : DTE) (t : DTA) : DTA := fun ρ μ Q => te ρ μ fun x μ1 => t ρ μ1 fun xs μ2 => Q (x :: xs) μ2
theorem da_nil : DA X [] dNil := weakA pa_nil fun σ H Q h => by
  obtain ⟨F, ρ, μ, Q', R, S, t, k⟩ := h
  exact k [] μ t F H [] (Stp.refl F H μ) R .nil
theorem da_cons {te : DTE} {t : DTA} (ha : DE X e te) (hr : DA X es t) (hs : starEach (e :: es) X.env = (false, eval e X.env) :: starEach es X.env := by rfl) : DA X (e :: es) (dCons te t) :=
  weakA (pa_cons ha hr hs) fun σ H Q h => by
    obtain ⟨F, ρ, μ, Q', R, S, t, k⟩ := h
    refine ⟨F, ρ, μ, _, R, S, t, fun d1 μ1 t1 F1 H1 v1 s1 R1 r1 => ?_⟩
    exact ⟨F1, ρ, μ1, _, R1, S.mono s1.ext, t1, fun ds μ2 t2 F2 H2 vs s2 R2 r2 => k _ μ2 t2 F2 H2 _ (s1.trans s2) R2 (.cons (r1.mono s2.ext) r2)⟩
abbrev dTup (t : DTA) : DTE := fun ρ μ Q => t ρ μ fun xs μ1 => xs.length ≤ sizeLine ∧ Q (.tup xs) μ1
abbrev dLst (t : DTA) : DTE := fun ρ μ Q => t ρ μ fun xs μ1 => xs.length ≤ sizeLine ∧ Q (.lst xs) μ1
/-- a list that may change -/
abbrev dLstM (t : DTA) : DTE := fun ρ μ Q => t ρ μ fun xs μ1 => xs.length ≤ sizeLine ∧ ∀ p, μ1 p = none → Q (.ref p) (up μ1 p (.lst xs))
theorem de_tup {t : DTA} {x1} (h : DA X es t) : DE X (.Tuple es x1 pos) (dTup t) := weakE (pe_tup h) fun σ H Q h => by
  obtain ⟨F, ρ, μ, Q', R, S, t, k⟩ := h
  refine ⟨F, ρ, μ, _, R, S, t, fun ds μ1 t1 F1 H1 vs s1 R1 r1 => ⟨by rw [← r1.length]; exact t1.1, fun p hp => ?_⟩⟩
  exact k _ μ1 t1.2 _ _ _ (s1.trans (Stp.newS R1 hp)) (R1.newS hp) (.tup (.inl (.inl upd_same)) (r1.mono (Ext.new (R1.freeF hp))))
theorem de_lst {t : DTA} (h : DA X es t) : DE X (.List es pos) (dLst t) := weakE (pe_lst h) fun σ H Q h => by
  obtain ⟨F, ρ, μ, Q', R, S, t, k⟩ := h
  refine ⟨F, ρ, μ, _, R, S, t, fun ds μ1 t1 F1 H1 vs s1 R1 r1 => ⟨by rw [← r1.length]; exact t1.1, fun p hp => ?_⟩⟩
  exact k _ μ1 t1.2 _ _ _ (s1.trans (Stp.newS R1 hp)) (R1.newS hp) (.lst upd_same (r1.mono (Ext.new (R1.freeF hp))))
theorem de_lstM {t : DTA} (h : DA X es t) : DE X (.List es pos) (dLstM t) := weakE (pe_lst h) fun σ H Q h => by
  obtain ⟨F, ρ, μ, Q', R, S, t, k⟩ := h
  refine ⟨F, ρ, μ, _, R, S, t, fun ds μ1 t1 F1 H1 vs s1 R1 r1 => ⟨by rw [← r1.length]; exact t1.1, fun p hp => ?_⟩⟩
  exact k _ _ (t1.2 p (R1.freeM hp)) _ _ _ (s1.trans (Stp.newM R1 hp)) (R1.newM hp (.lst r1)) (.ref p)
end

section
variable {X : Cx} {pos p : Pos} {a b c e o : Expr} {es : List Expr} {x : Str} {st : Stmt} {rest : List Stmt}
abbrev dNext : DTS := fun D ρ μ => D.nx ρ μ
abbrev dSeq (t u : DTS) : DTS := fun D ρ μ => t { D with nx := u D } ρ μ
theorem dss_nil : DSs X [] dNext := weakSs pss_nil fun D σ H h => by
  obtain ⟨F, ρ, μ, D', R, S, t, k, _⟩ := h
  exact k ρ μ t F H σ (Stp.refl F H μ) R S
theorem dss_cons {t u : DTS} (h1 : DS_ X st t) (h2 : DSs X rest u) : DSs X (st :: rest) (dSeq t u) := weakSs (pss_cons h1 h2) fun D σ H h => by
  obtain ⟨F, ρ, μ, D', R, S, t, k, k2, k3, k4⟩ := h
  exact ⟨F, ρ, μ, _, R, S, t, fun ρ1 μ1 t1 F1 H1 σ1 s1 R1 S1 => ⟨F1, ρ1, μ1, D', R1, S1, t1, fun ρ' μ' q F' H' σ' s => k ρ' μ' q F' H' σ' (s1.trans s), fun d μ' q F' H' v s => k2 d μ' q F' H' v (s1.trans s),
    fun ρ' μ' q F' H' σ' s => k3 ρ' μ' q F' H' σ' (s1.trans s), fun ρ' μ' q F' H' σ' s => k4 ρ' μ' q F' H' σ' (s1.trans s)⟩, k2, k3, k4⟩
theorem dss_one {t : DTS} (h1 : DS_ X st t) : DSs X [st] t := pss_one h1
abbrev dDrop (te : DTE) : DTS := fun D ρ μ => te ρ μ fun _ μ1 => D.nx ρ μ1
theorem ds_expr {te : DTE} (he : DE X e te) (hs : swapsWith e none pos.line X.env = pure false := by rfl) : DS_ X (.Expr e pos) (dDrop te) := weakS (ps_expr he hs) fun D σ H h => by
  obtain ⟨F, ρ, μ, D', R, S, t, k, _⟩ := h
  exact ⟨F, ρ, μ, _, R, S, t, fun d μ1 t1 F1 H1 v s1 R1 r1 => k ρ μ1 t1 F1 H1 σ s1 R1 (S.mono s1.ext)⟩
abbrev dRet (te : DTE) : DTS := fun D ρ μ => te ρ μ D.rt
theorem ds_ret {te : DTE} (he : DE X e te) : DS_ X (.Return (some e) pos) (dRet te) := weakS (ps_ret he) fun D σ H h => by
  obtain ⟨F, ρ, μ, D', R, S, t, _, k, _⟩ := h
  exact ⟨F, ρ, μ, _, R, S, t, k⟩
/-- return of a list that has been filled: from then on it does not change -/
def frz : (SD → Mu → Prop) → SD → Mu → Prop := fun Q d μ => match d with
  | .ref a => match μ a with
    | some (.lst xs) => Q (.lst xs) (rm μ a)
    | some (.dic xs) => Q (.dic xs) (rm μ a)
    | _ => False
  | _ => False
abbrev dRetF (te : DTE) : DTS := fun D ρ μ => te ρ μ (frz D.rt)
theorem ds_retF {te : DTE} (he : DE X e te) : DS_ X (.Return (some e) pos) (dRetF te) := weakS (ps_ret he) fun D σ H h => by
  obtain ⟨F, ρ, μ, D', R, S, t, _, k, _⟩ := h
  refine ⟨F, ρ, μ, _, R, S, t, fun d μ1 t1 F1 H1 v s1 R1 r1 => ?_⟩
  cases r1 with
  | ref z =>
    unfold frz at t1
    simp only at t1
    split at t1
    · rename_i xs hx
      obtain ⟨vs, h1, h2, R2, s2, r2⟩ := R1.freeze hx
      exact k _ _ t1 _ _ _ (s1.trans s2) R2 r2
    · rename_i xs hx
      obtain ⟨vs, h1, R2, s2, r2⟩ := R1.freezeD hx
      exact k _ _ t1 _ _ _ (s1.trans s2) R2 r2
    · exact t1.elim
  | _ => exact t1.elim
abbrev dIfS (c : DTT) (t u : DTS) : DTS := fun D ρ μ => c ρ μ fun b μ1 => if b = true then t D ρ μ1 else u D ρ μ1
theorem ds_if {ss uu : List Stmt} {tc : DTT} {t u : DTS} (hc : DT X c tc) (ha : DSs X ss t) (hb : DSs X uu u) : DS_ X (.If c ss uu pos) (dIfS tc t u) := weakS (ps_if hc ha hb) fun D σ H h => by
  obtain ⟨F, ρ, μ, D', R, S, t, k, k2, k3, k4⟩ := h
  refine ⟨F, ρ, μ, _, R, S, t, fun d μ1 t1 F1 H1 s1 R1 => ?_⟩
  cases d with
  | true => exact ⟨F1, ρ, μ1, D', R1, S.mono s1.ext, t1, fun ρ' μ' q F' H' σ' s => k ρ' μ' q F' H' σ' (s1.trans s), fun d μ' q F' H' v s => k2 d μ' q F' H' v (s1.trans s),
    fun ρ' μ' q F' H' σ' s => k3 ρ' μ' q F' H' σ' (s1.trans s), fun ρ' μ' q F' H' σ' s => k4 ρ' μ' q F' H' σ' (s1.trans s)⟩
  | false => exact ⟨F1, ρ, μ1, D', R1, S.mono s1.ext, t1, fun ρ' μ' q F' H' σ' s => k ρ' μ' q F' H' σ' (s1.trans s), fun d μ' q F' H' v s => k2 d μ' q F' H' v (s1.trans s),
    fun ρ' μ' q F' H' σ' s => k3 ρ' μ' q F' H' σ' (s1.trans s), fun ρ' μ' q F' H' σ' s => k4 ρ' μ' q F' H' σ' (s1.trans s)⟩
abbrev hName (i : Nat) : DTG := fun d ρ μ Q => Q (ρ.set i (some d)) μ
theorem dg_name {i : Nat} (hN : X.N.Nodup) (hi : X.N[i]? = some x) (hx : Loc X.env.scope x) (hf : X.fn x = true ∨ X.env.scope.names.lookup x = some .local := by first | exact .inl rfl | exact .inr rfl | assumption) : DG X (.Name x pos) (hName i) :=
  weakG (pg_name hN hi hx hf) fun v σ H Q h => by
    obtain ⟨F, ρ, μ, d, Q', R, S, r, t, k⟩ := h
    exact k _ μ t F H _ (Stp.refl F H μ) R (S.set i r)
abbrev hNil : DTGs := fun vs ρ μ Q => vs = [] ∧ Q ρ μ
abbrev hCons (t : DTG) (u : DTGs) : DTGs := fun vs ρ μ Q => match vs with
  | v :: r => t v ρ μ fun ρ' μ' => u r ρ' μ' Q
  | [] => False
theorem dgs_nil : DGs X [] hNil := weakGs pgs_nil fun v σ H Q h => by
  obtain ⟨F, ρ, μ, ds, Q', R, S, r, ⟨e, t⟩, k⟩ := h
  subst e
  cases r
  exact ⟨rfl, k ρ μ t F H σ (Stp.refl F H μ) R S⟩
theorem dgs_cons {t : DTG} {u : DTGs} (h1 : DG X e t) (h2 : DGs X es u) (hs : (assignEach (e :: es) X.env).map (·.2) = assign e X.env :: (assignEach es X.env).map (·.2) := by rfl) : DGs X (e :: es) (hCons t u) :=
  weakGs (pgs_cons h1 h2 hs) fun v σ H Q h => by
    obtain ⟨F, ρ, μ, ds, Q', R, S, r, t, k⟩ := h
    cases r with
    | nil => exact t.elim
    | cons r rr =>
      refine ⟨_, _, rfl, F, ρ, μ, _, _, R, S, r, t, fun ρ1 μ1 t1 F1 H1 σ1 s1 R1 S1 => ?_⟩
      exact ⟨F1, ρ1, μ1, _, Q', R1, S1, rr.mono s1.ext, t1, fun ρ' μ' q F' H' σ' s => k ρ' μ' q F' H' σ' (s1.trans s)⟩
abbrev hTup (n : Nat) (t : DTGs) : DTG := fun d ρ μ Q => match d with
  | .tup xs => xs.length = n ∧ t xs ρ μ Q
  | _ => False
theorem dg_tup {k : Nat} {t : DTGs} {n : Nat} (hc : X.calm = true) (h : DGs X es t) (hn : (assignEach es X.env).length = n := by rfl) (hst : (assignEach es X.env).findIdx? (·.1) = none := by rfl) : DG X (.Tuple es k pos) (hTup n t) :=
  weakG (pg_tup hc h hn hst) fun v σ H Q h => by
    obtain ⟨F, ρ, μ, d, Q', R, S, r, t, k⟩ := h
    cases r with
    | tup h r => exact ⟨_, _, rfl, R.ext.sqT h, by rw [← r.length]; exact t.1, F, ρ, μ, _, Q', R, S, r, t.2, k⟩
    | _ => exact t.elim
abbrev dAsg (te : DTE) (g : DTG) : DTS := fun D ρ μ => te ρ μ fun x μ1 => g x ρ μ1 D.nx
theorem liftAsg {K : PySem.W.Frag} {te : DTE} {g : DTG} : ∀ D σ H, LS K (dAsg te g) D σ H → tAsg (LE K te) (LG K g) D σ H := fun D σ H h => by
  obtain ⟨F, ρ, μ, D', R, S, t, k, _⟩ := h
  exact ⟨F, ρ, μ, _, R, S, t, fun d μ1 t1 F1 H1 v s1 R1 r1 => ⟨F1, ρ, μ1, d, _, R1, S.mono s1.ext, r1, t1, fun ρ' μ' q F' H' σ' s => k ρ' μ' q F' H' σ' (s1.trans s)⟩⟩
theorem ds_asg {tg : Expr} {te : DTE} {g : DTG} (he : DE X e te) (hg : DG X tg g) (hs : swapsWithSole [tg] e pos.line X.env = pure false := by rfl) (hw : swappedStores [tg] e X.env = pure none := by rfl)
    (h1 : (assignEach [tg] X.env).map (·.2) = [assign tg X.env] := by rfl) : DS_ X (.Assign [tg] e pos) (dAsg te g) := weakS (ps_asg he hg hs hw h1) liftAsg
abbrev dSet (te : DTE) (i : Nat) : DTS := fun D ρ μ => te ρ μ fun x μ1 => D.nx (ρ.set i (some x)) μ1
theorem ds_set {i : Nat} {te : DTE} {pos' : Pos} (hN : X.N.Nodup) (hi : X.N[i]? = some x) (hx : Loc X.env.scope x) (he : DE X e te) (hs : swapsWith e (some (.Name x pos')) pos.line X.env = pure false := by rfl) (hf : X.fn x = true ∨ X.env.scope.names.lookup x = some .local := by first | exact .inl rfl | exact .inr rfl | assumption) :
    DS_ X (.Assign [.Name x pos'] e pos) (dSet te i) := weakS (ps_set hN hi hx he hs hf) fun D σ H h => by
  obtain ⟨F, ρ, μ, D', R, S, t, k, _⟩ := h
  exact ⟨F, ρ, μ, _, R, S, t, fun d μ1 t1 F1 H1 v s1 R1 r1 => k _ μ1 t1 F1 H1 _ s1 R1 ((S.mono s1.ext).set i r1)⟩
abbrev dPar (i j : Nat) (ta : DTA) : DTS := fun D ρ μ => ta ρ μ fun vs μ1 => match vs with
  | [v, w] => D.nx ((ρ.set i (some v)).set j (some w)) μ1
  | _ => False
theorem ds_par {i j : Nat} {x y : Str} {ta : DTA} {px py pt : Pos} {kt k2 pt2} (hc : X.calm = true) (hN : X.N.Nodup) (hi : X.N[i]? = some x) (hj : X.N[j]? = some y) (hij : i ≠ j)
    (hx : X.env.scope.names.lookup x = some .local) (hy : X.env.scope.names.lookup y = some .local) (ha : DA X [a, b] ta)
    (hw : swappedStores [.Tuple [.Name x px, .Name y py] kt pt] (.Tuple [a, b] k2 pt2) X.env = pure (some [x, y]))
    (hs : swapsWithSole [.Tuple [.Name x px, .Name y py] kt pt] (.Tuple [a, b] k2 pt2) pos.line X.env = pure false := by rfl) :
    DS_ X (.Assign [.Tuple [.Name x px, .Name y py] kt pt] (.Tuple [a, b] k2 pt2) pos) (dPar i j ta) := weakS (ps_par hc hN hi hj hij hx hy ha hw hs) fun D σ H h => by
  obtain ⟨F, ρ, μ, D', R, S, t, k, _⟩ := h
  refine ⟨F, ρ, μ, _, R, S, t, fun ds μ1 t1 F1 H1 vs s1 R1 r1 => ?_⟩
  cases r1 with
  | nil => exact t1.elim
  | cons r1 r2 => cases r2 with
    | nil => exact t1.elim
    | cons r2 r3 => cases r3 with
      | cons _ _ => exact t1.elim
      | nil => exact ⟨_, _, rfl, k _ μ1 t1 F1 H1 _ s1 R1 (((S.mono s1.ext).set i r1).set j r2)⟩
end
end DS
namespace DS
open PySem PySem.Spec PyProof.Rows L2

def lstD (μ : Mu) : SD → Option (List SD)
  | .lst xs => some xs
  | .ref a => match μ a with
    | some (.lst xs) => some xs
    | _ => none
  | _ => none
def seqD (μ : Mu) : SD → Option (List SD)
  | .tup xs => some xs
  | .rol xs => some xs
  | .lst xs => some xs
  | .ref a => match μ a with
    | some (.lst xs) => some xs
    | _ => none
  | _ => none
def isTup : SD → Bool
  | .tup _ => true
  | _ => false
section
variable {K : PySem.W.Frag} {F H : Hp} {μ : Mu} {d : SD} {v : V} {xs : List SD}
theorem HReal.lst (R : HReal K F H μ) (r : RepS K F d v) (e : lstD μ d = some xs) : ∃ a vs, v = .ref a ∧ H a = some (.lst vs) ∧ RepL K F xs vs := by
  cases r with
  | lst h q => cases e; exact ⟨_, _, rfl, R.sub _ _ h, q⟩
  | ref a =>
    unfold lstD at e
    simp only at e
    split at e
    · rename_i ys hy
      cases e
      obtain ⟨_, o, h, q⟩ := R.mus a _ hy
      cases q with
      | lst q => exact ⟨a, _, rfl, h, q⟩
    · cases e
  | _ => cases e
theorem HReal.seq (R : HReal K F H μ) (r : RepS K F d v) (e : seqD μ d = some xs) : ∃ a vs, v = .ref a ∧ RepL K F xs vs ∧ ((isTup d = false ∧ SqL K H a vs) ∨ (isTup d = true ∧ SqT K H a vs)) := by
  cases r with
  | lst h q => cases e; exact ⟨_, _, rfl, q, .inl ⟨rfl, SqL.of (R.sub _ _ h)⟩⟩
  | rol h q => cases e; exact ⟨_, _, rfl, q, .inl ⟨rfl, R.ext.sqL h⟩⟩
  | tup h q => cases e; exact ⟨_, _, rfl, q, .inr ⟨rfl, R.ext.sqT h⟩⟩
  | ref a =>
    unfold seqD at e
    simp only at e
    split at e
    · rename_i ys hy
      cases e
      obtain ⟨_, o, h, q⟩ := R.mus a _ hy
      cases q with
      | lst q => exact ⟨a, _, rfl, q, .inl ⟨rfl, SqL.of h⟩⟩
    · cases e
  | _ => cases e
theorem HReal.seq' (R : HReal K F H μ) (r : RepS K F d v) (e : seqD μ d = some xs) : ∃ a vs, v = .ref a ∧ RepL K F xs vs ∧ (SqL K H a vs ∨ SqT K H a vs) := by
  obtain ⟨a, vs, h1, h2, h3⟩ := R.seq r e
  exact ⟨a, vs, h1, h2, h3.imp And.right And.right⟩
end

def dWhile (c : DTT) (tb : DTS) : DTS := fun D ρ μ => ∃ W : Nat → Rho → Mu → Prop, (∃ m, W m ρ μ) ∧ ∀ m ρ μ, W m ρ μ →
  c ρ μ fun b μ1 => if b = true then ∃ N : Rho → Mu → Prop, (∀ ρ' μ', N ρ' μ' → ∃ m', m' < m ∧ W m' ρ' μ') ∧ tb { D with nx := N, ct := N, bk := D.nx } ρ μ1 else D.nx ρ μ1
section
variable {X : Cx} {pos p : Pos} {a b c e o iter tg : Expr} {es : List Expr} {x : Str} {st : Stmt} {rest body : List Stmt}
theorem ds_while {tc : DTT} {tb : DTS} (hp : PassesOwn (model X.prog X.w) X.A X.env X.xe) (hc : DT X c tc) (hb : DSs X body tb) : DS_ X (.While c body [] pos) (dWhile tc tb) := weakS (ps_while hp hc hb) fun D σ H h => by
  obtain ⟨F0, ρ0, μ0, D', R0, S0, ⟨W, ⟨m0, w0⟩, turn⟩, k, k2, k3, k4⟩ := h
  refine ⟨fun m σ1 H1 => ∃ F ρ μ, Stp F0 H μ0 F H1 μ ∧ HReal X.K F H1 μ ∧ Slots X.K F σ1 ρ ∧ W m ρ μ, ⟨m0, F0, ρ0, μ0, Stp.refl _ _ _, R0, S0, w0⟩, ?_⟩
  rintro m σ1 H1 ⟨F, ρ, μ, s, R, S, w⟩
  refine ⟨F, ρ, μ, _, R, S, turn m ρ μ w, fun b μ1 t1 F1 H2 s1 R1 => ?_⟩
  cases b with
  | false => exact k ρ μ1 t1 F1 H2 σ1 (s.trans s1) R1 (S.mono s1.ext)
  | true =>
    obtain ⟨N, hN, t2⟩ := (show ∃ N : Rho → Mu → Prop, _ from t1)
    refine ⟨fun σ' H' => ∃ F ρ μ, Stp F0 H μ0 F H' μ ∧ HReal X.K F H' μ ∧ Slots X.K F σ' ρ ∧ N ρ μ, ?_, ?_⟩
    · rintro σ' H' ⟨F', ρ', μ', s', R', S', n⟩
      obtain ⟨m', hm, w'⟩ := hN ρ' μ' n
      exact ⟨m', hm, F', ρ', μ', s', R', S', w'⟩
    · refine ⟨F1, ρ, μ1, _, R1, S.mono s1.ext, t2, ?_, ?_, ?_, ?_⟩
      · exact fun ρ' μ' q F' H' σ' s' R' S' => ⟨F', ρ', μ', (s.trans s1).trans s', R', S', q⟩
      · exact fun d μ' q F' H' v s' R' r' => k2 d μ' q F' H' v ((s.trans s1).trans s') R' r'
      · exact fun ρ' μ' q F' H' σ' s' R' S' => k ρ' μ' q F' H' σ' ((s.trans s1).trans s') R' S'
      · exact fun ρ' μ' q F' H' σ' s' R' S' => ⟨F', ρ', μ', (s.trans s1).trans s', R', S', q⟩

structure Src (K : PySem.W.Frag) (F0 H0 : Hp) (μ0 : Mu) (J : It) (ds : List SD) (ok : Mu → Prop) : Prop where
  go : ∀ (i : Nat) (F H : Hp) (μ : Mu), Stp F0 H0 μ0 F H μ → HReal K F H μ → ok μ → i < ds.length → J.go i H
  stop : ∀ (F H : Hp) (μ : Mu), Stp F0 H0 μ0 F H μ → HReal K F H μ → ok μ → J.stop ds.length H
  yld : ∀ (i : Nat) (F H : Hp) (μ : Mu) (x : V) (H' : Hp), Stp F0 H0 μ0 F H μ → HReal K F H μ → ok μ → J.yld i H x H' → ∀ d, ds[i]? = some d → ∃ F', Stp F H μ F' H' μ ∧ HReal K F' H' μ ∧ RepS K F' d x
abbrev DTI := Rho → Mu → (List SD → (Mu → Prop) → Mu → Prop) → Prop
def LI (K : PySem.W.Frag) (t : DTI) : TI := fun σ H R => ∃ F ρ μ Q', HReal K F H μ ∧ Slots K F σ ρ ∧ t ρ μ Q' ∧
  ∀ ds ok μ', Q' ds ok μ' → ∀ F' H' J, Stp F H μ F' H' μ' → HReal K F' H' μ' → Src K F' H' μ' J ds ok → R J H'
abbrev DI (X : Cx) (tg iter : Expr) (t : DTI) : Prop := PI X tg iter (LI X.K t)
theorem weakI {t t' : TI} (h : PI X tg iter t) (w : ∀ σ H R, t' σ H R → t σ H R) : PI X tg iter t' := ⟨fun pins s σ H R I q => h.run pins s σ H R I (w σ H R q)⟩

theorem src_list {K : PySem.W.Frag} {F0 H0 : Hp} {μ0 : Mu} {a : Addr} {ds : List SD} {ok : Mu → Prop} (h : ∀ (F H : Hp) (μ : Mu), Stp F0 H0 μ0 F H μ → HReal K F H μ → ok μ → ∃ vs, SqL K H a vs ∧ RepL K F ds vs) : Src K F0 H0 μ0 (Itl K a) ds ok where
  go := fun i F H μ e R k hi => by
    obtain ⟨vs, h1, h2⟩ := h F H μ e R k
    exact ⟨vs, vs[i]'(by rw [← h2.length]; exact hi), h1, List.getElem?_eq_getElem _⟩
  stop := fun F H μ e R k => by
    obtain ⟨vs, h1, h2⟩ := h F H μ e R k
    exact ⟨vs, h1, by rw [h2.length]; exact Nat.le_refl _⟩
  yld := fun i F H μ x H' e R k y d hd => by
    obtain ⟨vs, h1, h2⟩ := h F H μ e R k
    obtain ⟨rfl, y⟩ := y
    obtain ⟨v, h3, h4⟩ := h2.get hd
    have := y vs h1
    rw [h3] at this; cases this
    exact ⟨F, Stp.refl _ _ _, R, h4⟩
theorem src_tup {K : PySem.W.Frag} {F0 H0 : Hp} {μ0 : Mu} {a : Addr} {ds : List SD} {ok : Mu → Prop} (h : ∀ (F H : Hp) (μ : Mu), Stp F0 H0 μ0 F H μ → HReal K F H μ → ok μ → ∃ vs, SqT K H a vs ∧ RepL K F ds vs) : Src K F0 H0 μ0 (Itt K a) ds ok where
  go := fun i F H μ e R k hi => by
    obtain ⟨vs, h1, h2⟩ := h F H μ e R k
    exact ⟨vs, vs[i]'(by rw [← h2.length]; exact hi), h1, List.getElem?_eq_getElem _⟩
  stop := fun F H μ e R k => by
    obtain ⟨vs, h1, h2⟩ := h F H μ e R k
    exact ⟨vs, h1, by rw [h2.length]; exact Nat.le_refl _⟩
  yld := fun i F H μ x H' e R k y d hd => by
    obtain ⟨vs, h1, h2⟩ := h F H μ e R k
    obtain ⟨rfl, y⟩ := y
    obtain ⟨v, h3, h4⟩ := h2.get hd
    have := y vs h1
    rw [h3] at this; cases this
    exact ⟨F, Stp.refl _ _ _, R, h4⟩
/-- list, tuple or text, whichever it is -/
def iSeq (K : PySem.W.Frag) (tl : TE) : TI := fun σ H R => tl σ H fun x H1 => (∃ a, x = .ref a ∧ (∃ xs, SqL K H1 a xs) ∧ R (Itl K a) H1) ∨ (∃ a, x = .ref a ∧ (∃ xs, SqT K H1 a xs) ∧ R (Itt K a) H1) ∨ ∃ y, x = .str y ∧ R (Its y) H1
theorem pi_seq {l : Expr} {tl : TE} (hl : PE X l tl) : PI X tg l (iSeq X.K tl) := by
  refine ⟨fun pins s σ H R I h => ?_⟩
  refine thn (hl.run pins s σ H _ I h) fun v s1 ⟨x, H1, I1, r1, q1⟩ => ?_
  rcases q1 with ⟨a, e, ⟨xs, hq⟩, q⟩ | ⟨a, e, ⟨xs, hq⟩, q⟩ | ⟨y, e, q⟩
  · subst e
    cases r1
    obtain ⟨its, rv, p, hz⟩ := I1.list hq
    refine wpAny_pyIter_list p.isList ?_
    refine ⟨s1.heap.objs.size, [s1.heap.objs.size], _, _, H1, rfl, I1.kept (t' := s1.toks) fun b o e => Heap.get?_push_of_some _ e, turn_list a _, ⟨_, Heap.get?_push_size _ rfl, rfl, rfl⟩, fun b hb => ?_, q⟩
    have e : b = s1.heap.objs.size := by simpa using hb
    subst e
    exact I1.fpOk (Nat.le_refl _) (I1.hok.fresh (Nat.le_refl _))
  · subst e
    cases r1
    obtain ⟨its, rv, p, hz⟩ := I1.tuple hq
    refine wpAny_pyIter_tuple (show s1.heap.IsTuple a its.toArray from p) ?_
    refine ⟨s1.heap.objs.size, [s1.heap.objs.size], _, _, H1, rfl, I1.kept (t' := s1.toks) fun b o e => Heap.get?_push_of_some _ e, turn_tuple a _, ⟨_, Heap.get?_push_size _ rfl, rfl, rfl⟩, fun b hb => ?_, q⟩
    have e : b = s1.heap.objs.size := by simpa using hb
    subst e
    exact I1.fpOk (Nat.le_refl _) (I1.hok.fresh (Nat.le_refl _))
  · subst e
    obtain ⟨t, rfl⟩ := r1
    cases ha : y.cps.all (· < 128)
    · exact wpAny_pyIter_wide ha (pi_one (tk := s1.toks) I1 _ (turn_str _ y t "str_iterator" (.inr rfl)) ⟨_, Heap.get?_push_size _ rfl, rfl, rfl⟩ q)
    · exact wpAny_pyIter_ascii ha (pi_one (tk := s1.toks) I1 _ (turn_str _ y t "str_ascii_iterator" (.inl rfl)) ⟨_, Heap.get?_push_size _ rfl, rfl, rfl⟩ q)
def chars (y : Str) : List SD := y.cps.toList.map fun c => .str ⟨#[c]⟩
abbrev jSeq (t : DTE) : DTI := fun ρ μ Q => t ρ μ fun d μ1 => match d with
  | .str y => Q (chars y) (fun _ => True) μ1
  | d => match seqD μ1 d with
    | some xs => Q xs (fun μ' => seqD μ' d = some xs) μ1
    | none => False
theorem src_seq {K : PySem.W.Frag} {F H : Hp} {μ : Mu} {d : SD} {v : V} {xs : List SD} (R : HReal K F H μ) (r : RepS K F d v) (e : seqD μ d = some xs) :
    ∃ a, v = .ref a ∧ ((∃ vs, SqL K H a vs) ∧ Src K F H μ (Itl K a) xs (fun μ' => seqD μ' d = some xs) ∨ (∃ vs, SqT K H a vs) ∧ Src K F H μ (Itt K a) xs (fun μ' => seqD μ' d = some xs)) := by
  obtain ⟨a, vs, h1, h2, h3⟩ := R.seq r e
  refine ⟨a, h1, ?_⟩
  subst h1
  rcases h3 with ⟨z, h3⟩ | ⟨z, h3⟩
  · refine .inl ⟨⟨vs, h3⟩, src_list fun F' H' μ' ex R' k => ?_⟩
    obtain ⟨b, ws, q1, q2, q3⟩ := R'.seq (r.mono ex.ext) k
    cases q1
    rcases q3 with ⟨_, q3⟩ | ⟨q, _⟩
    · exact ⟨ws, q3, q2⟩
    · rw [z] at q; cases q
  · refine .inr ⟨⟨vs, h3⟩, src_tup fun F' H' μ' ex R' k => ?_⟩
    obtain ⟨b, ws, q1, q2, q3⟩ := R'.seq (r.mono ex.ext) k
    cases q1
    rcases q3 with ⟨q, _⟩ | ⟨_, q3⟩
    · rw [z] at q; cases q
    · exact ⟨ws, q3, q2⟩
theorem src_str {K : PySem.W.Frag} {F H0 : Hp} {μ0 : Mu} (y : Str) : Src K F H0 μ0 (Its y) (chars y) fun _ => True where
  go := fun i F H μ e R k hi => by
    show i < y.cps.size
    simpa [chars] using hi
  stop := fun F H μ e R k => by
    show y.cps.size ≤ (chars y).length
    simp [chars]
  yld := fun i F H μ x H' e R k yy d hd => by
    obtain ⟨rfl, c, h1, rfl⟩ := yy
    have : (chars y)[i]? = some (.str ⟨#[c]⟩) := by simp [chars, h1]
    rw [this] at hd; cases hd
    exact ⟨F, Stp.refl _ _ _, R, .str _⟩
theorem di_seq {l : Expr} {tl : DTE} (hl : DE X l tl) : DI X tg l (jSeq tl) := weakI (pi_seq hl) fun σ H R h => by
  obtain ⟨F, ρ, μ, Q', R0, S, t, k⟩ := h
  refine ⟨F, ρ, μ, _, R0, S, t, fun d μ1 t1 F1 H1 v s1 R1 r1 => ?_⟩
  have seqCase : ∀ xs, seqD μ1 d = some xs → Q' xs (fun μ' => seqD μ' d = some xs) μ1 → ((∃ a, v = .ref a ∧ (∃ xs, SqL X.K H1 a xs) ∧ R (Itl X.K a) H1) ∨ (∃ a, v = .ref a ∧ (∃ xs, SqT X.K H1 a xs) ∧ R (Itt X.K a) H1) ∨ ∃ y, v = .str y ∧ R (Its y) H1) := fun xs e q => by
    obtain ⟨a, e1, h | h⟩ := src_seq R1 r1 e
    · exact .inl ⟨a, e1, h.1, k _ _ _ q F1 H1 _ s1 R1 h.2⟩
    · exact .inr (.inl ⟨a, e1, h.1, k _ _ _ q F1 H1 _ s1 R1 h.2⟩)
  cases r1 with
  | str y => exact .inr (.inr ⟨y, rfl, k _ _ _ t1 F1 H1 _ s1 R1 (src_str y)⟩)
  | lst h q => exact seqCase _ rfl t1
  | tup h q => exact seqCase _ rfl t1
  | rol h q => exact seqCase _ rfl t1
  | ref b =>
    simp only at t1
    cases e : seqD μ1 (.ref b) with
    | none => rw [e] at t1; exact t1.elim
    | some xs => rw [e] at t1; exact seqCase xs e t1
  | _ => exact t1.elim
abbrev jRng1 (ta : DTA) : DTI := fun ρ μ Q => ta ρ μ fun vs μ1 => match vs with
  | [.int j] => (-(2 ^ 62) ≤ j ∧ j < 2 ^ 62) ∧ Q ((List.range j.toNat).map fun i => .int (i : Nat)) (fun _ => True) μ1
  | _ => False
theorem src_rng {K : PySem.W.Frag} {F H0 : Hp} {μ0 : Mu} (lo : Int) (n : Nat) : Src K F H0 μ0 (Itr lo n) ((List.range n).map fun i => .int (lo + (i : Nat))) fun _ => True where
  go := fun i F H μ e R k hi => by
    show i < n
    simpa using hi
  stop := fun F H μ e R k => by
    show n ≤ _
    simp
  yld := fun i F H μ x H' e R k yy d hd => by
    obtain ⟨rfl, rfl⟩ := yy
    rw [List.getElem?_map] at hd
    by_cases hi : i < n
    · rw [List.getElem?_range hi] at hd
      cases hd
      exact ⟨F, Stp.refl _ _ _, R, .int _⟩
    · rw [List.getElem?_eq_none (by simpa using Nat.le_of_not_lt hi)] at hd; cases hd
theorem di_range1 {ta : DTA} (hg : Gl X "range") (hm : X.mg "range" = none) (ha : DA X [a] ta) (hs : starEach [a] X.env = [(false, eval a X.env)] := by rfl) : DI X tg (.Call (.Name "range" p) [a] [] pos) (jRng1 ta) := weakI (pi_range1 hg hm ha hs) fun σ H R h => by
  obtain ⟨F, ρ, μ, Q', R0, S, t, k⟩ := h
  refine ⟨F, ρ, μ, _, R0, S, t, fun ds μ1 t1 F1 H1 vs s1 R1 r1 => ?_⟩
  cases r1 with
  | nil => exact t1.elim
  | cons r1 r2 => cases r2 with
    | cons _ _ => cases r1 <;> exact t1.elim
    | nil => cases r1 with
      | int j =>
        refine ⟨j, rfl, t1.1.1, t1.1.2, ?_⟩
        have hS := src_rng (K := X.K) (F := F1) (H0 := H1) (μ0 := μ1) 0 j.toNat
        simp only [Int.zero_add] at hS
        exact k _ _ _ t1.2 F1 H1 _ s1 R1 hS
      | _ => exact t1.elim
def enums (xs : List SD) : List SD := xs.mapIdx fun i d => .tup [.int (i : Nat), d]
def dFor (wi : DTI) (g : DTG) (tb : DTS) : DTS := fun D ρ μ => wi ρ μ fun ds ok μ1 => ∃ W : Nat → Rho → Mu → Prop, W 0 ρ μ1 ∧ (∀ i ρ μ, i ≤ ds.length → W i ρ μ → ok μ) ∧
  (∀ i d ρ μ, ds[i]? = some d → W i ρ μ → g d ρ μ fun ρ2 μ2 => tb { D with nx := W (i + 1), ct := W (i + 1), bk := D.nx } ρ2 μ2) ∧ ∀ ρ μ, W ds.length ρ μ → D.nx ρ μ
theorem ds_for {wi : DTI} {g : DTG} {tb : DTS} (hp : PassesOwn (model X.prog X.w) X.A X.env X.xe) (hc : X.calm = true) (hi : DI X tg iter wi) (hg : DG X tg g) (hb : DSs X body tb)
    (hs : ∀ x, foldedSetIterable iter X.env x = pure x := by intro _; rfl) : DS_ X (.For tg iter body [] pos) (dFor wi g tb) := weakS (ps_for hp hc hi hg hb hs) fun D σ H h => by
  obtain ⟨F0, ρ0, μ0, D', R0, S0, t, k, k2, k3, k4⟩ := h
  refine ⟨F0, ρ0, μ0, _, R0, S0, t, fun ds ok μ1 t1 F1 H1 J s1 R1 src => ?_⟩
  obtain ⟨W, w0, hok, turn, fin⟩ := t1
  refine ⟨fun i m σ' H' => i + m = ds.length ∧ ∃ F ρ μ, Stp F1 H1 μ1 F H' μ ∧ HReal X.K F H' μ ∧ Slots X.K F σ' ρ ∧ W i ρ μ, ⟨ds.length, by omega, F1, ρ0, μ1, Stp.refl _ _ _, R1, S0.mono s1.ext, w0⟩, ?_⟩
  rintro i m σ' H' ⟨him, F, ρ, μ, s, R, S, w⟩
  have hle : i ≤ ds.length := by omega
  by_cases hi : i < ds.length
  · refine .inr ⟨src.go i F H' μ s R (hok i ρ μ hle w) hi, fun σ2 H2 => ∃ F ρ μ, Stp F1 H1 μ1 F H2 μ ∧ HReal X.K F H2 μ ∧ Slots X.K F σ2 ρ ∧ W (i + 1) ρ μ, ?_, ?_⟩
    · rintro σ2 H2 ⟨F', ρ', μ', s', R', S', w'⟩
      exact ⟨ds.length - (i + 1), by omega, by omega, F', ρ', μ', s', R', S', w'⟩
    · intro x H2 y
      obtain ⟨F', s', R', r'⟩ := src.yld i F H' μ x H2 s R (hok i ρ μ hle w) y _ (List.getElem?_eq_getElem hi)
      refine ⟨F', ρ, μ, _, _, R', S.mono s'.ext, r', turn i _ ρ μ (List.getElem?_eq_getElem hi) w, fun ρ2 μ2 t2 F2 H3 σ2 s2 R2 S2 => ?_⟩
      refine ⟨F2, ρ2, μ2, _, R2, S2, t2, ?_, ?_, ?_, ?_⟩
      · exact fun ρ' μ' q F'' H'' σ'' s'' R'' S'' => ⟨F'', ρ', μ', ((s.trans s').trans s2).trans s'', R'', S'', q⟩
      · exact fun d μ' q F'' H'' v s'' R'' r'' => k2 d μ' q F'' H'' v (s1.trans (((s.trans s').trans s2).trans s'')) R'' r''
      · exact fun ρ' μ' q F'' H'' σ'' s'' R'' S'' => k ρ' μ' q F'' H'' σ'' (s1.trans (((s.trans s').trans s2).trans s'')) R'' S''
      · exact fun ρ' μ' q F'' H'' σ'' s'' R'' S'' => ⟨F'', ρ', μ', ((s.trans s').trans s2).trans s'', R'', S'', q⟩
  · have e : i = ds.length := by omega
    subst e
    exact .inl ⟨src.stop F H' μ s R (hok _ ρ μ hle w), k ρ μ (fin ρ μ w) F H' σ' (s1.trans s) R S⟩

def wipeR (ρ : Rho) : List Nat → Rho
  | [] => ρ
  | v :: vs => (wipeR ρ vs).set v none
theorem Slots.setN {K : PySem.W.Frag} {F : Hp} {σ : L2.St} {ρ : Rho} (h : Slots K F σ ρ) (i : Nat) : Slots K F (σ.set i none) (ρ.set i none) := by
  refine ⟨by simp [h.len], fun j e q => ?_⟩
  by_cases hj : j = i
  · subst hj
    by_cases hl : j < ρ.length
    · rw [List.getElem?_set_self hl] at q; cases q
    · rw [List.getElem?_eq_none (by simpa using Nat.le_of_not_lt hl)] at q; cases q
  · rw [List.getElem?_set_ne (Ne.symm hj)] at q ⊢
    exact h.at_ j e q
theorem Slots.wipe {K : PySem.W.Frag} {F : Hp} {σ : L2.St} {ρ : Rho} (h : Slots K F σ ρ) : ∀ vs : List Nat, Slots K F (wipe σ vs) (wipeR ρ vs)
  | [] => h
  | v :: vs => (Slots.wipe h vs).setN v
theorem wipe_set (σ : L2.St) (v : Option V) : ∀ {vs : List Nat} {i : Nat}, i ∈ vs → wipe (σ.set i v) vs = wipe σ vs
  | w :: vs, i, h => by
    by_cases e : i ∈ vs
    · show (wipe (σ.set i v) vs).set w none = (wipe σ vs).set w none
      rw [wipe_set σ v e]
    · have e2 : i = w := by
        rcases List.mem_cons.mp h with z | z
        · exact z
        · exact absurd z e
      subst e2
      show (wipe (σ.set i v) vs).set i none = (wipe σ vs).set i none
      have : ∀ ws : List Nat, i ∉ ws → wipe (σ.set i v) ws = (wipe σ ws).set i v := by
        intro ws
        induction ws with
        | nil => intro _; rfl
        | cons a r ih =>
          intro hn
          have ha : i ≠ a := fun z => hn (by rw [z]; exact List.mem_cons_self)
          show (wipe (σ.set i v) r).set a none = ((wipe σ r).set a none).set i v
          rw [ih (fun z => hn (List.mem_cons_of_mem _ z)), List.set_comm _ _ ha]
      rw [this vs e, List.set_set]
end
end DS
namespace DS
open PySem PySem.Spec PyProof.Rows L2

/-- nothing that guards itself against going round runs -/
abbrev Quiet (A : Around) : Prop := A.guards = some []
/-- a def's promise, asked only where it is quiet -/
structure FnG (P : Program) (w : World) (K : PySem.W.Frag) (mg : Str → Option Value) (base : Heap) (CX : CXT) (k : Nat) (f : Addr) (fd : FuncData) (ps : List Str) (sp : Sp) : Prop where
  len : ∀ vs H Q E, sp vs H Q E → vs.length = ps.length
  go : ∀ (A : Around) (outer : List Env) (s : Shared) (H : Hp) (args : Args) (us : List Value) (vs : List V) (Q : VK) (E : XK), Quiet A → Room k A → Env0 P w K mg base A outer s H → BindsTo s fd args (ps.zip us) → Vals vs us → sp vs H Q E →
    codeAny (model P w) A (.call (.ref f) args) (CR CX outer P w H s Q E) s
section
variable {P : Program} {w : World} {K : PySem.W.Frag} {mg : Str → Option Value} {base : Heap} {CX : CXT} {j k : Nat} {f C : Addr} {fd : FuncData} {ps : List Str} {sp : Sp}
theorem FnG.of (F : FnOk P w K mg base CX k f fd ps sp) : FnG P w K mg base CX k f fd ps sp := ⟨F.len, fun A outer s H args us vs Q E _ => F.run A outer s H args us vs Q E⟩
theorem FnG.mono (F : FnG P w K mg base CX j f fd ps sp) (h : j ≤ k) : FnG P w K mg base CX k f fd ps sp := ⟨F.len, fun A outer s H args us vs Q E g r => F.go A outer s H args us vs Q E g (r.mono h)⟩
theorem FnG.imp {sp' : Sp} (F : FnG P w K mg base CX k f fd ps sp) (h : ∀ vs H Q E, sp' vs H Q E → sp vs H Q E) : FnG P w K mg base CX k f fd ps sp' :=
  ⟨fun vs H Q E q => F.len vs H Q E (h vs H Q E q), fun A outer s H args us vs Q E g r e b v q => F.go A outer s H args us vs Q E g r e b v (h vs H Q E q)⟩
/-- a promise that holds nowhere costs nothing: for induction on levels -/
theorem FnG.no (f : Addr) (fd : FuncData) (ps : List Str) : FnG P w K mg base CX k f fd ps (fun _ _ _ _ => False) := ⟨fun _ _ _ _ h => False.elim h, fun _ _ _ _ _ _ _ _ _ _ _ _ _ _ h => False.elim h⟩
end
theorem quiet_make {A : Around} (h : Quiet A) (C : Addr) (us : List Value) (kw : List (Str × Value)) : Quiet (A.under (.builtin "type.__call__" ⟨.ref C :: us, kw⟩)) := by
  have e : (Code.builtin "type.__call__" ⟨.ref C :: us, kw⟩).guards = [] := by
    unfold Code.guards
    rw [if_neg]
    simp [Code.isGuard, guardIds]
  show pushGuards (Code.builtin "type.__call__" ⟨.ref C :: us, kw⟩).guards A.guards = some []
  rw [e]
  exact h

section
variable {CX : CXT} {P : Program} {w : World} {K : PySem.W.Frag} {mg : Str → Option Value} {base : Heap}
/-- the def's body, walked where it is quiet -/
theorem fnG_of {k : Nat} {f : Addr} {name qual : Str} {params : Arguments} {body : List Stmt} {scope : Scope} {dV kV doc pm cdv ct oc : Value} {an od : Option Addr} {osl : Array (Option Value)} {N ps : List Str} {sp : Sp}
    (lk : K.lookup f = some ⟨oc, od, .func (PySem.W.fnOf name qual params body scope dV kV doc pm an cdv ct), osl⟩) (hcd : PySem.W.codeIn K cdv qual = true) (S : FnScope N ps scope) (len : ∀ vs H Q E, sp vs H Q E → vs.length = ps.length)
    (walk : ∀ (A : Around) (outer : List Env) (s : Shared) (H : Hp) (vs : List V) (Q : VK) (E : XK), Quiet A → Room k (A.deeper (envOfC qual scope s.heap.objs.size f cdv)) → sp vs H Q E →
      ∃ t, PSs (cxOf CX P w K mg base N qual scope f cdv A outer s H E) body t ∧ t { nx := fun _ H' => Q .non H', rt := Q } (L2.start N vs) H) :
    FnG P w K mg base CX (k + 1) f (PySem.W.fnOf name qual params body scope dV kV doc pm an cdv ct) ps sp where
  len := len
  go := fun A outer s H args us vs Q E quiet room e0 binds rel want => by
    have count := len vs H Q E want
    have old := fun b o e => (e0.bs b o e).1
    have here : K.In s.heap := e0.mod.kin.keeps old
    have kinds : ∀ y ∈ ps.zip us, scope.names.lookup y.1 = some .local ∨ (scope.names.lookup y.1 = some .cell ∧ ((cellsFrom (s.heap.objs.size + 1) scope.names []).lookup y.1).isSome = true) := by
      rintro ⟨n, v⟩ hy
      exact (S.par n (List.of_mem_zip hy).1).imp id fun z => ⟨z, PySem.W.cellsFrom_some _ _ _ (.inl z)⟩
    refine codeAny_call_function room.depth (here _ _ lk) rfl S.co S.gen rfl (PySem.W.codeRec_of here hcd) (binds _ _ _ _ ?_)
    refine wpAny_newFunctionEnv_cells S.kind kinds fun env he s1 within => ?_
    subst he
    refine ⟨(e0.mod.nolimit.keeps old).keeps within.toInCall.keep, codeAny_func ?_⟩
    obtain ⟨t, walked, read⟩ := walk A outer s H vs Q E quiet (room.deeper _) want
    have I := inv_start (CX := CX) (E := E) S room.hd e0 count rel within
    refine wpAny_mono (walked.run [] s1 (start N vs) H _ I read) (fun out s' got => ?_) fun _ _ z => z
    have done : ∀ {σ' : L2.St} {H' : Hp} {v : V} {u : Value}, Inv (cxOf CX P w K mg base N qual scope f cdv A outer s H E) [] σ' H' s' → RelV v u → Q v H' → CE outer P w H s Q u s' :=
      fun {_ H' v _} J rv q => ⟨v, H', J.os, J.bare, J.base, J.hok, rv, q⟩
    match out, got with
    | .ret u, ⟨v, _, _, J, rv, q⟩ => exact done J rv q
    | .next, ⟨_, _, J, q⟩ => exact done (v := V.non) (u := Value.none) J rfl q
    | .brk, ⟨_, _, _, q⟩ => exact False.elim q
    | .cont, ⟨_, _, _, q⟩ => exact False.elim q
end

section
variable {X : Cx} {CX : CXT} {k : Nat} {f C : Addr} {fd : FuncData} {ps ks : List Str} {sp : Sp} {dvs : List V} {ds : List Value} {E : XK} {x m : Str} {p pos apos : Pos} {e o : Expr} {es : List Expr} {kws : List Keyword} {ta : TE} {t tk : TA}
def GEnd (X : Cx) (pins : List (Addr × Obj)) (σ : L2.St) (Q : VK) : Result → Shared → Prop
  | .ok (.ret u), s' => EP X pins σ Q u s'
  | .ok _, _ => False
  | .error u, s' => X.xe u s'
theorem run_g {pins : List (Addr × Obj)} {σ : L2.St} {H : Hp} {s : Shared} {Q : VK} {us : List Value} {vs : List V} {args : Args} (F : FnG X.prog X.w X.K X.mg X.base CX k f fd ps sp) (hq : Quiet X.A) (hr : Room k X.A) (hx : Passes CX X E)
    (I : Inv X pins σ H s) (hb : BindsTo s fd args (ps.zip us)) (r : Vals vs us) (h : sp vs H Q E) : codeAny (model X.prog X.w) X.A (.call (.ref f) args) (GEnd X pins σ Q) s := by
  refine codeAny_mono (F.go X.A X.stack s H args us vs Q E hq hr I.env0 hb r h) fun out s' z => ?_
  match out, z with
  | .error u, z => exact hx pins σ H s u s' I z
  | .ok (.ret u), z => exact I.after z
  | .ok .next, z => exact False.elim z
  | .ok .brk, z => exact False.elim z
  | .ok .cont, z => exact False.elim z
theorem call_g {pins : List (Addr × Obj)} {σ : L2.St} {H : Hp} {s : Shared} {Q : VK} {us : List Value} {vs : List V} (F : FnG X.prog X.w X.K X.mg X.base CX k f fd ps sp) (hq : Quiet X.A) (hr : Room k X.A) (hb : Binds X.K fd ps ds) (hd : Vals dvs ds) (hx : Passes CX X E)
    (I : Inv X pins σ H s) (r : Vals vs us) (h : sp (vs ++ dvs) H Q E) : wpAny (model X.prog X.w) X.A (call (.ref f) us) (EP X pins σ Q) X.xe s := by
  have r2 := r.append hd
  have count : (us ++ ds).length = ps.length := r2.length.symm.trans (F.len _ _ _ _ h)
  refine wpAny_call (codeAny_mono (run_g (args := ⟨us, []⟩) F hq hr hx I (hb s us I.kIn count) r2 h) fun out s' z => ?_)
  match out, z with
  | .error _, z => exact z
  | .ok (.ret _), z => exact z
  | .ok .next, z => exact False.elim z
  | .ok .brk, z => exact False.elim z
  | .ok .cont, z => exact False.elim z
/-- f(e, ..) -/
theorem pe_g (F : FnG X.prog X.w X.K X.mg X.base CX k f fd ps sp) (hq : Quiet X.A) (hr : Room k X.A) (hg : Gl X x) (hm : X.mg x = some (.ref f)) (hk : PySem.W.keepIn X.K (.ref f) = true) (hb : Binds X.K fd ps ds) (hd : Vals dvs ds) (hx : Passes CX X E)
    (ha : PA X (e :: es) t) (hdb : (x == ("__debug__" : Str)) = false := by decide) (he : starEach (e :: es) X.env = (false, eval e X.env) :: starEach es X.env := by rfl) (hpl : (backTo pos (starEach es X.env)).any (·.1) = false := by rfl) :
    PE X (.Call (.Name x p) (e :: es) [] pos) (tCall sp dvs E t) :=
  ⟨fun pins s σ H Q I h => wpAny_Call_Name_kw (ld_glob I hg hm (PySem.W.callWith_K (h₀ := X.base) I.ok.mod.kin hk (thn (ha.run pos pins s σ H _ I h) fun _ _ ⟨_, _, I1, r, q⟩ => ⟨I1.kIn, call_g F hq hr hb hd hx I1 r q⟩) he hpl) hdb)⟩
/-- f(e, .., k = e, ..); no positional one: es may be empty -/
theorem callk_g {g : List Value → List Value → List Value} {gV : List V → List V → List V} {pins : List (Addr × Obj)} {σ : L2.St} {H : Hp} {s : Shared} {Q : VK} {us ws : List Value} {vs zs : List V} (F : FnG X.prog X.w X.K X.mg X.base CX k f fd ps sp) (hq : Quiet X.A) (hr : Room k X.A)
    (hb : KBinds X.K fd ps ks g gV) (hx : Passes CX X E) (I : Inv X pins σ H s) (r : Vals vs us) (rz : Vals zs ws) (h : sp (gV vs zs) H Q E) : wpAny (model X.prog X.w) X.A (call (.ref f) us (ks.zip ws)) (EP X pins σ Q) X.xe s := by
  have r2 := hb.rel r rz
  have count : (g us ws).length = ps.length := r2.length.symm.trans (F.len _ _ _ _ h)
  refine wpAny_call (codeAny_mono (run_g (args := ⟨us, ks.zip ws⟩) F hq hr hx I (hb.to s us ws I.kIn count) r2 h) fun out s' z => ?_)
  match out, z with
  | .error _, z => exact z
  | .ok (.ret _), z => exact z
  | .ok .next, z => exact False.elim z
  | .ok .brk, z => exact False.elim z
  | .ok .cont, z => exact False.elim z
end

abbrev DSp := List SD → Mu → (SD → Mu → Prop) → DXK → Prop
/-- the own dict of an exception, by what it holds -/
def XRep (K : PySem.W.Frag) (F H : Hp) (od : Option Addr) (fs : List (Str × SD)) : Prop :=
  (od = none ∧ fs = []) ∨ ∃ d vs, od = some d ∧ H d = some (.xd vs) ∧ vs.map (·.1) = fs.map (·.1) ∧ RepL K F (fs.map (·.2)) (vs.map (·.2))
def LSp (K : PySem.W.Frag) (sp : DSp) : Sp := fun vs H Q E => ∃ F μ ds Q' E', HReal K F H μ ∧ RepL K F ds vs ∧ sp ds μ Q' E' ∧
  (∀ d μ', Q' d μ' → ∀ F' H' v, Stp F H μ F' H' μ' → HReal K F' H' μ' → RepS K F' d v → Q v H') ∧
  (∀ C fs μ', E' C fs μ' → ∀ F' H' od, Stp F H μ F' H' μ' → HReal K F' H' μ' → XRep K F' H' od fs → E (.ref C) od H')
abbrev dCall (sp : DSp) (dvs : List SD) (t : DTA) : DTE := fun ρ μ Q => t ρ μ fun ds μ1 => sp (ds ++ dvs) μ1 Q fun _ _ _ => False
section
variable {X : Cx} {k : Nat} {f C : Addr} {fd : FuncData} {ps ks : List Str} {sp : DSp} {dvs : List SD} {dvV : List V} {dv : List Value} {x m : Str} {p pos apos : Pos} {a e o : Expr} {es : List Expr} {kws : List Keyword} {ta : DTE} {t tk : DTA}
theorem RepL.plain {K : PySem.W.Frag} {F : Hp} : ∀ {ds : List SD} {vs : List V}, Paired (fun d v => plain d = some v) ds vs → RepL K F ds vs
  | _, _, .nil => .nil
  | _, _, .cons h r => .cons (RepS.plain h) (RepL.plain r)
/-- a call of a def that lets nothing out -/
theorem de_call {CX : CXT} (F : FnG X.prog X.w X.K X.mg X.base CX k f fd ps (LSp X.K sp)) (hq : Quiet X.A) (hr : Room k X.A) (hg : Gl X x) (hm : X.mg x = some (.ref f)) (hk : PySem.W.keepIn X.K (.ref f) = true) (hb : Binds X.K fd ps []) (hx : Passes CX X E0)
    (ha : DA X (e :: es) t) (hdb : (x == ("__debug__" : Str)) = false := by decide) (he : starEach (e :: es) X.env = (false, eval e X.env) :: starEach es X.env := by rfl) (hpl : (backTo pos (starEach es X.env)).any (·.1) = false := by rfl) :
    DE X (.Call (.Name x p) (e :: es) [] pos) (dCall sp [] t) := weakE (pe_g (E := E0) F hq hr hg hm hk hb .nil hx ha hdb he hpl) fun σ H Q h => by
  obtain ⟨F, ρ, μ, Q', R, S, t, k⟩ := h
  refine ⟨F, ρ, μ, _, R, S, t, fun ds μ1 t1 F1 H1 vs s1 R1 r1 => ?_⟩
  refine ⟨F1, μ1, ds, Q', _, R1, by rw [List.append_nil]; exact r1, by rw [List.append_nil] at t1; exact t1, fun d μ' q F' H' v s R' r' => k d μ' q F' H' v (s1.trans s) R' r', fun _ _ _ q => False.elim q⟩
end

/-- the slots at a def's entry -/
def begin_ (N : List Str) (ds : List SD) : Rho := ds.map some ++ List.replicate (N.length - ds.length) none
theorem slots_begin {K : PySem.W.Frag} {F : Hp} {N : List Str} {ds : List SD} {vs : List V} (r : RepL K F ds vs) : Slots K F (L2.start N vs) (begin_ N ds) := by
  have hl := r.length
  refine ⟨by simp [L2.start, begin_, hl], fun i d e => ?_⟩
  unfold begin_ at e
  by_cases hi : i < ds.length
  · rw [List.getElem?_append_left (by simpa using hi), List.getElem?_map] at e
    cases q : ds[i]? with
    | none => rw [q] at e; cases e
    | some d' =>
      rw [q] at e
      cases e
      obtain ⟨v, h1, h2⟩ := r.get q
      refine ⟨v, ?_, h2⟩
      unfold L2.start
      rw [List.getElem?_append_left (by simpa [← hl] using hi), List.getElem?_map, h1]
      rfl
  · rw [List.getElem?_append_right (by simpa using Nat.le_of_not_lt hi), List.getElem?_replicate] at e
    split at e <;> cases e
section
variable {P : Program} {w : World} {K : PySem.W.Frag} {mg : Str → Option Value} {base : Heap}
/-- a def that lets nothing out -/
theorem def_ok {x qual : Str} {st : Stmt} {f : Addr} {fd : FuncData} {N ps : List Str} {k : Nat} {sp : DSp} (F : Fun K x qual st f fd) (S : FnScope N ps (defScope st)) (t : DTS) (len : ∀ ds μ Q E, sp ds μ Q E → ds.length = ps.length)
    (walk : ∀ (cdv : Value) (A : Around) (outer : List Env) (s : Shared) (H : Hp) (E : XK), Quiet A → Room k (A.deeper (envOfC qual (defScope st) s.heap.objs.size f cdv)) →
      DSs (cxOf CX0 P w K mg base N qual (defScope st) f cdv A outer s H E).nox (defBody st) t)
    (read : ∀ ds μ Q E, sp ds μ Q E → t { nx := fun _ μ' => Q .non μ', rt := Q } (begin_ N ds) μ) : FnG P w K mg base CX0 (k + 1) f fd ps (LSp K sp) := by
  obtain ⟨oc, od, kV, doc, pm, an, cdv, ct, osl, rfl, lk, hcd⟩ := F.ex
  refine fnG_of lk hcd S (fun vs H Q E h => ?_) fun A outer s H vs Q E quiet room want => ?_
  · obtain ⟨F, μ, ds, Q', E', _, r, q, _⟩ := h
    rw [← r.length]; exact len ds μ Q' E' q
  · obtain ⟨F, μ, ds, Q', E', R, r, q, k1, _⟩ := want
    refine ⟨_, (walk cdv A outer s H E quiet room).nox, F, begin_ N ds, μ, _, R, slots_begin r, read ds μ Q' E' q, ?_, k1, fun _ _ z => False.elim z, fun _ _ z => False.elim z⟩
    exact fun ρ' μ' q F' H' σ' s' R' _ => k1 .non μ' q F' H' .non s' R' .non
end
end DS
namespace DS
open PySem PySem.Spec PyProof.Rows L2

section
variable {K : PySem.W.Frag} {F H : Hp} {μ : Mu} {p : Addr}
theorem HReal.aside (R : HReal K F H μ) {o : HO} (hF : F p = none) (hM : μ p = none) : HReal K F (upd H p o) μ :=
  ⟨fun a u e => by rw [upd_ne (ne_of_none e hF)]; exact R.sub a u e, fun a m e => by
    obtain ⟨z, u, q, r⟩ := R.mus a m e
    exact ⟨z, u, by rw [upd_ne (mu_ne e hM)]; exact q, r⟩⟩
theorem HReal.adopt (R : HReal K F H μ) {o : HO} (hF : F p = none) (hM : μ p = none) (hH : H p = some o) : HReal K (upd F p o) H μ :=
  ⟨fun a u e => by
    by_cases ha : a = p
    · subst ha; rw [upd_same] at e; cases e; exact hH
    · rw [upd_ne ha] at e; exact R.sub a u e, fun a m e => by
    obtain ⟨z, u, q, r⟩ := R.mus a m e
    exact ⟨by rw [upd_ne (mu_ne e hM)]; exact z, u, q, r.mono (Ext.new hF)⟩⟩
theorem HReal.adoptM (R : HReal K F H μ) {o : HO} {m : MO} (hF : F p = none) (hH : H p = some o) (r : RepO K F m o) : HReal K F H (up μ p m) :=
  ⟨R.sub, fun a n e => by
    by_cases ha : a = p
    · subst ha; rw [up_same] at e; cases e; exact ⟨hF, o, hH, r⟩
    · rw [up_ne ha] at e; exact R.mus a n e⟩
end

/-- a target that touches own slots alone, with its datum's reading -/
structure OwnG (K : PySem.W.Frag) (g : TG) (dg : DTG) (vs : List Nat) : Prop where
  lift : ∀ v σ H Q F ρ μ d Q', HReal K F H μ → Slots K F σ ρ → RepS K F d v → dg d ρ μ Q' →
    (∀ ρ' μ', Q' ρ' μ' → ∀ F' H' σ', Stp F H μ F' H' μ' → HReal K F' H' μ' → Slots K F' σ' ρ' → wipe σ' vs = wipe σ vs → Q σ' H') → g v σ H Q
theorem own_name {K : PySem.W.Frag} {i : Nat} {vs : List Nat} (h : i ∈ vs) : OwnG K (gName i) (hName i) vs :=
  ⟨fun v σ H Q F ρ μ d Q' R S r t k => k _ μ t F H _ (Stp.refl F H μ) R (S.set i r) (wipe_set σ _ h)⟩
def hNames : List Nat → DTGs
  | [] => hNil
  | i :: r => hCons (hName i) (hNames r)
def gNames : List Nat → TGs
  | [] => gNil
  | i :: r => gCons (gName i) (gNames r)
theorem own_names {K : PySem.W.Frag} {F H : Hp} {μ : Mu} {vs : List Nat} (R : HReal K F H μ) : ∀ (is : List Nat), (∀ i ∈ is, i ∈ vs) → ∀ (xs : List V) (ds : List SD) (σ : L2.St) (ρ : Rho) (Q : L2.St → Hp → Prop) (Q' : Rho → Mu → Prop),
    Slots K F σ ρ → RepL K F ds xs → hNames is ds ρ μ Q' → (∀ ρ' μ', Q' ρ' μ' → ∀ F' H' σ', Stp F H μ F' H' μ' → HReal K F' H' μ' → Slots K F' σ' ρ' → wipe σ' vs = wipe σ vs → Q σ' H') → gNames is xs σ H Q
  | [], _, xs, ds, σ, ρ, Q, Q', S, r, t, k => by
    obtain ⟨rfl, t⟩ := t
    cases r
    exact ⟨rfl, k ρ μ t F H σ (Stp.refl F H μ) R S rfl⟩
  | i :: is, h, xs, ds, σ, ρ, Q, Q', S, r, t, k => by
    cases r with
    | nil => exact False.elim t
    | cons r rr =>
      refine ⟨_, _, rfl, own_names R is (fun j hj => h j (List.mem_cons_of_mem _ hj)) _ _ _ _ Q Q' (S.set i r) rr t fun ρ' μ' q F' H' σ' s R' S' e => ?_⟩
      exact k ρ' μ' q F' H' σ' s R' S' (e.trans (wipe_set σ _ (h i List.mem_cons_self)))
theorem own_tup {K : PySem.W.Frag} {n : Nat} {is vs : List Nat} (h : ∀ i ∈ is, i ∈ vs) : OwnG K (gTup K n (gNames is)) (hTup n (hNames is)) vs :=
  ⟨fun v σ H Q F ρ μ d Q' R S r t k => by
    cases r with
    | tup hh r => exact ⟨_, _, rfl, R.ext.sqT hh, by rw [← r.length]; exact t.1, own_names R is h _ _ σ ρ Q Q' S r t.2 k⟩
    | _ => exact False.elim t⟩
def dLc (wi : DTI) (g : DTG) (tt : DTT) (te : DTE) (vs : List Nat) : Rho → Mu → (List SD → Mu → Prop) → Prop := fun ρ μ Q => wi ρ μ fun ds ok μ1 => ds.length ≤ sizeLine ∧ ∃ W : Nat → List SD → Mu → Prop, W 0 [] μ1 ∧
  (∀ i acc μ, i ≤ ds.length → W i acc μ → ok μ) ∧ (∀ i d acc μ, ds[i]? = some d → W i acc μ → g d (wipeR ρ vs) μ fun ρ2 μ2 => tt ρ2 μ2 fun b μ3 => if b = true then te ρ2 μ3 fun y μ4 => W (i + 1) (acc ++ [y]) μ4 else W (i + 1) acc μ3) ∧
  ∀ acc μ, W ds.length acc μ → Q acc μ
/-- the new list will not change | may change -/
def dLcS (wi : DTI) (g : DTG) (tt : DTT) (te : DTE) (vs : List Nat) : DTE := fun ρ μ Q => dLc wi g tt te vs ρ μ fun acc μ' => Q (.lst acc) μ'
theorem liftLc {K : PySem.W.Frag} {wi : DTI} {g : TG} {dg : DTG} {tt : DTT} {te : DTE} {vs : List Nat} (og : OwnG K g dg vs) {σ : L2.St} {H F : Hp} {ρ : Rho} {μ : Mu} {Q : VK} {Q' : List SD → Mu → Prop} (R : HReal K F H μ) (S : Slots K F σ ρ) (t : dLc wi dg tt te vs ρ μ Q')
    (k : ∀ acc μ', Q' acc μ' → ∀ F' H' p ws, Stp F H μ F' H' μ' → HReal K F' H' μ' → F' p = none → μ' p = none → H' p = some (.lst ws) → RepL K F' acc ws → (∀ a, H a ≠ none → F a = none → μ a = none → a ≠ p) → Q (.ref p) H') : tLc (LI K wi) g (LT K tt) (LE K te) vs σ H Q := by
  refine ⟨F, ρ, μ, _, R, S, t, fun ds ok μ1 t1 F1 H1 J s1 R1 src D hD => ?_⟩
  obtain ⟨hlen, W, w0, hok, turn, fin⟩ := t1
  have hDF := R1.freeF hD
  have hDM := R1.freeM hD
  refine ⟨fun i m H' => i + m = ds.length ∧ ∃ F μ acc ws, Stp F1 H1 μ1 F H' μ ∧ HReal K F H' μ ∧ F D = none ∧ μ D = none ∧ H' D = some (.lst ws) ∧ RepL K F acc ws ∧ acc.length ≤ i ∧ W i acc μ, ⟨ds.length, by omega, F1, μ1, [], [], ?_, R1.aside hDF hDM, hDF, hDM, upd_same, .nil, Nat.le_refl _, w0⟩, ?_⟩
  · exact ⟨Ext.refl _, fun a h1 h2 h3 => ⟨upd_ne (fun z => by subst z; exact h1 hD), h2, h3⟩⟩
  rintro i m H' ⟨him, F2, μ2, acc, ws, s2, R2, f2, m2, hH2, r2, hacc, w2⟩
  have hle : i ≤ ds.length := by omega
  by_cases hi : i < ds.length
  · refine .inr ⟨src.go i F2 H' μ2 s2 R2 (hok i acc μ2 hle w2) hi, fun H3 => ∃ F μ acc ws, Stp F1 H1 μ1 F H3 μ ∧ HReal K F H3 μ ∧ F D = none ∧ μ D = none ∧ H3 D = some (.lst ws) ∧ RepL K F acc ws ∧ acc.length ≤ i + 1 ∧ W (i + 1) acc μ, ?_, ?_⟩
    · rintro H3 ⟨F3, μ3, acc3, ws3, z⟩
      exact ⟨ds.length - (i + 1), by omega, by omega, F3, μ3, acc3, ws3, z⟩
    · intro x H3 y
      obtain ⟨F3, s3, R3, r3⟩ := src.yld i F2 H' μ2 x H3 s2 R2 (hok i acc μ2 hle w2) y _ (List.getElem?_eq_getElem hi)
      obtain ⟨e3, f3, m3⟩ := s3.fr D (by rw [hH2]; exact fun z => nomatch z) f2 m2
      have S3 : Slots K F3 (wipe σ vs) (wipeR ρ vs) := ((S.mono (s1.ext.trans s2.ext)).mono s3.ext).wipe vs
      refine og.lift x _ H3 _ F3 _ μ2 _ _ R3 S3 r3 (turn i _ acc μ2 (List.getElem?_eq_getElem hi) w2) fun ρ4 μ4 t4 F4 H4 σ4 s4 R4 S4 e4 => ⟨e4.trans ?_, ?_⟩
      · have idem : ∀ (τ : L2.St) (us : List Nat), (∀ i ∈ us, τ[i]? = none ∨ τ[i]? = some none) → wipe τ us = τ := by
          intro τ us
          induction us with
          | nil => intro _; rfl
          | cons a r ih =>
            intro hz
            show (wipe τ r).set a none = τ
            rw [ih fun i hi => hz i (List.mem_cons_of_mem _ hi)]
            rcases hz a List.mem_cons_self with q | q
            · exact List.set_eq_of_length_le (List.getElem?_eq_none_iff.mp q)
            · apply List.ext_getElem?
              intro j
              by_cases hj : j = a
              · subst hj
                obtain ⟨hl, _⟩ := List.getElem?_eq_some_iff.mp q
                rw [List.getElem?_set_self hl, q]
              · rw [List.getElem?_set_ne (Ne.symm hj)]
        refine idem _ _ fun i hi => ?_
        have done : ∀ (us : List Nat), i ∈ us → (wipe σ us)[i]? = none ∨ (wipe σ us)[i]? = some none := by
          intro us
          induction us with
          | nil => intro h; cases h
          | cons a r ih =>
            intro h
            show ((wipe σ r).set a none)[i]? = none ∨ ((wipe σ r).set a none)[i]? = some none
            by_cases e : a = i
            · subst e
              by_cases hl : a < (wipe σ r).length
              · exact .inr (List.getElem?_set_self hl)
              · exact .inl (List.getElem?_eq_none (by simpa using Nat.le_of_not_lt hl))
            · rw [List.getElem?_set_ne e]
              exact ih ((List.mem_cons.mp h).resolve_left (fun z => e z.symm))
        exact done vs hi
      · obtain ⟨e5, f5, m5⟩ := s4.fr D (by rw [e3, hH2]; exact fun z => nomatch z) f3 m3
        refine ⟨F4, ρ4, μ4, _, R4, S4, t4, fun b μ6 t6 F6 H6 s6 R6 => ?_⟩
        obtain ⟨e7, f7, m7⟩ := s6.fr D (by rw [e5, e3, hH2]; exact fun z => nomatch z) f5 m5
        have at6 : H6 D = some (.lst ws) := by rw [e7, e5, e3, hH2]
        have st6 := ((s2.trans s3).trans s4).trans s6
        have ext6 : Ext F2 F6 := (s3.ext.trans s4.ext).trans s6.ext
        cases b with
        | false => exact ⟨F6, μ6, acc, ws, st6, R6, f7, m7, at6, r2.mono ext6, Nat.le_succ_of_le hacc, t6⟩
        | true =>
          refine ⟨F6, ρ4, μ6, _, R6, S4.mono s6.ext, t6, fun d μ8 t8 F8 H8 v s8 R8 r8 => ?_⟩
          obtain ⟨e9, f9, m9⟩ := s8.fr D (by rw [at6]; exact fun z => nomatch z) f7 m7
          have at8 : H8 D = some (.lst ws) := e9.trans at6
          have ra : RepL K F8 acc ws := r2.mono (ext6.trans s8.ext)
          refine ⟨ws, at8, by rw [← ra.length]; exact Nat.lt_of_le_of_lt hacc (Nat.lt_of_lt_of_le hi hlen), F8, μ8, acc ++ [d], ws ++ [v], ?_, R8.aside f9 m9, f9, m9, upd_same, ra.append (.one r8), ?_, t8⟩
          · refine ⟨(st6.trans s8).ext, fun a h1 h2 h3 => ?_⟩
            have ha : a ≠ D := fun z => by subst z; exact h1 hD
            obtain ⟨q1, q2, q3⟩ := (st6.trans s8).fr a h1 h2 h3
            exact ⟨(upd_ne ha).trans q1, q2, q3⟩
          · rw [List.length_append]; exact Nat.succ_le_succ hacc
  · have e : i = ds.length := by omega
    subst e
    refine .inl ⟨src.stop F2 H' μ2 s2 R2 (hok _ acc μ2 hle w2), ?_⟩
    refine k acc μ2 (fin acc μ2 w2) F2 H' D ws (s1.trans s2) R2 f2 m2 hH2 r2 fun a ha hb hc z => ?_
    subst z
    exact ha ((s1.fr a ha hb hc).1.symm.trans hD)
end DS
namespace DS
open PySem PySem.Spec PyProof.Rows L2
section
variable {X : Cx} {pos p spos py : Pos} {a b c e o iter tg elt : Expr} {es ifs : List Expr} {x y : Str} {scope : Scope} {own : List (Str × Nat)} {wi : DTI} {g : TG} {dg : DTG} {tt : DTT} {te : DTE}
abbrev DTs (X : Cx) (ifs : List Expr) (t : DTT) : Prop := PTs X ifs (LT X.K t)
abbrev dYes : DTT := fun _ μ Q => Q true μ
theorem dts_nil : DTs X [] dYes := ⟨fun pins s σ H Q I h => by
  obtain ⟨F, ρ, μ, Q', R, S, t, k⟩ := h
  exact pts_nil.run pins s σ H Q I (k true μ t F H (Stp.refl F H μ) R)⟩
theorem lcS {K : PySem.W.Frag} {vs : List Nat} (og : OwnG K g dg vs) : ∀ σ H Q, LE K (dLcS wi dg tt te vs) σ H Q → tLc (LI K wi) g (LT K tt) (LE K te) vs σ H Q := fun σ H Q h => by
  obtain ⟨F, ρ, μ, Q', R, S, t, k⟩ := h
  refine liftLc og R S t fun acc μ' q F' H' p ws s R' f m hp r ne => ?_
  have ex : Ext F' (upd F' p (.lst ws)) := Ext.new f
  refine k (.lst acc) μ' q (upd F' p (.lst ws)) H' (.ref p) ⟨s.ext.trans ex, fun a h1 h2 h3 => ?_⟩ (R'.adopt f m hp) (.lst upd_same (r.mono ex))
  obtain ⟨q1, q2, q3⟩ := s.fr a h1 h2 h3
  exact ⟨q1, by rw [upd_ne (ne a h1 h2 h3)]; exact q2, q3⟩
variable (hc : X.calm = true) (hN : X.N.Nodup) (ok : BlkOk X.N X.env.scope scope own) (og : OwnG X.K g dg (own.map (·.2))) (hi : DI X tg iter wi)
  (hg : ∀ (s : Shared) (H : Hp) (C : Addr) (cl : List (Str × Addr)) (fp : List Addr), PG (X.blk s H scope (compEnvC scope cl C X.env) fp) tg g)
  (ht : ∀ (s : Shared) (H : Hp) (C : Addr) (cl : List (Str × Addr)) (fp : List Addr), DTs (X.blk s H scope (compEnvC scope cl C X.env) fp) ifs tt)
  (he : ∀ (s : Shared) (H : Hp) (C : Addr) (cl : List (Str × Addr)) (fp : List Addr), DE (X.blk s H scope (compEnvC scope cl C X.env) fp) elt te)
include hc hN ok og hi hg ht he
theorem de_lc (hs : ∀ x, foldedSetIterable iter X.env x = pure x := by intro _; rfl) : DE X (.ListComp elt [⟨tg, iter, ifs, 0⟩] scope pos) (dLcS wi dg tt te (own.map (·.2))) := weakE (pe_lc hc hN hi ok hg ht he hs) (lcS og)
end

section
variable {X : Cx} {K : PySem.W.Frag}
def dAdd : DR2 := fun x y μ Q => match x with
  | .int i => match y with
    | .int j => Q (.int (i + j)) μ
    | _ => False
  | .str i => match y with
    | .str j => i.length + j.length ≤ sizeLine ∧ Q (.str (i ++ j)) μ
    | _ => False
  | .tup xs => match y with
    | .tup ys => xs.length + ys.length ≤ sizeLine ∧ Q (.tup (xs ++ ys)) μ
    | _ => False
  | x => match lstD μ x, lstD μ y with
    | some xs, some ys => xs.length + ys.length ≤ sizeLine ∧ Q (.lst (xs ++ ys)) μ
    | _, _ => False
def rAdd (K : PySem.W.Frag) : R2 := fun x y H Q => (∃ i j, x = .int i ∧ y = .int j ∧ Q (.int (i + j)) H) ∨ ((∃ i j, x = .str i ∧ y = .str j ∧ i.length + j.length ≤ sizeLine ∧ Q (.str (i ++ j)) H) ∨ (rCatA K x y H Q ∨ rCat x y H Q))
theorem opr_add : OpR X (binaryOp .Add) (rAdd X.K) := OpR.or op_add (OpR.or op_add_str (OpR.or op_catA op_cat))
theorem lr_add : LR2 K dAdd (rAdd K) := fun F H μ x y dx dy Q' Q R rx ry t k => by
  have lists : ∀ xs ys, lstD μ dx = some xs → lstD μ dy = some ys → xs.length + ys.length ≤ sizeLine ∧ Q' (.lst (xs ++ ys)) μ → rAdd K x y H Q := fun xs ys ex ey t => by
    obtain ⟨a, vs, rfl, ha, r1⟩ := R.lst rx ex
    obtain ⟨b, ws, rfl, hb, r2⟩ := R.lst ry ey
    refine .inr (.inr (.inr ⟨a, b, vs, ws, rfl, rfl, ha, hb, by rw [← r1.length, ← r2.length]; exact t.1, fun q hq => ?_⟩))
    exact k _ μ t.2 _ _ _ (Stp.newS R hq) (R.newS hq) (.lst upd_same ((r1.append r2).mono (Ext.new (R.freeF hq))))
  have fall : ∀ {b : Prop}, (match lstD μ dx, lstD μ dy with
    | some xs, some ys => xs.length + ys.length ≤ sizeLine ∧ Q' (.lst (xs ++ ys)) μ
    | _, _ => False) → rAdd K x y H Q := fun {b} t => by
    cases e1 : lstD μ dx with
    | none => rw [e1] at t; exact False.elim t
    | some xs => cases e2 : lstD μ dy with
      | none => rw [e1, e2] at t; exact False.elim t
      | some ys => rw [e1, e2] at t; exact lists xs ys e1 e2 t
  cases dx with
  | int i => cases dy with
    | int j => cases rx; cases ry; exact .inl ⟨i, j, rfl, rfl, k _ μ t F H _ (Stp.refl _ _ _) R (.int _)⟩
    | _ => exact False.elim t
  | str i => cases dy with
    | str j => cases rx; cases ry; exact .inr (.inl ⟨i, j, rfl, rfl, t.1, k _ μ t.2 F H _ (Stp.refl _ _ _) R (.str _)⟩)
    | _ => exact False.elim t
  | tup xs => cases dy with
    | tup ys =>
      cases rx with
      | tup h1 r1 => cases ry with
        | tup h2 r2 =>
          refine .inr (.inr (.inl ⟨_, _, _, _, rfl, rfl, R.ext.sqT h1, R.ext.sqT h2, by rw [← r1.length, ← r2.length]; exact t.1, fun z => ?_, fun _ z => ?_, fun _ _ q hq => ?_⟩))
          · have e := r1.nil_iff.mpr z
            subst e
            exact k _ μ t.2 F H _ (Stp.refl _ _ _) R (.tup h2 r2)
          · have e := r2.nil_iff.mpr z
            subst e
            have t2 := t.2
            rw [List.append_nil] at t2
            exact k _ μ t2 F H _ (Stp.refl _ _ _) R (.tup h1 r1)
          · exact k _ μ t.2 _ _ _ (Stp.newS R hq) (R.newS hq) (.tup (.inl (.inl upd_same)) ((r1.append r2).mono (Ext.new (R.freeF hq))))
    | _ => exact False.elim t
  | lst xs => exact fall (b := True) t
  | ref a => exact fall (b := True) t
  | _ => exact fall (b := True) t
def dSub : DR2 := fun x y μ Q => match x with
  | .int i => match y with
    | .int j => Q (.int (i - j)) μ
    | _ => False
  | _ => False
theorem lr_ints {dr : DR2} {C : Int → Int → Prop} {gg : Int → Int → V} {ff : Int → Int → SD} (hf : ∀ i j, plain (ff i j) = some (gg i j)) (h : ∀ x y μ Q, dr x y μ Q → ∃ i j, x = .int i ∧ y = .int j ∧ C i j ∧ Q (ff i j) μ) : LR2 K dr (rI C gg) := fun F H μ x y dx dy Q' Q R rx ry t k => by
  obtain ⟨i, j, rfl, rfl, hC, t2⟩ := h _ _ _ _ t
  cases rx; cases ry
  exact ⟨i, j, rfl, rfl, hC, k _ μ t2 F H _ (Stp.refl _ _ _) R (RepS.plain (hf i j))⟩
theorem lr_ints0 {dr : DR2} {gg : Int → Int → V} {ff : Int → Int → SD} (hf : ∀ i j, plain (ff i j) = some (gg i j)) (h : ∀ x y μ Q, dr x y μ Q → ∃ i j, x = .int i ∧ y = .int j ∧ Q (ff i j) μ) : LR2 K dr (rI0 gg) := fun F H μ x y dx dy Q' Q R rx ry t k => by
  obtain ⟨i, j, rfl, rfl, t2⟩ := h _ _ _ _ t
  cases rx; cases ry
  exact ⟨i, j, rfl, rfl, k _ μ t2 F H _ (Stp.refl _ _ _) R (RepS.plain (hf i j))⟩
theorem lr_sub : LR2 K dSub (rI0 fun i j => .int (i - j)) := lr_ints0 (ff := fun i j => .int (i - j)) (fun _ _ => rfl) fun x y μ Q t => by
  cases x <;> cases y <;> first | exact False.elim t | exact ⟨_, _, rfl, rfl, t⟩
/-- x * y: two ints; a text and an int; a list and an int -/
def repS (x : Str) (n : Nat) : Str := ⟨((List.replicate n x.cps.toList).flatten).toArray⟩
theorem foldl_app (a : Array Nat) : ∀ (n : Nat) (acc : Array Nat), (List.replicate n a).foldl (· ++ ·) acc = (acc.toList ++ (List.replicate n a.toList).flatten).toArray
  | 0, acc => by simp
  | n + 1, acc => by
    rw [List.replicate_succ, List.foldl_cons, foldl_app a n, List.replicate_succ, List.flatten_cons]
    simp
theorem repS_eq (x : Str) (n : Nat) : (⟨(List.replicate n x.cps).foldl (· ++ ·) #[]⟩ : Str) = repS x n := by
  unfold repS
  rw [foldl_app]
  simp
theorem repS_length (x : Str) (n : Nat) : (repS x n).length = x.length * n := by
  show ((List.replicate n x.cps.toList).flatten).toArray.size = x.cps.size * n
  simp [Nat.mul_comm]
theorem op_mulS : OpR X (binaryOp .Mult) (fun x y H Q => ∃ s j, x = .str s ∧ y = .int j ∧ (0 ≤ j ∧ j ≤ 1000000 ∧ s.length * j.toNat ≤ sizeLine) ∧ Q (.str (repS s j.toNat)) H) := by
  intro pins st σ H x y v u Q I rx ry h
  obtain ⟨s, j, rfl, rfl, ⟨h0, h1, h2⟩, q⟩ := h
  obtain ⟨t, rfl⟩ := rx
  obtain ⟨t', rfl⟩ := ry
  refine P.mul_str ?_ (fun a b z => ?_) (fun a b => ?_) ?_
  · rw [decide_eq_false (by omega), decide_eq_false (by omega)]; rfl
  · have hl : (sizeLine : Int) ≤ (2 ^ 63 - 1) / 1000000 := by decide
    have hj : 0 < j := by omega
    have hs : (s.length : Int) * j ≤ sizeLine := by
      have e : ((s.length * j.toNat : Nat) : Int) = (s.length : Int) * j := by rw [Int.natCast_mul, Int.toNat_of_nonneg h0]
      rw [← e]; exact Int.ofNat_le.mpr h2
    have h3 : (s.length : Int) * 1 ≤ (s.length : Int) * j := Int.mul_le_mul_of_nonneg_left (by omega) (Int.natCast_nonneg _)
    have h5 : (2 ^ 63 - 1) / 1000000 ≤ (2 ^ 63 - 1) / j := by
      apply Int.le_ediv_of_mul_le hj
      have : ((2 ^ 63 - 1) / 1000000 : Int) * j ≤ ((2 ^ 63 - 1) / 1000000 : Int) * 1000000 := Int.mul_le_mul_of_nonneg_left h1 (by decide)
      exact Int.le_trans this (by decide)
    omega
  · unfold Builtin.Str.tooLong
    simpa using h2
  · split
    · rename_i hlt
      have e : j = 0 := by omega
      subst e
      exact ⟨by decide, ⟨.str _, H, I.tok _, ⟨_, rfl⟩, q⟩⟩
    · split
      · rename_i hn hy
        have e : repS s j.toNat = s := by
          simp only [Bool.or_eq_true, beq_iff_eq] at hy
          rcases hy with hy | hy
          · subst hy; unfold repS; simp
          · have : s.cps = #[] := by
              have : s.cps.size = 0 := hy
              exact Array.eq_empty_of_size_eq_zero this
            obtain ⟨c⟩ := s
            simp only at this
            subst this
            unfold repS; simp
        rw [e] at q
        exact ⟨.str _, H, I, ⟨_, rfl⟩, q⟩
      · rw [repS_eq]
        exact ⟨by rw [repS_length]; exact h2, ⟨.str _, H, I.tok _, ⟨_, rfl⟩, q⟩⟩
end
end DS
namespace DS
open PySem PySem.Spec PyProof.Rows L2
mutual
def pdS : SD → Option PyData
  | .non => some .none
  | .bl b => some (.bool b)
  | .int i => some (.int i)
  | .str s => some (.str s)
  | .ref _ => none
  | .ty _ => none
  | .exc _ _ => none
  | .ptp _ => none
  | .tup xs => match pdL xs with
    | some ds => some (.tuple ds)
    | none => none
  | .lst xs => match pdL xs with
    | some ds => some (.list ds)
    | none => none
  | .rol xs => match pdL xs with
    | some ds => some (.list ds)
    | none => none
  | .dic _ => none
def pdL : List SD → Option (List PyData)
  | [] => some []
  | d :: r => match pdS d, pdL r with
    | some x, some y => some (x :: y)
    | _, _ => none
end
/-- .. of a list that may change, too -/
def pd (μ : Mu) : SD → Option PyData
  | .ref a => match μ a with
    | some (.lst xs) => match pdL xs with
      | some ds => some (.list ds)
      | none => none
    | _ => none
  | d => pdS d
section
variable {K : PySem.W.Frag} {F H : Hp} {μ : Mu}
mutual
theorem RepS.dp (ex : Ext F H) (sub : ∀ a o, F a = some o → H a = some o) : ∀ {d : SD} {v : V} {p : PyData}, RepS K F d v → pdS d = some p → Dp K H v p
  | _, _, _, .non, e => by cases e; exact .non
  | _, _, _, .bl b, e => by cases e; exact .bl b
  | _, _, _, .int b, e => by cases e; exact .int b
  | _, _, _, .str b, e => by cases e; exact .str b
  | _, _, _, .ref _, e => by cases e
  | _, _, _, .ty _, e => by cases e
  | .tup ds, _, _, .tup h r, e => by
    unfold pdS at e
    cases q : pdL ds with
    | none => rw [q] at e; cases e
    | some ps => rw [q] at e; cases e; exact .tup (ex.sqT h) (RepL.dp ex sub r q)
  | .lst ds, _, _, .lst h r, e => by
    unfold pdS at e
    cases q : pdL ds with
    | none => rw [q] at e; cases e
    | some ps => rw [q] at e; cases e; exact .lst (SqL.of (sub _ _ h)) (RepL.dp ex sub r q)
  | .rol ds, _, _, .rol h r, e => by
    unfold pdS at e
    cases q : pdL ds with
    | none => rw [q] at e; cases e
    | some ps => rw [q] at e; cases e; exact .lst (ex.sqL h) (RepL.dp ex sub r q)
  | _, _, _, .dic _ _ _, e => by cases e
  | _, _, _, .exc0 _ _, e => by cases e
  | _, _, _, .exc _ _ _ _ _, e => by cases e
  | _, _, _, .ptp _ _ _, e => by cases e
theorem RepL.dp (ex : Ext F H) (sub : ∀ a o, F a = some o → H a = some o) : ∀ {ds : List SD} {vs : List V} {ps : List PyData}, RepL K F ds vs → pdL ds = some ps → DpAll K H vs ps
  | _, _, _, .nil, e => by cases e; exact .nil
  | d :: ds, _, _, .cons h r, e => by
    unfold pdL at e
    cases q : pdS d with
    | none => rw [q] at e; cases e
    | some x => cases q2 : pdL ds with
      | none => rw [q, q2] at e; cases e
      | some y => rw [q, q2] at e; cases e; exact .cons (RepS.dp ex sub h q) (RepL.dp ex sub r q2)
end
theorem HReal.dp (R : HReal K F H μ) {d : SD} {v : V} {p : PyData} (r : RepS K F d v) (e : pd μ d = some p) : Dp K H v p := by
  cases r with
  | ref a =>
    unfold pd at e
    simp only at e
    cases q : μ a with
    | none => rw [q] at e; cases e
    | some m =>
      rw [q] at e
      obtain ⟨_, o, h, ro⟩ := R.mus a m q
      cases ro with
      | lst r =>
        rename_i ds vs
        cases q2 : pdL ds with
        | none => simp only [q2] at e; cases e
        | some ps => simp only [q2] at e; cases e; exact .lst (SqL.of h) (RepL.dp R.ext R.sub r q2)
      | _ => cases e
  | non => exact RepS.dp R.ext R.sub .non e
  | bl b => exact RepS.dp R.ext R.sub (.bl b) e
  | int b => exact RepS.dp R.ext R.sub (.int b) e
  | str b => exact RepS.dp R.ext R.sub (.str b) e
  | ty b => cases e
  | tup h r => exact RepS.dp R.ext R.sub (.tup h r) e
  | lst h r => exact RepS.dp R.ext R.sub (.lst h r) e
  | rol h r => exact RepS.dp R.ext R.sub (.rol h r) e
  | dic h q r => cases e
  | exc0 _ _ => cases e
  | exc _ _ _ _ _ => cases e
  | ptp _ _ _ => cases e
end
/-- x == y: none where it is not known -/
def eqD (μ : Mu) (x y : SD) : Option Bool := match x, y with
  | .str s, .str t => some (decide (s = t))
  | .int i, .int j => some (decide (i = j))
  | .bl i, .bl j => some (decide (i = j))
  | .non, .non => some true
  | .non, .str _ => some false
  | .str _, .non => some false
  | x, y => match pd μ x, pd μ y with
    | some p, some q => if SeqAt.shaped p = true ∧ SeqAt.shaped q = true then some (PyData.eqv p q) else none
    | _, _ => none
def dEq (neg : Bool) : DR2 := fun x y μ Q => match eqD μ x y with
  | some b => Q (.bl (neg != b)) μ
  | none => False
section
variable {X : Cx} {K : PySem.W.Frag}
def rEqA (K : PySem.W.Frag) : R2 := fun x y H Q => rEq x y H Q ∨ rEqD K x y H Q
def rNeA (K : PySem.W.Frag) : R2 := fun x y H Q => rNe x y H Q ∨ rNeD K x y H Q
theorem opr_eq (hu : X.A.units + 64 < cLine) : OpR X (compareOp .Eq) (rEqA X.K) := op_eq.or (op_eqD hu)
theorem opr_ne (hu : X.A.units + 64 < cLine) : OpR X (compareOp .NotEq) (rNeA X.K) := op_ne.or (op_neD hu)
theorem eqD_cases {μ : Mu} {x y : SD} {b : Bool} (h : eqD μ x y = some b) : (∃ v w, plain x = some v ∧ plain y = some w ∧ scal v w = true ∧ b = decide (v = w)) ∨ ∃ p q, pd μ x = some p ∧ pd μ y = some q ∧ SeqAt.shaped p = true ∧ SeqAt.shaped q = true ∧ b = PyData.eqv p q := by
  unfold eqD at h
  split at h
  · cases h; exact .inl ⟨_, _, rfl, rfl, rfl, by simp⟩
  · cases h; exact .inl ⟨_, _, rfl, rfl, rfl, by simp⟩
  · cases h; exact .inl ⟨_, _, rfl, rfl, rfl, by simp⟩
  · cases h; exact .inl ⟨_, _, rfl, rfl, rfl, by simp⟩
  · cases h; exact .inl ⟨_, _, rfl, rfl, rfl, by simp⟩
  · cases h; exact .inl ⟨_, _, rfl, rfl, rfl, by simp⟩
  · split at h
    · rename_i p q e1 e2
      split at h
      · rename_i hs
        cases h
        exact .inr ⟨p, q, e1, e2, hs.1, hs.2, rfl⟩
      · cases h
    · cases h
theorem lr_eq : LR2 K (dEq false) (rEqA K) := fun F H μ x y dx dy Q' Q R rx ry t k => by
  unfold dEq at t
  cases e : eqD μ dx dy with
  | none => rw [e] at t; exact False.elim t
  | some b =>
    rw [e] at t
    have t : Q' (.bl b) μ := by simpa using t
    rcases eqD_cases e with ⟨v, w, h1, h2, h3, rfl⟩ | ⟨p, q, h1, h2, h3, h4, rfl⟩
    · obtain rfl := rx.isPlain h1
      obtain rfl := ry.isPlain h2
      exact .inl ⟨h3, k _ μ t F H _ (Stp.refl _ _ _) R (.bl _)⟩
    · exact .inr ⟨p, q, R.dp rx h1, R.dp ry h2, h3, h4, k _ μ t F H _ (Stp.refl _ _ _) R (.bl _)⟩
theorem lr_ne : LR2 K (dEq true) (rNeA K) := fun F H μ x y dx dy Q' Q R rx ry t k => by
  unfold dEq at t
  cases e : eqD μ dx dy with
  | none => rw [e] at t; exact False.elim t
  | some b =>
    rw [e] at t
    have t : Q' (.bl (!b)) μ := by simpa using t
    rcases eqD_cases e with ⟨v, w, h1, h2, h3, rfl⟩ | ⟨p, q, h1, h2, h3, h4, rfl⟩
    · obtain rfl := rx.isPlain h1
      obtain rfl := ry.isPlain h2
      exact .inl ⟨h3, k _ μ t F H _ (Stp.refl _ _ _) R (.bl _)⟩
    · exact .inr ⟨p, q, R.dp rx h1, R.dp ry h2, h3, h4, k _ μ t F H _ (Stp.refl _ _ _) R (.bl _)⟩

def dCmp (fi : Int → Int → Bool) (fs : List Nat → List Nat → Bool) : DR2 := fun x y μ Q => match x with
  | .int i => match y with
    | .int j => Q (.bl (fi i j)) μ
    | _ => False
  | .str s => match y with
    | .str t => Q (.bl (fs s.cps.toList t.cps.toList)) μ
    | _ => False
  | _ => False
def rCmp (fi : Int → Int → Bool) (fs : List Nat → List Nat → Bool) : R2 := fun x y H Q => (∃ i j, x = .int i ∧ y = .int j ∧ Q (.bl (fi i j)) H) ∨ ∃ i j : Str, x = .str i ∧ y = .str j ∧ Q (.bl (fs i.cps.toList j.cps.toList)) H
theorem lr_cmp {fi : Int → Int → Bool} {fs : List Nat → List Nat → Bool} : LR2 K (dCmp fi fs) (rCmp fi fs) := fun F H μ x y dx dy Q' Q R rx ry t k => by
  cases dx with
  | int i => cases dy with
    | int j => cases rx; cases ry; exact .inl ⟨i, j, rfl, rfl, k _ μ t F H _ (Stp.refl _ _ _) R (.bl _)⟩
    | _ => exact False.elim t
  | str i => cases dy with
    | str j => cases rx; cases ry; exact .inr ⟨i, j, rfl, rfl, k _ μ t F H _ (Stp.refl _ _ _) R (.bl _)⟩
    | _ => exact False.elim t
  | _ => exact False.elim t
abbrev dLt : DR2 := dCmp (fun i j => decide (i < j)) fun s t => decide (s < t)
theorem opr_lt : OpR X (compareOp .Lt) (rCmp (fun i j => decide (i < j)) fun s t => decide (s < t)) := op_lt.or op_lt_str
theorem lr_lt : LR2 K dLt (rCmp (fun i j => decide (i < j)) fun s t => decide (s < t)) := lr_cmp

def rMul : R2 := fun x y H Q => rI IntMulOk (fun i j => .int (i * j)) x y H Q ∨ ((∃ s j, x = .str s ∧ y = .int j ∧ (0 ≤ j ∧ j ≤ 1000000 ∧ s.length * j.toNat ≤ sizeLine) ∧ Q (.str (repS s j.toNat)) H) ∨ rRep x y H Q)
theorem op_mulG : OpR X (binaryOp .Mult) (rI IntMulOk fun i j => .int (i * j)) := opI fun _ _ _ _ _ _ _ hc q => mul_int q hc
theorem opr_mul : OpR X (binaryOp .Mult) rMul := op_mulG.or (op_mulS.or op_rep)
def dMul : DR2 := fun x y μ Q => match y with
  | .int j => match x with
    | .int i => IntMulOk i j ∧ Q (.int (i * j)) μ
    | .str s => (0 ≤ j ∧ j ≤ 1000000 ∧ s.length * j.toNat ≤ sizeLine) ∧ Q (.str (repS s j.toNat)) μ
    | x => match lstD μ x with
      | some xs => (-(2 ^ 63) ≤ j ∧ j < 2 ^ 63 ∧ xs.length * j.toNat ≤ sizeLine) ∧ Q (.lst (List.replicate j.toNat xs).flatten) μ
      | none => False
  | _ => False
theorem RepL.rep {F : Hp} {ds : List SD} {vs : List V} (h : RepL K F ds vs) : ∀ n : Nat, RepL K F (List.replicate n ds).flatten (List.replicate n vs).flatten
  | 0 => .nil
  | n + 1 => by rw [List.replicate_succ, List.replicate_succ, List.flatten_cons, List.flatten_cons]; exact h.append (RepL.rep h n)
theorem lr_mul : LR2 K dMul rMul := fun F H μ x y dx dy Q' Q R rx ry t k => by
  cases dy with
  | int j =>
    cases ry
    have fall : (match lstD μ dx with
      | some xs => (-(2 ^ 63) ≤ j ∧ j < 2 ^ 63 ∧ xs.length * j.toNat ≤ sizeLine) ∧ Q' (.lst (List.replicate j.toNat xs).flatten) μ
      | none => False) → rMul x (.int j) H Q := fun t => by
      cases e : lstD μ dx with
      | none => rw [e] at t; exact False.elim t
      | some xs =>
        rw [e] at t
        obtain ⟨⟨h1, h2, h3⟩, t⟩ := t
        obtain ⟨a, vs, rfl, ha, r⟩ := R.lst rx e
        refine .inr (.inr ⟨a, j, vs, rfl, rfl, ha, h1, h2, by rw [← r.length]; exact h3, fun q hq => ?_⟩)
        exact k _ μ t _ _ _ (Stp.newS R hq) (R.newS hq) (.lst upd_same ((r.rep _).mono (Ext.new (R.freeF hq))))
    cases dx with
    | int i => cases rx; exact .inl ⟨i, j, rfl, rfl, t.1, k _ μ t.2 F H _ (Stp.refl _ _ _) R (.int _)⟩
    | str s => cases rx; exact .inr (.inl ⟨s, j, rfl, rfl, t.1, k _ μ t.2 F H _ (Stp.refl _ _ _) R (.str _)⟩)
    | lst xs => exact fall t
    | ref a => exact fall t
    | _ => exact fall t
  | _ => exact False.elim t
def dI2 (C : Int → Int → Prop) (f : Int → Int → Int) : DR2 := fun x y μ Q => match x with
  | .int i => match y with
    | .int j => C i j ∧ Q (.int (f i j)) μ
    | _ => False
  | _ => False
theorem lr_i2 {C : Int → Int → Prop} {f : Int → Int → Int} : LR2 K (dI2 C f) (rI C fun i j => .int (f i j)) := lr_ints (ff := fun i j => .int (f i j)) (fun _ _ => rfl) fun x y μ Q t => by
  cases x <;> cases y <;> first | exact False.elim t | exact ⟨_, _, rfl, rfl, t.1, t.2⟩
abbrev dMod : DR2 := dI2 (fun _ j => 0 < j) fun i j => i % j
abbrev dDiv : DR2 := dI2 CDivW fun i j => i / j
def CPowW (i j : Int) : Prop := 0 ≤ j ∧ (Builtin.Int.intBits i : Int) * j ≤ 2 ^ 27
theorem op_powW : OpR X (binaryOp .Pow) (rI CPowW fun i j => .int (i ^ j.toNat)) := opI fun _ _ _ _ _ _ _ hc q => pow_int hc.1 hc.2 q
abbrev dPow : DR2 := dI2 CPowW fun i j => i ^ j.toNat
end
/-- one operand -/
abbrev dUnI (f : Int → Int) (ta : DTE) : DTE := fun ρ μ Q => ta ρ μ fun x μ1 => match x with
  | .int i => Q (.int (f i)) μ1
  | _ => False
theorem de_neg {X : Cx} {a : Expr} {pos : Pos} {ta : DTE} (ha : DE X a ta) : DE X (.UnaryOp .USub a pos) (dUnI (fun i => -i) ta) := weakE (pe_un un_neg ha) fun σ H Q h => by
  obtain ⟨F, ρ, μ, Q', R, S, t, k⟩ := h
  refine ⟨F, ρ, μ, _, R, S, t, fun d μ1 t1 F1 H1 v s1 R1 r1 => ?_⟩
  cases r1 with
  | int i => exact ⟨i, rfl, k _ μ1 t1 F1 H1 _ s1 R1 (.int _)⟩
  | _ => exact False.elim t1

def eqA (a b : SD) : Bool := match plain a, plain b with
  | some v, some w => eqV v w
  | _, _ => false
def flatD (d : SD) : Bool := match plain d with
  | some v => flatV v
  | none => false
def inS (x : SD) (xs : List SD) : Bool := xs.any fun y => eqA y x
def dIn (neg : Bool) : DR2 := fun x y μ Q => match y with
  | .str t => match x with
    | .str s => match s.cps.toList with
      | [c] => Q (.bl (neg != decide (c ∈ t.cps.toList))) μ
      | _ => False
    | _ => False
  | y => match seqD μ y with
    | some xs => (flatD x = true ∧ xs.all flatD = true) ∧ Q (.bl (neg != inS x xs)) μ
    | none => False
section
variable {X : Cx} {K : PySem.W.Frag} {F : Hp}
theorem flatD_V {d : SD} {v : V} (r : RepS K F d v) (h : flatD d = true) : plain d = some v ∧ flatV v = true := by
  unfold flatD at h
  cases e : plain d with
  | none => rw [e] at h; cases h
  | some w =>
    rw [e] at h
    obtain rfl := r.isPlain e
    exact ⟨rfl, h⟩
theorem flatL_V : ∀ {ds : List SD} {vs : List V}, RepL K F ds vs → ds.all flatD = true → vs.all flatV = true ∧ ∀ {x : SD} {v : V}, plain x = some v → (ds.any fun y => eqA y x) = inV v vs
  | _, _, .nil, _ => ⟨rfl, fun _ => rfl⟩
  | d :: ds, _, .cons h r, e => by
    rw [List.all_cons, Bool.and_eq_true] at e
    obtain ⟨p, f⟩ := flatD_V h e.1
    obtain ⟨q1, q2⟩ := flatL_V r e.2
    refine ⟨by rw [List.all_cons, f, q1]; rfl, fun {x v} hx => ?_⟩
    show (eqA d x || (ds.any fun y => eqA y x)) = _
    rw [q2 hx]
    unfold eqA
    rw [p, hx]
    rfl
def rInA (K : PySem.W.Frag) (neg : Bool) : R2 := fun x y H Q => (∃ (c : Nat) (z : Str), x = .str ⟨#[c]⟩ ∧ y = .str z ∧ Q (.bl (neg != decide (c ∈ z.cps.toList))) H) ∨ rIn K neg x y H Q
theorem opr_in : OpR X (compareOp .In) (rInA X.K false) := by
  refine OpR.or (fun pins s σ H x y v u Q I rx ry h => ?_) op_in_seq
  obtain ⟨c, z, e1, e2, q⟩ := h
  exact op_in_sign pins s σ H x y v u Q I rx ry ⟨c, z, e1, e2, by simpa using q⟩
theorem opr_notIn : OpR X (compareOp .NotIn) (rInA X.K true) := by
  refine OpR.or (fun pins s σ H x y v u Q I rx ry h => ?_) op_notIn_seq
  obtain ⟨c, z, e1, e2, q⟩ := h
  exact op_notIn_sign pins s σ H x y v u Q I rx ry ⟨c, z, e1, e2, by simpa using q⟩
theorem one_sign {s : Str} {c : Nat} (h : s.cps.toList = [c]) : s = ⟨#[c]⟩ := by
  obtain ⟨a⟩ := s
  simp only at h
  congr 1
  exact Array.toList_inj.mp (by simpa using h)
theorem lr_in {neg : Bool} : LR2 K (dIn neg) (rInA K neg) := fun F H μ x y dx dy Q' Q R rx ry t k => by
  have fall : (match seqD μ dy with
    | some xs => (flatD dx = true ∧ xs.all flatD = true) ∧ Q' (.bl (neg != inS dx xs)) μ
    | none => False) → rInA K neg x y H Q := fun t => by
    cases e : seqD μ dy with
    | none => rw [e] at t; exact False.elim t
    | some xs =>
      rw [e] at t
      obtain ⟨⟨f1, f2⟩, t⟩ := t
      obtain ⟨a, vs, rfl, r, h3⟩ := R.seq' ry e
      obtain ⟨p, f⟩ := flatD_V rx f1
      obtain ⟨q1, q2⟩ := flatL_V r f2
      refine .inr ⟨a, vs, rfl, h3, f, q1, ?_⟩
      have e2 : inS dx xs = inV x vs := q2 p
      rw [e2] at t
      have e3 : (if neg = true then !inV x vs else inV x vs) = (neg != inV x vs) := by cases neg <;> simp
      rw [e3]
      exact k _ μ t F H _ (Stp.refl _ _ _) R (.bl _)
  cases dy with
  | str z =>
    cases ry
    cases dx with
    | str s =>
      cases rx
      unfold dIn at t
      simp only at t
      split at t
      · rename_i c hc
        have e := one_sign hc
        subst e
        exact .inl ⟨c, z, rfl, rfl, k _ μ t F H _ (Stp.refl _ _ _) R (.bl _)⟩
      · exact False.elim t
    | _ => exact False.elim t
  | _ => exact fall t
end

def dIx : DR2 := fun x y μ Q => match y with
  | .int i => match x with
    | .str z => z.length ≤ sizeLine ∧ match atI z.cps.toList i with
      | some c => Q (.str ⟨#[c]⟩) μ
      | none => False
    | x => match seqD μ x with
      | some xs => match atI xs i with
        | some d => Q d μ
        | none => False
      | none => False
  | _ => False
section
variable {X : Cx} {K : PySem.W.Frag} {a b e : Expr} {pos p2 : Pos} {ta tb te : DTE} {lo hi : Option Expr}
theorem atI_rep {F : Hp} {ds : List SD} {vs : List V} {i : Int} {d : SD} (r : RepL K F ds vs) (h : atI ds i = some d) : ∃ v, atI vs i = some v ∧ RepS K F d v := by
  unfold atI at h ⊢
  rw [← r.length]
  cases q : ixN ds.length i with
  | none => rw [q] at h; cases h
  | some j =>
    rw [q] at h
    obtain ⟨v, h1, h2⟩ := r.get h
    exact ⟨v, h1, h2⟩
theorem lr_ix : LR2 K dIx (rIx K) := fun F H μ x y dx dy Q' Q R rx ry t k => by
  cases dy with
  | int i =>
    cases ry
    have fall : (match seqD μ dx with
      | some xs => match atI xs i with
        | some d => Q' d μ
        | none => False
      | none => False) → rIx K x (.int i) H Q := fun t => by
      cases e : seqD μ dx with
      | none => rw [e] at t; exact False.elim t
      | some xs =>
        rw [e] at t
        simp only at t
        cases e2 : atI xs i with
        | none => rw [e2] at t; exact False.elim t
        | some d =>
          rw [e2] at t
          obtain ⟨a, vs, rfl, r, h3⟩ := R.seq' rx e
          obtain ⟨v, h1, h2⟩ := atI_rep r e2
          rcases h3 with h3 | h3
          · exact .inl ⟨a, vs, i, v, rfl, rfl, h3, h1, k _ μ t F H _ (Stp.refl _ _ _) R h2⟩
          · exact .inr (.inl ⟨a, vs, i, v, rfl, rfl, h3, h1, k _ μ t F H _ (Stp.refl _ _ _) R h2⟩)
    cases dx with
    | str z =>
      cases rx
      obtain ⟨hz, t⟩ := (show z.length ≤ sizeLine ∧ _ from t)
      cases e2 : atI z.cps.toList i with
      | none => rw [e2] at t; exact False.elim t
      | some c => rw [e2] at t; exact .inr (.inr ⟨z, i, c, rfl, rfl, hz, e2, k _ μ t F H _ (Stp.refl _ _ _) R (.str _)⟩)
    | _ => exact fall t
  | _ => exact False.elim t
theorem de_ix (ha : DE X a ta) (hb : DE X b tb) (hs : PlainIx b) : DE X (.Subscript a b pos) (dOp dIx ta tb) := weakE (pe_ix ix_seq ha hb hs) (lift2 lr_ix)
abbrev DTO := Rho → Mu → (Option Int → Mu → Prop) → Prop
def LO (K : PySem.W.Frag) (t : DTO) : TO := fun σ H Q => ∃ F ρ μ Q', HReal K F H μ ∧ Slots K F σ ρ ∧ t ρ μ Q' ∧ ∀ o μ', Q' o μ' → ∀ F' H', Stp F H μ F' H' μ' → HReal K F' H' μ' → Q o H'
abbrev DO (X : Cx) (e : Option Expr) (t : DTO) : Prop := PO X e (LO X.K t)
abbrev dNoPart : DTO := fun _ μ Q => Q none μ
abbrev dPart (t : DTE) : DTO := fun ρ μ Q => t ρ μ fun d μ1 => match d with
  | .int i => Q (some i) μ1
  | _ => False
theorem do_none : DO X none dNoPart := ⟨fun pins s σ H Q I h => by
  obtain ⟨F, ρ, μ, Q', R, S, t, k⟩ := h
  exact po_none.run pins s σ H Q I (k _ μ t F H (Stp.refl _ _ _) R)⟩
theorem do_some (he : DE X e te) : DO X (some e) (dPart te) := ⟨fun pins s σ H Q I h => (po_some he).run pins s σ H Q I (by
  obtain ⟨F, ρ, μ, Q', R, S, t, k⟩ := h
  refine ⟨F, ρ, μ, _, R, S, t, fun d μ1 t1 F1 H1 v s1 R1 r1 => ?_⟩
  cases r1 with
  | int i => exact ⟨i, rfl, k _ μ1 t1 F1 H1 s1 R1⟩
  | _ => exact False.elim t1)⟩
def cutL {α : Type} (xs : List α) (lo hi : Option Int) : List α := (xs.drop (HT.sIx xs.length 0 lo)).take (HT.sIx xs.length xs.length hi - HT.sIx xs.length 0 lo)
theorem RepL.cutL {F : Hp} {ds : List SD} {vs : List V} (r : RepL K F ds vs) (lo hi : Option Int) : RepL K F (DS.cutL ds lo hi) (cutV vs lo hi) := by
  unfold DS.cutL cutV
  rw [r.length]
  exact (r.drop _).take _
theorem cut_all {α : Type} {xs : List α} {lo hi : Option Int} (h : HT.sIx xs.length 0 lo = 0 ∧ HT.sIx xs.length xs.length hi = xs.length) : cutL xs lo hi = xs := by
  unfold cutL
  rw [h.1, h.2]
  simp
/-- x[lo:hi] -/
def drSl (x : SD) (l u : Option Int) (μ3 : Mu) (Q : SD → Mu → Prop) : Prop := match x with
  | .str z => z.length ≤ sizeLine ∧ Q (.str (cutS z l u)) μ3
  | .tup xs => Q (.tup (cutL xs l u)) μ3
  | x => match seqD μ3 x with
    | some xs => Q (.lst (cutL xs l u)) μ3
    | none => False
abbrev dSl (te : DTE) (tl th : DTO) : DTE := fun ρ μ Q => te ρ μ fun x μ1 => tl ρ μ1 fun l μ2 => th ρ μ2 fun u μ3 => drSl x l u μ3 Q
def rSlG (K : PySem.W.Frag) : V → Option Int → Option Int → Hp → VK → Prop := fun x lo hi H Q => rSlS x lo hi H Q ∨ (rSlA K x lo hi H Q ∨ rSlL K x lo hi H Q)
theorem slr : SlR X (rSlG X.K) := sl_str.or (sl_tupA.or sl_list)
theorem de_slice {tl th : DTO} (he : DE X e te) (hl : DO X lo tl) (hu : DO X hi th) : DE X (.Subscript e (.Slice lo hi none p2) pos) (dSl te tl th) := weakE (pe_slice slr he hl hu) fun σ H Q h => by
  obtain ⟨F, ρ, μ, Q', R, S, t, k⟩ := h
  refine ⟨F, ρ, μ, _, R, S, t, fun d μ1 t1 F1 H1 v s1 R1 r1 => ⟨F1, ρ, μ1, _, R1, S.mono s1.ext, t1, fun l μ2 t2 F2 H2 s2 R2 => ⟨F2, ρ, μ2, _, R2, (S.mono s1.ext).mono s2.ext, t2, fun u μ3 t3 F3 H3 s3 R3 => ?_⟩⟩⟩
  unfold drSl at t3
  have r3 := r1.mono (s2.trans s3).ext
  have s := (s1.trans s2).trans s3
  have fall : isTup d = false → (match seqD μ3 d with
    | some xs => Q' (.lst (cutL xs l u)) μ3
    | none => False) → rSlG X.K v l u H3 Q := fun ht t => by
    cases e : seqD μ3 d with
    | none => rw [e] at t; exact False.elim t
    | some xs =>
      rw [e] at t
      obtain ⟨a, vs, rfl, r, h3⟩ := R3.seq r3 e
      rcases h3 with ⟨_, h3⟩ | ⟨z, _⟩
      · exact .inr (.inr ⟨a, vs, rfl, h3, fun q hq => k _ μ3 t _ _ _ (s.trans (Stp.newS R3 hq)) (R3.newS hq) (.lst upd_same ((r.cutL l u).mono (Ext.new (R3.freeF hq))))⟩)
      · rw [ht] at z; cases z
  cases d with
  | str z => cases r3; exact .inl ⟨z, rfl, t3.1, k _ μ3 t3.2 F3 H3 _ s R3 (.str _)⟩
  | tup xs =>
    cases r3 with
    | tup h r =>
      refine .inr (.inl ⟨_, _, rfl, R3.ext.sqT h, fun hw => ?_, fun hw q hq => ?_⟩)
      · have t3' : Q' (.tup (cutL xs l u)) μ3 := t3
        rw [cut_all (by rw [r.length]; exact hw)] at t3'
        exact k _ μ3 t3' F3 H3 _ s R3 (.tup h r)
      · exact k _ μ3 t3 _ _ _ (s.trans (Stp.newS R3 hq)) (R3.newS hq) (.tup (.inl (.inl upd_same)) ((r.cutL l u).mono (Ext.new (R3.freeF hq))))
  | _ => exact fall rfl t3
end
end DS
namespace DS
open PySem PySem.Spec PyProof.Rows L2
abbrev DRc := List SD → Mu → (SD → Mu → Prop) → Prop
def LRc (K : PySem.W.Frag) (dr : DRc) (r : List V → Hp → VK → Prop) : Prop := ∀ F H μ xs ds Q' Q, HReal K F H μ → RepL K F ds xs → dr ds μ Q' →
  (∀ d μ', Q' d μ' → ∀ F' H' v, Stp F H μ F' H' μ' → HReal K F' H' μ' → RepS K F' d v → Q v H') → r xs H Q
abbrev dCB (dr : DRc) (t : DTA) : DTE := fun ρ μ Q => t ρ μ fun ds μ1 => dr ds μ1 Q
section
variable {X : Cx} {K : PySem.W.Frag} {x : Str} {p pos apos cpos : Pos} {e o : Expr} {es : List Expr} {t : DTA} {to : DTE} {dr : DRc} {r : List V → Hp → VK → Prop} {id T : String} {name : Str}
theorem liftCB (hl : LRc K dr r) : ∀ σ H Q, LE K (dCB dr t) σ H Q → tCB r (LA K t) σ H Q := fun σ H Q h => by
  obtain ⟨F, ρ, μ, Q', R, S, t, k⟩ := h
  exact ⟨F, ρ, μ, _, R, S, t, fun ds μ1 t1 F1 H1 vs s1 R1 r1 => hl F1 H1 μ1 vs ds Q' Q R1 r1 t1 fun d μ' q F' H' v s R' r' => k d μ' q F' H' v (s1.trans s) R' r'⟩
theorem de_callB (hc : CallR X (.builtin id) r) (hl : LRc X.K dr r) (hg : Gl X x) (hm : X.mg x = none) (hv : bootBuiltins x = some (.builtin id)) (ha : DA X (e :: es) t) (hn : x ≠ "__name__" := by decide) (hdb : (x == ("__debug__" : Str)) = false := by decide)
    (he : starEach (e :: es) X.env = (false, eval e X.env) :: starEach es X.env := by rfl) (hpl : (backTo pos (starEach es X.env)).any (·.1) = false := by rfl) : DE X (.Call (.Name x p) (e :: es) [] pos) (dCB dr t) :=
  weakE (pe_callB hc hg hm hv ha hn hdb he hpl) (liftCB hl)
theorem de_callT (hc : CallR X (.type T) r) (hl : LRc X.K dr r) (hg : Gl X x) (hm : X.mg x = none) (hv : bootBuiltins x = some (.type T)) (ha : DA X (e :: es) t) (hn : x ≠ "__name__" := by decide) (hdb : (x == ("__debug__" : Str)) = false := by decide)
    (he : starEach (e :: es) X.env = (false, eval e X.env) :: starEach es X.env := by rfl) (hpl : (backTo pos (starEach es X.env)).any (·.1) = false := by rfl) : DE X (.Call (.Name x p) (e :: es) [] pos) (dCB dr t) :=
  weakE (pe_callTy hc hg hm hv ha hn hdb he hpl) (liftCB hl)

def drLen : DRc := fun ds μ Q => match ds with
  | [d] => match d with
    | .str s => s.length ≤ sizeLine ∧ Q (.int s.length) μ
    | d => match seqD μ d with
      | some xs => Q (.int xs.length) μ
      | none => False
  | _ => False
def rLen (K : PySem.W.Frag) : List V → Hp → VK → Prop := fun xs H Q => (∃ p ys, xs = [.ref p] ∧ (SqL K H p ys ∨ SqT K H p ys) ∧ Q (.int ys.length) H) ∨ (∃ z, xs = [.str z] ∧ z.length ≤ sizeLine ∧ Q (.int z.length) H)
theorem cr_len : CallR X (.builtin "len") (rLen X.K) := call_len_seq.or call_len_str
theorem lc_len : LRc K drLen (rLen K) := fun F H μ xs ds Q' Q R r t k => by
  cases r with
  | nil => exact False.elim t
  | cons r1 r2 => cases r2 with
    | cons _ _ => exact False.elim t
    | nil =>
      rename_i d v
      have fall : (match seqD μ d with
        | some xs => Q' (.int xs.length) μ
        | none => False) → rLen K [v] H Q := fun t => by
        cases e : seqD μ d with
        | none => rw [e] at t; exact False.elim t
        | some xs =>
          rw [e] at t
          obtain ⟨a, vs, rfl, r, h3⟩ := R.seq' r1 e
          refine .inl ⟨a, vs, rfl, h3, ?_⟩
          rw [← r.length]
          exact k _ μ t F H _ (Stp.refl _ _ _) R (.int _)
      cases d with
      | str z => cases r1; exact .inr ⟨z, rfl, t.1, k _ μ t.2 F H _ (Stp.refl _ _ _) R (.int _)⟩
      | _ => exact fall t
def drTuple : DRc := fun ds μ Q => match ds with
  | [d] => match seqD μ d with
    | some xs => Q (.tup xs) μ
    | none => False
  | _ => False
def drList : DRc := fun ds μ Q => match ds with
  | [d] => match seqD μ d with
    | some xs => Q (.lst xs) μ
    | none => False
  | _ => False
def drListM : DRc := fun ds μ Q => match ds with
  | [d] => match seqD μ d with
    | some xs => ∀ p, μ p = none → Q (.ref p) (up μ p (.lst xs))
    | none => False
  | _ => False
theorem seq1 {dr : (SD → Mu → Prop) → List SD → SD → Mu → Prop} {rr : List V → Hp → VK → Prop}
    (h : ∀ F H μ d a vs xs Q' Q, HReal K F H μ → RepS K F d (.ref a) → RepL K F xs vs → ((isTup d = false ∧ SqL K H a vs) ∨ (isTup d = true ∧ SqT K H a vs)) → seqD μ d = some xs → dr Q' xs d μ →
      (∀ d μ', Q' d μ' → ∀ F' H' v, Stp F H μ F' H' μ' → HReal K F' H' μ' → RepS K F' d v → Q v H') → rr [.ref a] H Q) :
    LRc K (fun ds μ Q => match ds with
      | [d] => match seqD μ d with
        | some xs => dr Q xs d μ
        | none => False
      | _ => False) rr := fun F H μ xs ds Q' Q R r t k => by
  cases r with
  | nil => exact False.elim t
  | cons r1 r2 => cases r2 with
    | cons _ _ => exact False.elim t
    | nil =>
      rename_i d v
      cases e : seqD μ d with
      | none => simp only [e] at t
      | some xs =>
        simp only [e] at t
        obtain ⟨a, vs, rfl, r, h3⟩ := R.seq r1 e
        exact h F H μ d a vs xs Q' Q R r1 r h3 e t k
theorem lc_tuple : LRc K drTuple (fun xs H Q => ∃ p ys, xs = [.ref p] ∧ ((SqL K H p ys ∧ ∀ l, H l = none → Q (.ref l) (upd H l (.tup ys))) ∨ (SqT K H p ys ∧ Q (.ref p) H))) :=
  seq1 (dr := fun Q xs _ μ => Q (.tup xs) μ) fun F H μ d a vs xs Q' Q R rd r h3 e t k => by
    rcases h3 with ⟨_, h3⟩ | ⟨z, h3⟩
    · exact ⟨a, vs, rfl, .inl ⟨h3, fun q hq => k _ μ t _ _ _ (Stp.newS R hq) (R.newS hq) (.tup (.inl (.inl upd_same)) (r.mono (Ext.new (R.freeF hq))))⟩⟩
    · cases rd with
      | tup h q =>
        have e' : some xs = some _ := e.symm.trans rfl
        cases e
        exact ⟨a, _, rfl, .inr ⟨h3, k _ μ t F H _ (Stp.refl _ _ _) R (.tup h q)⟩⟩
      | _ => cases z
theorem lc_list : LRc K drList (fun xs H Q => ∃ p ys, xs = [.ref p] ∧ (SqL K H p ys ∨ SqT K H p ys) ∧ ∀ l, H l = none → Q (.ref l) (upd H l (.lst ys))) :=
  seq1 (dr := fun Q xs _ μ => Q (.lst xs) μ) fun F H μ d a vs xs Q' Q R rd r h3 e t k =>
    ⟨a, vs, rfl, h3.imp And.right And.right, fun q hq => k _ μ t _ _ _ (Stp.newS R hq) (R.newS hq) (.lst upd_same (r.mono (Ext.new (R.freeF hq))))⟩
theorem lc_listM : LRc K drListM (fun xs H Q => ∃ p ys, xs = [.ref p] ∧ (SqL K H p ys ∨ SqT K H p ys) ∧ ∀ l, H l = none → Q (.ref l) (upd H l (.lst ys))) :=
  seq1 (dr := fun Q xs _ μ => ∀ p, μ p = none → Q (.ref p) (up μ p (.lst xs))) fun F H μ d a vs xs Q' Q R rd r h3 e t k =>
    ⟨a, vs, rfl, h3.imp And.right And.right, fun q hq => k _ _ (t q (R.freeM hq)) _ _ _ (Stp.newM R hq) (R.newM hq (.lst r)) (.ref q)⟩
def drI1 (f : Int → Int) : DRc := fun ds μ Q => match ds with
  | [.int i] => Q (.int (f i)) μ
  | _ => False
theorem lc_abs : LRc K (drI1 fun i => if i < 0 then -i else i) (fun xs H Q => ∃ i, xs = [.int i] ∧ Q (.int (if i < 0 then -i else i)) H) := fun F H μ xs ds Q' Q R r t k => by
  unfold drI1 at t
  split at t
  · cases r with
    | cons r1 r2 => cases r2; cases r1; exact ⟨_, rfl, k _ μ t F H _ (Stp.refl _ _ _) R (.int _)⟩
  · exact False.elim t
def drInt : DRc := fun ds μ Q => match ds with
  | [.int i] => Q (.int i) μ
  | [.bl b] => Q (.int (if b then 1 else 0)) μ
  | _ => False
theorem lc_int : LRc K drInt (fun xs H Q => (∃ i, xs = [.int i] ∧ Q (.int i) H) ∨ ∃ k, xs = [.bl k] ∧ Q (.int (if k then 1 else 0)) H) := fun F H μ xs ds Q' Q R r t k => by
  unfold drInt at t
  split at t
  · cases r with
    | cons r1 r2 => cases r2; cases r1; exact .inl ⟨_, rfl, k _ μ t F H _ (Stp.refl _ _ _) R (.int _)⟩
  · cases r with
    | cons r1 r2 => cases r2; cases r1; exact .inr ⟨_, rfl, k _ μ t F H _ (Stp.refl _ _ _) R (.int _)⟩
  · exact False.elim t
def drI2 (f : Int → Int → Int) : DRc := fun ds μ Q => match ds with
  | [.int i, .int j] => Q (.int (f i j)) μ
  | _ => False
theorem lc_i2 {f : Int → Int → Int} : LRc K (drI2 f) (fun xs H Q => ∃ i j, xs = [.int i, .int j] ∧ Q (.int (f i j)) H) := fun F H μ xs ds Q' Q R r t k => by
  unfold drI2 at t
  split at t
  · cases r with
    | cons r1 r2 => cases r1; cases r2 with
      | cons r2 r3 => cases r3; cases r2; exact ⟨_, _, rfl, k _ μ t F H _ (Stp.refl _ _ _) R (.int _)⟩
  · exact False.elim t
def blsOf : List SD → Option (List Bool)
  | [] => some []
  | .bl b :: r => match blsOf r with
    | some bs => some (b :: bs)
    | none => none
  | _ :: _ => none
theorem blsOf_rep : ∀ {F : Hp} {ds : List SD} {vs : List V} {bs : List Bool}, RepL K F ds vs → blsOf ds = some bs → vs = bs.map V.bl
  | _, _, _, _, .nil, e => by cases e; rfl
  | _, d :: ds, _, _, .cons h r, e => by
    cases h with
    | bl b =>
      unfold blsOf at e
      cases q : blsOf ds with
      | none => rw [q] at e; cases e
      | some bs => rw [q] at e; cases e; rw [blsOf_rep r q]; rfl
    | _ => cases e
theorem blsOf_map (bs : List Bool) : blsOf (bs.map SD.bl) = some bs := by
  induction bs with
  | nil => rfl
  | cons b r ih => show (match blsOf (r.map SD.bl) with | some bs => some (b :: bs) | none => none) = _; rw [ih]
def drBls (f : List Bool → Bool) : DRc := fun ds μ Q => match ds with
  | [d] => match lstD μ d with
    | some xs => match blsOf xs with
      | some bs => Q (.bl (f bs)) μ
      | none => False
    | none => False
  | _ => False
theorem lc_bls {f : List Bool → Bool} : LRc K (drBls f) (fun vs H Q => ∃ (a : Addr) (bs : List Bool), vs = [V.ref a] ∧ SqL K H a (bs.map V.bl) ∧ Q (.bl (f bs)) H) := fun F H μ xs ds Q' Q R r t k => by
  cases r with
  | nil => exact False.elim t
  | cons r1 r2 => cases r2 with
    | cons _ _ => exact False.elim t
    | nil =>
      rename_i d v
      cases e : lstD μ d with
      | none => simp only [drBls, e] at t
      | some xs =>
        simp only [drBls, e] at t
        cases e2 : blsOf xs with
        | none => rw [e2] at t; exact False.elim t
        | some bs =>
          rw [e2] at t
          obtain ⟨a, vs, rfl, ha, r⟩ := R.lst r1 e
          rw [blsOf_rep r e2] at ha
          exact ⟨a, bs, rfl, SqL.of ha, k _ μ t F H _ (Stp.refl _ _ _) R (.bl _)⟩
theorem lc_all : LRc K (drBls fun bs => bs.all _root_.id) (rAll K) := lc_bls
abbrev DRm := SD → List SD → Mu → (SD → Mu → Prop) → Prop
def LRm (K : PySem.W.Frag) (dr : DRm) (r : V → List V → Hp → VK → Prop) : Prop := ∀ F H μ x xs d ds Q' Q, HReal K F H μ → RepS K F d x → RepL K F ds xs → dr d ds μ Q' →
  (∀ d μ', Q' d μ' → ∀ F' H' v, Stp F H μ F' H' μ' → HReal K F' H' μ' → RepS K F' d v → Q v H') → r x xs H Q
/-- e.m(..) of a list -/
abbrev dLM (dr : DRm) (to : DTE) (t : DTA) : DTE := fun ρ μ Q => to ρ μ fun x μ1 => (lstD μ1 x).isSome = true ∧ t ρ μ1 fun xs μ2 => dr x xs μ2 Q
abbrev dLM0 (dr : DRm) (to : DTE) : DTE := fun ρ μ Q => to ρ μ fun x μ1 => (lstD μ1 x).isSome = true ∧ dr x [] μ1 Q
variable {rm : V → List V → Hp → VK → Prop} {drm : DRm}
theorem de_lm (pa : PlainAttrs "list") (slot : Slot "list" name id) (hty : typeOf (.builtin id) = pure (.type "method_descriptor")) (hm : MtR X id rm) (hl : LRm X.K drm rm) (ho : DE X o to) (ha : DA X (e :: es) t)
    (hbase : attributeBase o name X.env (eval o X.env) = eval o X.env := by rfl)
    (hfew : ((backTo cpos (starEach (e :: es) X.env)).all (fun x => !x.1) && (backToKw cpos (keywordEach [] X.env)).all (fun x => x.1.isSome)
      && decide ((e :: es).length + ([] : List Keyword).length + (if ([] : List Keyword).isEmpty then 0 else 1) < 30)) = true := by rfl)
    (hline : (apos.endLine == cpos.line) = true := by rfl) (hs : starEach (e :: es) X.env = (false, eval e X.env) :: starEach es X.env := by rfl) (hplain : (backTo cpos (starEach es X.env)).any (·.1) = false := by rfl) :
    DE X (.Call (.Attribute o name apos) (e :: es) [] cpos) (dLM drm to t) := weakE (pe_bm pa slot hty hm ho ha hbase hfew hline hs hplain) fun σ H Q h => by
  obtain ⟨F, ρ, μ, Q', R, S, t, k⟩ := h
  refine ⟨F, ρ, μ, _, R, S, t, fun d μ1 t1 F1 H1 v s1 R1 r1 => ?_⟩
  obtain ⟨h1, t1⟩ := t1
  obtain ⟨xs, hx⟩ := Option.isSome_iff_exists.mp h1
  obtain ⟨a, vs, rfl, ha, r⟩ := R1.lst r1 hx
  refine ⟨.inl ⟨rfl, vs, SqL.of ha⟩, F1, ρ, μ1, _, R1, S.mono s1.ext, t1, fun ds μ2 t2 F2 H2 ws s2 R2 r2 => ?_⟩
  exact hl F2 H2 μ2 _ ws d ds Q' Q R2 (r1.mono s2.ext) r2 t2 fun d μ' q F' H' v s R' r' => k d μ' q F' H' v ((s1.trans s2).trans s) R' r'
theorem de_lm0 (pa : PlainAttrs "list") (slot : Slot "list" name id) (hty : typeOf (.builtin id) = pure (.type "method_descriptor")) (hm : MtR X id rm) (hl : LRm X.K drm rm) (ho : DE X o to)
    (hbase : attributeBase o name X.env (eval o X.env) = eval o X.env := by rfl) (hline : (apos.endLine == cpos.line) = true := by rfl) :
    DE X (.Call (.Attribute o name apos) [] [] cpos) (dLM0 drm to) := weakE (pe_bm0 pa slot hty hm ho hbase hline) fun σ H Q h => by
  obtain ⟨F, ρ, μ, Q', R, S, t, k⟩ := h
  refine ⟨F, ρ, μ, _, R, S, t, fun d μ1 t1 F1 H1 v s1 R1 r1 => ?_⟩
  obtain ⟨h1, t1⟩ := t1
  obtain ⟨xs, hx⟩ := Option.isSome_iff_exists.mp h1
  obtain ⟨a, vs, rfl, ha, r⟩ := R1.lst r1 hx
  exact ⟨.inl ⟨rfl, vs, SqL.of ha⟩, hl F1 H1 μ1 _ [] d [] Q' Q R1 r1 .nil t1 fun d μ' q F' H' v s R' r' => k d μ' q F' H' v (s1.trans s) R' r'⟩
/-- the list at a, which may change -/
def mlst (μ : Mu) : SD → Option (Addr × List SD)
  | .ref a => match μ a with
    | some (.lst xs) => some (a, xs)
    | _ => none
  | _ => none
theorem HReal.mlst {F H : Hp} {μ : Mu} {d : SD} {v : V} {a : Addr} {xs : List SD} (R : HReal K F H μ) (r : RepS K F d v) (h : DS.mlst μ d = some (a, xs)) : v = .ref a ∧ μ a = some (.lst xs) ∧ ∃ vs, H a = some (.lst vs) ∧ RepL K F xs vs := by
  cases r with
  | ref b =>
    unfold DS.mlst at h
    simp only at h
    split at h
    · rename_i ys hy
      cases h
      obtain ⟨_, o, h, q⟩ := R.mus _ _ hy
      cases q with
      | lst q => exact ⟨rfl, hy, _, h, q⟩
    · cases h
  | _ => cases h
def dmAppend : DRm := fun d ds μ Q => match ds with
  | [y] => match mlst μ d with
    | some (a, xs) => xs.length < sizeLine ∧ Q .non (up μ a (.lst (xs ++ [y])))
    | none => False
  | _ => False
theorem lm_append : LRm K dmAppend rAppend := fun F H μ x xs d ds Q' Q R r rs t k => by
  cases rs with
  | nil => exact False.elim t
  | cons r1 r2 => cases r2 with
    | cons _ _ => exact False.elim t
    | nil =>
      rename_i y vy
      cases e : mlst μ d with
      | none => simp only [dmAppend, e] at t
      | some p =>
        obtain ⟨a, zs⟩ := p
        simp only [dmAppend, e] at t
        obtain ⟨rfl, hm, vs, ha, r⟩ := R.mlst r e
        exact ⟨a, vs, vy, rfl, rfl, ha, by rw [← r.length]; exact t.1, k _ _ t.2 F _ _ (Stp.put hm) (R.put hm (.lst (r.append (.one r1)))) .non⟩
def dmPop : DRm := fun d ds μ Q => match mlst μ d with
  | some (a, xs) => match xs[xs.length - 1]? with
    | some y => ds = [] ∧ Q y (up μ a (.lst xs.dropLast))
    | none => False
  | none => False
theorem lm_pop : LRm K dmPop rPop := fun F H μ x xs d ds Q' Q R r rs t k => by
  cases e : mlst μ d with
  | none => simp only [dmPop, e] at t
  | some p =>
    obtain ⟨a, zs⟩ := p
    simp only [dmPop, e] at t
    cases e2 : zs[zs.length - 1]? with
    | none => rw [e2] at t; exact False.elim t
    | some y =>
      rw [e2] at t
      obtain ⟨rfl, t⟩ := t
      cases rs
      obtain ⟨rfl, hm, vs, ha, r⟩ := R.mlst r e
      obtain ⟨v, h1, h2⟩ := r.get e2
      exact ⟨a, vs, v, rfl, rfl, ha, by rw [← r.length]; exact h1, k _ _ t F _ _ (Stp.put hm) (R.put hm (.lst r.dropLast)) h2⟩
def dmInsert : DRm := fun d ds μ Q => match ds with
  | [.int i, y] => match mlst μ d with
    | some (a, xs) => (xs.length < sizeLine ∧ 0 ≤ i ∧ i < 2 ^ 63) ∧ Q .non (up μ a (.lst (xs.take i.toNat ++ [y] ++ xs.drop i.toNat)))
    | none => False
  | _ => False
theorem lm_insert : LRm K dmInsert (fun x vs H Q => ∃ (l : Addr) (xs : List V) (i : Int) (y : V), x = .ref l ∧ vs = [.int i, y] ∧ H l = some (.lst xs) ∧ xs.length < sizeLine ∧ 0 ≤ i ∧ i < 2 ^ 63 ∧
    Q .non (upd H l (.lst (xs.take i.toNat ++ [y] ++ xs.drop i.toNat)))) := fun F H μ x xs d ds Q' Q R r rs t k => by
  unfold dmInsert at t
  split at t
  · rename_i i y
    cases rs with
    | cons r1 r2 => cases r1; cases r2 with
      | cons r2 r3 =>
        cases r3
        cases e : mlst μ d with
        | none => simp only [e] at t
        | some p =>
          obtain ⟨a, zs⟩ := p
          simp only [e] at t
          obtain ⟨⟨t1, t2, t3⟩, t⟩ := t
          obtain ⟨rfl, hm, vs, ha, r⟩ := R.mlst r e
          exact ⟨a, vs, i, _, rfl, rfl, ha, by rw [← r.length]; exact t1, t2, t3, k _ _ t F _ _ (Stp.put hm) (R.put hm (.lst (((r.take _).append (.one r2)).append (r.drop _)))) .non⟩
  · exact False.elim t
/-- extend by a list or a tuple -/
def rExtA (K : PySem.W.Frag) : V → List V → Hp → VK → Prop := fun x vs H Q => ∃ l b xs zs, x = .ref l ∧ vs = [.ref b] ∧ H l = some (.lst xs) ∧ (H b = some (.lst zs) ∨ SqT K H b zs) ∧ xs.length + zs.length ≤ sizeLine ∧ Q .non (upd H l (.lst (xs ++ zs)))
def dmExtend : DRm := fun d ds μ Q => match ds with
  | [y] => match mlst μ d with
    | some (a, xs) => (match y with
      | .tup ys => xs.length + ys.length ≤ sizeLine ∧ Q .non (up μ a (.lst (xs ++ ys)))
      | y => match lstD μ y with
        | some ys => xs.length + ys.length ≤ sizeLine ∧ Q .non (up μ a (.lst (xs ++ ys)))
        | none => False)
    | none => False
  | _ => False
theorem lm_extend : LRm K dmExtend (rExtA K) := fun F H μ x xs d ds Q' Q R r rs t k => by
  cases rs with
  | nil => exact False.elim t
  | cons r1 r2 => cases r2 with
    | cons _ _ => exact False.elim t
    | nil =>
      rename_i y vy
      cases e : mlst μ d with
      | none => simp only [dmExtend, e] at t
      | some p =>
        obtain ⟨a, zs⟩ := p
        simp only [dmExtend, e] at t
        obtain ⟨rfl, hm, vs, ha, r⟩ := R.mlst r e
        have fall : (match lstD μ y with
          | some ys => zs.length + ys.length ≤ sizeLine ∧ Q' .non (up μ a (.lst (zs ++ ys)))
          | none => False) → rExtA K (.ref a) [vy] H Q := fun t => by
          cases e2 : lstD μ y with
          | none => rw [e2] at t; exact False.elim t
          | some ys =>
            rw [e2] at t
            obtain ⟨b, ws, rfl, hb, rb⟩ := R.lst r1 e2
            exact ⟨a, b, vs, ws, rfl, rfl, ha, .inl hb, by rw [← r.length, ← rb.length]; exact t.1, k _ _ t.2 F _ _ (Stp.put hm) (R.put hm (.lst (r.append rb))) .non⟩
        cases y with
        | tup ys =>
          cases r1 with
          | tup h rb => exact ⟨a, _, vs, _, rfl, rfl, ha, .inr (R.ext.sqT h), by rw [← r.length, ← rb.length]; exact t.1, k _ _ t.2 F _ _ (Stp.put hm) (R.put hm (.lst (r.append rb))) .non⟩
        | _ => exact fall t
def LSet (K : PySem.W.Frag) (ds : SD → SD → SD → Mu → (Mu → Prop) → Prop) (r : TSet) : Prop := ∀ F H μ o i v do_ di dv Q' Q, HReal K F H μ → RepS K F do_ o → RepS K F di i → RepS K F dv v → ds do_ di dv μ Q' →
  (∀ μ', Q' μ' → ∀ F' H', Stp F H μ F' H' μ' → HReal K F' H' μ' → Q H') → r o i v H Q
abbrev hSub (to ti : DTE) (t : SD → SD → SD → Mu → (Mu → Prop) → Prop) : DTG := fun v ρ μ Q => to ρ μ fun o μ1 => ti ρ μ1 fun i μ2 => t o i v μ2 fun μ3 => Q ρ μ3
theorem dg_sub {oe i : Expr} {to ti : DTE} {ts : SD → SD → SD → Mu → (Mu → Prop) → Prop} {rs : TSet} (ho : DE X oe to) (hi : DE X i ti) (hs : PSet X rs) (hl : LSet X.K ts rs)
    (ha : ∀ v, assign (.Subscript oe i pos) X.env v = (do
      let ov ← holding [v] (eval oe X.env)
      let iv ← holding [v, ov] (eval i X.env)
      standAt pos
      holding [v, ov, iv] (setItem ov iv v)
      release [v, ov, iv] []) := by intro _; rfl) : DG X (.Subscript oe i pos) (hSub to ti ts) := weakG (pg_sub ho hi hs ha) fun v σ H Q h => by
  obtain ⟨F, ρ, μ, d, Q', R, S, r, t, k⟩ := h
  refine ⟨F, ρ, μ, _, R, S, t, fun d1 μ1 t1 F1 H1 v1 s1 R1 r1 => ⟨F1, ρ, μ1, _, R1, S.mono s1.ext, t1, fun d2 μ2 t2 F2 H2 v2 s2 R2 r2 => ?_⟩⟩
  exact hl F2 H2 μ2 v1 v2 v d1 d2 d _ _ R2 (r1.mono s2.ext) r2 (r.mono (s1.trans s2).ext) t2 fun μ' q F' H' s R' => k ρ μ' q F' H' σ ((s1.trans s2).trans s) R' (S.mono ((s1.trans s2).trans s).ext)
def dsetL : SD → SD → SD → Mu → (Mu → Prop) → Prop := fun o i v μ Q => match i with
  | .int k => match mlst μ o with
    | some (a, xs) => match ixN xs.length k with
      | some j => Q (up μ a (.lst (xs.set j v)))
      | none => False
    | none => False
  | _ => False
theorem ls_list : LSet K dsetL rSetL := fun F H μ o i v do_ di dv Q' Q R ro ri rv t k => by
  cases di with
  | int n =>
    cases ri
    cases e : mlst μ do_ with
    | none => simp only [dsetL, e] at t
    | some p =>
      obtain ⟨a, xs⟩ := p
      simp only [dsetL, e] at t
      cases e2 : ixN xs.length n with
      | none => rw [e2] at t; exact False.elim t
      | some j =>
        rw [e2] at t
        obtain ⟨rfl, hm, vs, ha, r⟩ := R.mlst ro e
        exact ⟨a, vs, n, j, rfl, rfl, ha, by rw [← r.length]; exact e2, k _ t F _ (Stp.put hm) (R.put hm (.lst (r.set rv j)))⟩
  | _ => exact False.elim t
end

section
variable {X : Cx} {K : PySem.W.Frag}
theorem ext_tup {l : Addr} {items : Array Value} {n : Nat} {b : Addr} {items2 : Array Value} {n2 : Nat} {dd : Option Addr} {sl : Array (Option Value)} (hs0 : ¬(!items.isEmpty && Builtin.List.listTooLong (items.size + items2.size)) = true) (hs1 : items.size ≤ sizeLine) (hs2 : items.size + items2.size ≤ sizeLine + 1) :
    Meets (Builtin.«list.extend» ⟨[.ref l, .ref b], []⟩) (fun _ R s => s.heap.get? l = some { cls := .type "list", dict := none, data := .seq items n, slots := #[] } ∧ s.heap.get? b = some { cls := .type "tuple", dict := dd, data := .seq items2 n2, slots := sl } ∧ R (.ok (.ret Value.none)) { s with heap := s.heap.update l (Obj.mapSeq fun x => x ++ items2), toks := s.toks }) :=
  .of_wp fun prog w A R s h => by
    obtain ⟨hp, g, d, tk, os⟩ := s
    obtain ⟨hl, hb, h⟩ := h
    have f1 := AutoSeq1.idx_int
    have f2 := AutoSeq1.sub_tuple_tuple
    have f3 := AutoSeq1.sub_list_list
    have f4 := AutoSeq1.sub_tuple_list
    have f5 := AutoSeq1.sub_list_tuple
    have hz' : (items ++ items2).size ≤ sizeLine + 1 := by rw [Array.size_append]; exact hs2
    wp_walk using (wpAny_updateSeq hl rfl (hz := hs1) (_hz' := hz')), AutoSeq1.wpAny_loadPart' hl, AutoSeq1.wpAny_loadPart' hb
    exact ⟨_, rfl, h⟩
theorem mt_extT : MtR X "list.extend" (fun x vs H Q => ∃ l b xs zs, x = .ref l ∧ vs = [.ref b] ∧ H l = some (.lst xs) ∧ SqT X.K H b zs ∧ xs.length + zs.length ≤ sizeLine ∧ Q .non (upd H l (.lst (xs ++ zs)))) := by
  intro pins s σ H x vs v us Q I rx rv h
  obtain ⟨l, b, xs, zs, rfl, rfl, hH, hB, hz, q⟩ := h
  cases rx
  obtain ⟨u, rfl, ru⟩ := rv.one
  cases ru
  obtain ⟨z, its, n, r, hl, e⟩ := I.lstM hH
  obtain ⟨its2, r2, ht, _⟩ := I.tuple hB
  have hl2 := r2.length
  obtain ⟨⟨cls, dd, data, sl⟩, ho, hcls, n2, hdata⟩ := ht
  simp only at hcls hdata
  subst hcls hdata
  have fits : its.toArray.size + its2.toArray.size ≤ sizeLine := by simp only [List.size_toArray]; omega
  have short : ¬ (!its.toArray.isEmpty && Builtin.List.listTooLong (its.toArray.size + its2.toArray.size)) = true := by
    rw [notLongL fits, Bool.and_false]; exact Bool.false_ne_true
  refine call_meets F.slot_list_extend ⟨_, e, rfl⟩ F.entry_list_extend (F.args_list_extend_2 _ _) (ext_tup short (by simp only [List.size_toArray]; omega) (by omega)) ⟨e, ho, ?_⟩
  exact ⟨.non, _, I.lset (its' := its ++ its2) hH e (by simp) (r.append r2) (by rw [List.length_append]; omega), rfl, q⟩
theorem mt_extA : MtR X "list.extend" (rExtA X.K) := by
  intro pins s σ H x vs v us Q I rx rv h
  obtain ⟨l, b, xs, zs, e1, e2, hH, hB | hB, hz, q⟩ := h
  · exact mt_extend pins s σ H x vs v us Q I rx rv ⟨l, b, xs, zs, e1, e2, hH, hB, hz, q⟩
  · exact mt_extT pins s σ H x vs v us Q I rx rv ⟨l, b, xs, zs, e1, e2, hH, hB, hz, q⟩
end
end DS
namespace DS
open PySem PySem.Spec PyProof.Rows L2
section
variable {X : Cx} {K : PySem.W.Frag}
def drRepr : DRc := fun ds μ Q => match ds with
  | [d] => match pd μ d with
    | some p => (PyData.showable p = true ∧ p.shown.length ≤ sizeLine ∧ p.depth ≤ 64) ∧ Q (.str p.shown) μ
    | none => False
  | _ => False
end

def kwG {α : Type} (ix : List (Nat ⊕ Nat)) (np nk : Nat) (us ws : List α) : List α := if us.length = np ∧ ws.length = nk then ix.filterMap fun i => match i with
  | .inl i => us[i]?
  | .inr j => ws[j]?
  else []
theorem kwG_rel {α β : Type} {R : α → β → Prop} {ix : List (Nat ⊕ Nat)} {np nk : Nat} {us ws : List α} {us' ws' : List β} (h1 : Paired R us us') (h2 : Paired R ws ws')
    (get : ∀ {xs : List α} {ys : List β} (i : Nat), Paired R xs ys → (∃ a b, xs[i]? = some a ∧ ys[i]? = some b ∧ R a b) ∨ (xs[i]? = none ∧ ys[i]? = none)) : Paired R (kwG ix np nk us ws) (kwG ix np nk us' ws') := by
  unfold kwG
  rw [Paired.length h1, Paired.length h2]
  split
  · induction ix with
    | nil => exact .nil
    | cons i r ih =>
      simp only [List.filterMap_cons]
      cases i with
      | inl i =>
        rcases get i h1 with ⟨a, b, e1, e2, q⟩ | ⟨e1, e2⟩
        · simp only [e1, e2]; exact .cons q ih
        · simp only [e1, e2]; exact ih
      | inr i =>
        rcases get i h2 with ⟨a, b, e1, e2, q⟩ | ⟨e1, e2⟩
        · simp only [e1, e2]; exact .cons q ih
        · simp only [e1, e2]; exact ih
  · exact .nil
theorem paired_get {α β : Type} {R : α → β → Prop} : ∀ {xs : List α} {ys : List β} (i : Nat), Paired R xs ys → (∃ a b, xs[i]? = some a ∧ ys[i]? = some b ∧ R a b) ∨ (xs[i]? = none ∧ ys[i]? = none)
  | _, _, _, .nil => .inr ⟨by simp, by simp⟩
  | _, _, 0, .cons q _ => .inl ⟨_, _, rfl, rfl, q⟩
  | _, _, i + 1, .cons _ r => by
    have := paired_get i r
    simpa using this
theorem kbinds_of {K : PySem.W.Frag} {x qual : Str} {st : Stmt} {f : Addr} {fd : FuncData} {ps ks : List Str} {ix : List (Nat ⊕ Nat)} {np nk : Nat} (F : Fun K x qual st f fd)
    (h : ∀ (kV doc pm : Value) (an : Option Addr) (cdv ct : Value) (us ws : List Value), us.length = np → ws.length = nk → (kwG ix np nk us ws).length = ps.length →
      bindArgs (PySem.W.fnOf x qual (defArgs st) (defBody st) (defScope st) .none kV doc pm an cdv ct) ⟨us, ks.zip ws⟩ = pure (ps.zip (kwG ix np nk us ws))) (h0 : ps ≠ []) : KBinds K fd ps ks (kwG ix np nk) (kwG ix np nk) where
  to := fun s us ws X hl => by
    obtain ⟨oc, od, kV, doc, pm, an, cdv, ct, osl, rfl, _, _⟩ := F.ex
    by_cases hh : us.length = np ∧ ws.length = nk
    · exact .of_eq (h kV doc pm an cdv ct us ws hh.1 hh.2 hl)
    · exact absurd hl (by
        unfold kwG
        rw [if_neg hh]
        intro z
        exact h0 (List.eq_nil_of_length_eq_zero z.symm))
  rel := fun r1 r2 => kwG_rel r1 r2 paired_get
section
variable {X : Cx} {CX : CXT} {k : Nat} {f C : Addr} {fd : FuncData} {ps ks : List Str} {x m : Str} {p pos apos : Pos} {e o : Expr} {es : List Expr} {kws : List Keyword} {nm : Option Str} {kpos : Pos}
theorem pe_gk0 {g : List Value → List Value → List Value} {gV : List V → List V → List V} {sp : Sp} {E : XK} {tk : TA} (F : FnG X.prog X.w X.K X.mg X.base CX k f fd ps sp) (hq : Quiet X.A) (hr : Room k X.A) (hg : Gl X x) (hm : X.mg x = some (.ref f)) (hk : PySem.W.keepIn X.K (.ref f) = true) (hb : KBinds X.K fd ps ks g gV) (hx : Passes CX X E)
    (hkw : PK X kws tk) (hall : (backToKw pos (keywordEach kws X.env)).all (·.1.isSome) = true := by rfl) (hks : (backToKw pos (keywordEach kws X.env)).filterMap (·.1) = ks := by rfl)
    (hdb : (x == ("__debug__" : Str)) = false := by decide) (hpl : ((backToKw pos (keywordEach kws X.env)).any (·.1.isNone)) = false := by rfl) : PE X (.Call (.Name x p) [] kws pos) (tCallK sp gV E tNil tk) :=
  ⟨fun pins s σ H Q I h => wpAny_Call_Name_kw (ld_glob I hg hm (PySem.W.callWith_KW0 (h₀ := X.base) I.ok.mod.kin hk hall (
    thn (hkw.run pos pins s σ H _ I h) fun ws s2 ⟨zs, H2, I2, rz, q2⟩ => ⟨I2.kIn, by rw [hks]; exact callk_g (us := []) F hq hr hb hx I2 .nil rz q2⟩) (by show (_ || _) = false; rw [hpl]; rfl)) hdb)⟩
abbrev DK (X : Cx) (kws : List Keyword) (t : DTA) : Prop := PK X kws (LA X.K t)
theorem dk_nil : DK X [] dNil := ⟨fun ps pins s σ H Q I h => pk_nil.run ps pins s σ H Q I (by
  obtain ⟨F, ρ, μ, Q', R, S, t, k⟩ := h
  exact k [] μ t F H [] (Stp.refl F H μ) R .nil)⟩
theorem dk_cons {te : DTE} {t : DTA} (ha : DE X e te) (hr : DK X kws t) : DK X (⟨nm, e, kpos⟩ :: kws) (dCons te t) := ⟨fun ps pins s σ H Q I h => (pk_cons ha hr).run ps pins s σ H Q I (by
  obtain ⟨F, ρ, μ, Q', R, S, t, k⟩ := h
  refine ⟨F, ρ, μ, _, R, S, t, fun d1 μ1 t1 F1 H1 v1 s1 R1 r1 => ?_⟩
  exact ⟨F1, ρ, μ1, _, R1, S.mono s1.ext, t1, fun ds μ2 t2 F2 H2 vs s2 R2 r2 => k _ μ2 t2 F2 H2 _ (s1.trans s2) R2 (.cons (r1.mono s2.ext) r2)⟩)⟩
abbrev dCallK (sp : DSp) (ix : List (Nat ⊕ Nat)) (np nk : Nat) (t tk : DTA) : DTE := fun ρ μ Q => t ρ μ fun ds μ1 => tk ρ μ1 fun es μ2 => sp (kwG ix np nk ds es) μ2 Q fun _ _ _ => False
theorem RepL.paired {K : PySem.W.Frag} {F : Hp} : ∀ {ds : List SD} {vs : List V}, RepL K F ds vs → Paired (fun d v => RepS K F d v) ds vs
  | _, _, .nil => .nil
  | _, _, .cons h r => .cons h (RepL.paired r)
theorem RepL.ofPaired {K : PySem.W.Frag} {F : Hp} : ∀ {ds : List SD} {vs : List V}, Paired (fun d v => RepS K F d v) ds vs → RepL K F ds vs
  | _, _, .nil => .nil
  | _, _, .cons h r => .cons h (RepL.ofPaired r)
theorem de_callK0 {sp : DSp} {ix : List (Nat ⊕ Nat)} {nk : Nat} {tk : DTA} (F : FnG X.prog X.w X.K X.mg X.base CX k f fd ps (LSp X.K sp)) (hq : Quiet X.A) (hr : Room k X.A) (hg : Gl X x) (hm : X.mg x = some (.ref f)) (hk : PySem.W.keepIn X.K (.ref f) = true) (hb : KBinds X.K fd ps ks (kwG ix 0 nk) (kwG ix 0 nk)) (hx : Passes CX X E0)
    (hkw : DK X kws tk) (hall : (backToKw pos (keywordEach kws X.env)).all (·.1.isSome) = true := by rfl) (hks : (backToKw pos (keywordEach kws X.env)).filterMap (·.1) = ks := by rfl)
    (hdb : (x == ("__debug__" : Str)) = false := by decide) (hpl : ((backToKw pos (keywordEach kws X.env)).any (·.1.isNone)) = false := by rfl) : DE X (.Call (.Name x p) [] kws pos) (dCallK sp ix 0 nk dNil tk) :=
  weakE (pe_gk0 (E := E0) F hq hr hg hm hk hb hx hkw hall hks hdb hpl) fun σ H Q h => by
    obtain ⟨F, ρ, μ, Q', R, S, t, k⟩ := h
    refine ⟨F, ρ, μ, _, R, S, t, fun es μ2 t2 F2 H2 ws s2 R2 r2 => ?_⟩
    exact ⟨F2, μ2, _, Q', _, R2, RepL.ofPaired (kwG_rel (us := []) .nil (RepL.paired r2) paired_get), t2, fun d μ' q F' H' v s R' r' => k d μ' q F' H' v (s2.trans s) R' r', fun _ _ _ q => False.elim q⟩
end

section
variable {α : Type}
def valD (kvs : List (Key × α)) (k : Key) : Option α := (kvs.find? fun kv => decide (kv.1 = k)).map (·.2)
def putD (kvs : List (Key × α)) (k : Key) (v : α) : List (Key × α) :=
  if (kvs.any fun kv => decide (kv.1 = k)) = true then kvs.map (fun kv => if kv.1 = k then (kv.1, v) else kv) else kvs ++ [(k, v)]
end
def dicD (μ : Mu) : SD → Option (List (Key × SD))
  | .dic kvs => some kvs
  | .ref a => match μ a with
    | some (.dic kvs) => some kvs
    | some (.fdic kvs _) => some kvs
    | _ => none
  | _ => none
def keyD : SD → Option Key
  | .int i => some (.inl i)
  | .str s => some (.inr s)
  | _ => none
section
variable {X : Cx} {K : PySem.W.Frag} {F H : Hp} {μ : Mu}
theorem keyD_rep {d : SD} {v : V} {k : Key} (r : RepS K F d v) (h : keyD d = some k) : v = kV k := by
  cases r <;> simp [keyD] at h <;> subst h <;> rfl
structure RepK (K : PySem.W.Frag) (F : Hp) (ds : List (Key × SD)) (vs : List (Key × V)) : Prop where
  keys : vs.map (·.1) = ds.map (·.1)
  vals : RepL K F (ds.map (·.2)) (vs.map (·.2))
theorem RepK.len {ds : List (Key × SD)} {vs : List (Key × V)} (r : RepK K F ds vs) : ds.length = vs.length := by simpa using r.vals.length
theorem RepK.val : ∀ {ds : List (Key × SD)} {vs : List (Key × V)} (k : Key), RepK K F ds vs → (∃ d v, valD ds k = some d ∧ valV vs k = some v ∧ RepS K F d v) ∨ (valD ds k = none ∧ valV vs k = none)
  | [], [], _, _ => .inr ⟨rfl, rfl⟩
  | [], _ :: _, _, r => by have := r.keys; simp at this
  | _ :: _, [], _, r => by have := r.keys; simp at this
  | (a, d) :: ds, (b, v) :: vs, k, r => by
    have h1 := r.keys
    simp only [List.map_cons, List.cons.injEq] at h1
    obtain ⟨rfl, h1⟩ := h1
    have h2 := r.vals
    simp only [List.map_cons] at h2
    cases h2 with
    | cons q1 q2 =>
      by_cases hk : b = k
      · subst hk
        exact .inl ⟨d, v, by simp [valD], by simp [valV], q1⟩
      · have := RepK.val k ⟨h1, q2⟩
        have e1 : valD ((b, d) :: ds) k = valD ds k := by simp [valD, hk]
        have e2 : valV ((b, v) :: vs) k = valV vs k := by simp [valV, hk]
        rw [e1, e2]; exact this
theorem RepK.put {ds : List (Key × SD)} {vs : List (Key × V)} {d : SD} {v : V} (k : Key) (r : RepK K F ds vs) (q : RepS K F d v) : RepK K F (putD ds k d) (putK vs k v) := by
  have hany : (ds.any fun kv => decide (kv.1 = k)) = (vs.any fun kv => decide (kv.1 = k)) := by
    have e1 : (ds.any fun kv => decide (kv.1 = k)) = ((ds.map (·.1)).any fun x => decide (x = k)) := by rw [List.any_map]; rfl
    have e2 : (vs.any fun kv => decide (kv.1 = k)) = ((vs.map (·.1)).any fun x => decide (x = k)) := by rw [List.any_map]; rfl
    rw [e1, e2, r.keys]
  unfold putD putK
  rw [hany]
  split
  · have aux : ∀ {ds : List (Key × SD)} {vs : List (Key × V)}, RepK K F ds vs → RepK K F (ds.map (fun kv => if kv.1 = k then (kv.1, d) else kv)) (vs.map (fun kv => if kv.1 = k then (kv.1, v) else kv)) := by
      intro ds
      induction ds with
      | nil =>
        intro vs r
        have := r.keys
        cases vs with
        | nil => exact ⟨rfl, .nil⟩
        | cons _ _ => simp at this
      | cons a ds ih =>
        intro vs r
        cases vs with
        | nil => have := r.keys; simp at this
        | cons b vs =>
          obtain ⟨a1, a2⟩ := a
          obtain ⟨b1, b2⟩ := b
          have h1 := r.keys
          simp only [List.map_cons, List.cons.injEq] at h1
          obtain ⟨rfl, h1⟩ := h1
          have h2 := r.vals
          simp only [List.map_cons] at h2
          cases h2 with
          | cons q1 q2 =>
            have rest := ih ⟨h1, q2⟩
            by_cases hk : b1 = k
            · simp only [List.map_cons, if_pos hk]
              exact ⟨by simp only [List.map_cons]; rw [rest.keys], .cons q rest.vals⟩
            · simp only [List.map_cons, if_neg hk]
              exact ⟨by simp only [List.map_cons]; rw [rest.keys], .cons q1 rest.vals⟩
    exact aux r
  · exact ⟨by simp [r.keys], by simp only [List.map_append, List.map_cons, List.map_nil]; exact r.vals.append (.one q)⟩
theorem HReal.dic (R : HReal K F H μ) {d : SD} {v : V} {kvs : List (Key × SD)} (r : RepS K F d v) (e : dicD μ d = some kvs) : ∃ a vs, v = .ref a ∧ Rd H a (.dK vs) ∧ RepK K F kvs vs := by
  cases r with
  | dic h q r => cases e; exact ⟨_, _, rfl, R.ext.rd _ _ h, ⟨q, r⟩⟩
  | ref a =>
    unfold dicD at e
    simp only at e
    split at e
    · rename_i ys hy
      cases e
      obtain ⟨_, o, h, q⟩ := R.mus a _ hy
      cases q with
      | dic q r => exact ⟨a, _, rfl, .inl h, ⟨q, r⟩⟩
    · rename_i ys oo hy
      cases e
      obtain ⟨_, o, h, q⟩ := R.mus a _ hy
      cases q with
      | fdic q r => exact ⟨a, _, rfl, .inr ⟨_, h⟩, ⟨q, r⟩⟩
    · cases e
  | _ => cases e
variable {o i e value : Expr} {pos pos' apos cpos : Pos} {td ty tv tx : DTE}
def drGet (x y : SD) (μ2 : Mu) (Q : SD → Mu → Prop) : Prop := match dicD μ2 x, keyD y with
  | some kvs, some k => match valD kvs k with
    | some v => Q v μ2
    | none => False
  | _, _ => False
abbrev dDGet (td ty : DTE) : DTE := fun ρ μ Q => td ρ μ fun x μ1 => ty ρ μ1 fun y μ2 => drGet x y μ2 Q
theorem de_dget (hu : X.A.units + 1 < cLine) (ho : DE X o td) (hi : DE X i ty) (hs : NoSl i) : DE X (.Subscript o i pos) (dDGet td ty) := weakE (pe_dget hu ho hi hs) fun σ H Q h => by
  obtain ⟨F, ρ, μ, Q', R, S, t, k⟩ := h
  refine ⟨F, ρ, μ, _, R, S, t, fun x μ1 t1 F1 H1 v1 s1 R1 r1 => ⟨F1, ρ, μ1, _, R1, S.mono s1.ext, t1, fun y μ2 t2 F2 H2 v2 s2 R2 r2 => ?_⟩⟩
  unfold drGet at t2
  cases e1 : dicD μ2 x with
  | none => rw [e1] at t2; exact False.elim t2
  | some kvs => cases e2 : keyD y with
    | none => rw [e1, e2] at t2; exact False.elim t2
    | some key =>
      rw [e1, e2] at t2
      simp only at t2
      obtain ⟨a, vs, rfl, hd, rk⟩ := R2.dic (r1.mono s2.ext) e1
      rcases rk.val key with ⟨d, v, q1, q2, q3⟩ | ⟨q1, q2⟩
      · rw [q1] at t2
        exact ⟨a, v, rfl, .inl ⟨vs, key, hd, keyD_rep r2 e2, q2.symm⟩, k d μ2 t2 F2 H2 v (s1.trans s2) R2 q3⟩
      · rw [q1] at t2; exact False.elim t2
/-- d.get(k, x) -/
def drGet2 (x y z : SD) (μ3 : Mu) (Q : SD → Mu → Prop) : Prop := match dicD μ3 x, keyD y with
  | some kvs, some k => Q ((valD kvs k).getD z) μ3
  | _, _ => False
/-- k in d, k not in d -/
def drDIn (neg : Bool) (x y : SD) (μ2 : Mu) (Q : SD → Mu → Prop) : Prop := match dicD μ2 x, keyD y with
  | some kvs, some k => Q (.bl (neg != (valD kvs k).isSome)) μ2
  | _, _ => False
abbrev dDIn (neg : Bool) (ty td : DTE) : DTE := fun ρ μ Q => ty ρ μ fun y μ1 => td ρ μ1 fun x μ2 => drDIn neg x y μ2 Q
theorem lift_din {neg : Bool} {K : PySem.W.Frag} : ∀ σ H Q, LE K (dDIn neg ty td) σ H Q → LE K ty σ H fun y H1 => LE K td σ H1 fun x H2 => ∃ a o, x = .ref a ∧ DGet H2 a y o ∧ Q (.bl (neg != o.isSome)) H2 := fun σ H Q h => by
  obtain ⟨F, ρ, μ, Q', R, S, t, k⟩ := h
  refine ⟨F, ρ, μ, _, R, S, t, fun y μ1 t1 F1 H1 v1 s1 R1 r1 => ⟨F1, ρ, μ1, _, R1, S.mono s1.ext, t1, fun x μ2 t2 F2 H2 v2 s2 R2 r2 => ?_⟩⟩
  unfold drDIn at t2
  cases e1 : dicD μ2 x with
  | none => rw [e1] at t2; exact False.elim t2
  | some kvs => cases e2 : keyD y with
    | none => rw [e1, e2] at t2; exact False.elim t2
    | some key =>
      rw [e1, e2] at t2
      simp only at t2
      obtain ⟨a, vs, rfl, hd, rk⟩ := R2.dic r2 e1
      refine ⟨a, valV vs key, rfl, .inl ⟨vs, key, hd, keyD_rep (r1.mono s2.ext) e2, rfl⟩, ?_⟩
      have e3 : (valV vs key).isSome = (valD kvs key).isSome := by
        rcases rk.val key with ⟨d, v, q1, q2, q3⟩ | ⟨q1, q2⟩ <;> rw [q1, q2] <;> rfl
      rw [e3]
      exact k _ μ2 t2 F2 H2 _ (s1.trans s2) R2 (.bl _)
theorem de_dnotin (hu : X.A.units + 1 < cLine) (hi : DE X i ty) (ho : DE X o td) (hm : behindInMarks .NotIn o = false := by rfl) : DE X (.Compare i [.NotIn] [o] pos) (dDIn true ty td) := weakE (pe_cmp (pc_dnotin hu hi ho) (h1 := hm)) fun σ H Q h => by
  have := lift_din σ H Q h
  simpa [tDNotIn] using this
/-- d[k] = v -/
def mdic (μ : Mu) : SD → Option (Addr × List (Key × SD))
  | .ref a => match μ a with
    | some (.dic xs) => some (a, xs)
    | _ => none
  | _ => none
theorem HReal.mdic (R : HReal K F H μ) {d : SD} {v : V} {a : Addr} {xs : List (Key × SD)} (r : RepS K F d v) (h : DS.mdic μ d = some (a, xs)) : v = .ref a ∧ μ a = some (.dic xs) ∧ ∃ vs, H a = some (.dK vs) ∧ RepK K F xs vs := by
  cases r with
  | ref b =>
    unfold DS.mdic at h
    simp only at h
    split at h
    · rename_i ys hy
      cases h
      obtain ⟨_, o, h, q⟩ := R.mus _ _ hy
      cases q with
      | dic q r => exact ⟨rfl, hy, _, h, ⟨q, r⟩⟩
    · cases h
  | _ => cases h
def drPut (x y v : SD) (μ3 : Mu) (Q : Mu → Prop) : Prop := match mdic μ3 x, keyD y with
  | some (a, kvs), some k => kvs.length < sizeLine ∧ Q (up μ3 a (.dic (putD kvs k v)))
  | _, _ => False
abbrev dDPut (td ty tv : DTE) : DTS := fun D ρ μ => tv ρ μ fun v μ1 => td ρ μ1 fun x μ2 => ty ρ μ2 fun y μ3 => drPut x y v μ3 (D.nx ρ)
theorem ds_dput (hu : X.A.units + 1 < cLine) (ho : DE X o td) (hi : DE X i ty) (hv : DE X value tv) (hs : swapsWith value (some (.Subscript o i pos')) pos.line X.env = pure false) :
    DS_ X (.Assign [.Subscript o i pos'] value pos) (dDPut td ty tv) := weakS (ps_dput hu ho hi hv hs) fun D σ H h => by
  obtain ⟨F, ρ, μ, D', R, S, t, k, _⟩ := h
  refine ⟨F, ρ, μ, _, R, S, t, fun v μ1 t1 F1 H1 v1 s1 R1 r1 => ⟨F1, ρ, μ1, _, R1, S.mono s1.ext, t1, fun x μ2 t2 F2 H2 v2 s2 R2 r2 => ⟨F2, ρ, μ2, _, R2, (S.mono s1.ext).mono s2.ext, t2, fun y μ3 t3 F3 H3 v3 s3 R3 r3 => ?_⟩⟩⟩
  unfold drPut at t3
  cases e1 : mdic μ3 x with
  | none => rw [e1] at t3; exact False.elim t3
  | some pr => cases e2 : keyD y with
    | none => rw [e1, e2] at t3; exact False.elim t3
    | some key =>
      obtain ⟨a, kvs⟩ := pr
      rw [e1, e2] at t3
      simp only at t3
      obtain ⟨rfl, hm, vs, hH, rk⟩ := R3.mdic (r2.mono s3.ext) e1
      have rk2 := rk.put key (r1.mono (s2.trans s3).ext)
      refine ⟨a, _, rfl, .inl ⟨vs, key, hH, keyD_rep r3 e2, by rw [← rk.len]; exact t3.1, rfl⟩, ?_⟩
      exact k ρ _ t3.2 F3 _ σ (((s1.trans s2).trans s3).trans (Stp.put hm)) (R3.put hm (.dic rk2.keys rk2.vals)) (((S.mono s1.ext).mono s2.ext).mono s3.ext)
end
end DS
namespace DS
open PySem PySem.Spec PyProof.Rows L2
section
variable {prog : Program} {w : World} {A : Around} {E : Value → Shared → Prop} {s : Shared}
theorem places_back (n : Nat) : Builtin.Slice.slicePlaces ((n : Int) - 1) (-1) (-1) = n := by
  unfold Builtin.Slice.slicePlaces
  rw [if_neg (by decide)]
  by_cases h : 0 < n
  · rw [if_pos (by omega), show ((n : Int) - 1 - -1 - 1) / (- -1) + 1 = n by rw [show (- -1 : Int) = 1 by decide, Int.ediv_one]; omega]
    exact Int.toNat_natCast n
  · obtain rfl : n = 0 := by omega
    rfl
theorem filterMap_some {α β : Type} {f : α → Option β} {g : α → β} : ∀ l : List α, (∀ k ∈ l, f k = some (g k)) → l.filterMap f = l.map g
  | [], _ => rfl
  | a :: r, h => by rw [List.filterMap_cons, h a List.mem_cons_self, List.map_cons, filterMap_some r fun k hk => h k (List.mem_cons_of_mem _ hk)]
theorem back_pick (xs : List Value) : ((List.range xs.length).filterMap fun (k : Nat) => xs.toArray[((xs.length : Int) - 1 + (k : Int) * -1).toNat]?).toArray = xs.reverse.toArray := by
  congr 1
  have e : ∀ k ∈ List.range xs.length, xs.toArray[((xs.length : Int) - 1 + (k : Int) * -1).toNat]? = some (xs.reverse.getD k .none) := fun k hk => by
    have hk := List.mem_range.mp hk
    have e1 : ((xs.length : Int) - 1 + (k : Int) * -1).toNat = xs.length - 1 - k := by omega
    rw [e1, List.getElem?_toArray, List.getD_eq_getElem?_getD, List.getElem?_reverse hk, List.getElem?_eq_getElem (by omega)]
    rfl
  rw [filterMap_some _ e]
  apply List.ext_getElem
  · simp
  · intro i h1 h2
    simp at h1
    simp [List.getD_eq_getElem?_getD, h1]
theorem applied_back {sl : Addr} {vl vu vs : Value} {n : Nat} {Q : Int × Int × Nat → Shared → Prop} (hs : s.heap.IsSliceOf sl vl vu vs) (pl : IsPart vl none) (pu : IsPart vu none) (ps : IsPart vs (some (-1)))
    (h : Q ((n : Int) - 1, -1, n) s) : wpAny (model prog w) A (Builtin.Slice.sliceApplied (.ref sl) (pure (n : Int))) Q E s := by
  obtain ⟨os, hos, hcs, hds⟩ := id hs
  unfold Builtin.Slice.sliceApplied Builtin.Slice.sliceFields
  refine wpAny_bind (wpAny_bind (wpAny_field hos hds (x := vl) rfl (wpAny_bind (wpAny_field hos hds (x := vu) rfl (wpAny_bind (wpAny_field hos hds (x := vs) rfl (wpAny_pure ?_)))))))
  refine wpAny_bind (HT.slicePart_ ps ?_)
  show wpAny _ _ (if ((-1 : Int) == 0) = true then _ else _) _ _ s
  rw [if_neg (by decide)]
  refine wpAny_bind (HT.slicePart_ pl (wpAny_bind (HT.slicePart_ pu (wpAny_bind (wpAny_pure ?_)))))
  show wpAny _ _ (pure ((n : Int) - 1, (-1 : Int), Builtin.Slice.slicePlaces ((n : Int) - 1) (-1) (-1))) _ _ s
  rw [places_back]
  exact wpAny_pure h
theorem tuple_back {t sl : Addr} {xs : List Value} {vl vu vs : Value} {Q : Value → Shared → Prop} (ht : IsTup s.heap t xs.toArray) (hs : s.heap.IsSliceOf sl vl vu vs) (pl : IsPart vl none) (pu : IsPart vu none) (ps : IsPart vs (some (-1)))
    (h : Q (.ref s.heap.objs.size) { s with heap := s.heap.push { cls := .type "tuple", data := .seq xs.reverse.toArray } }) (hsz : xs.length ≤ sizeLine) : wpAny (model prog w) A (getItem (.ref t) (.ref sl)) Q E s := by
  have fits : sizeOk (.seq xs.reverse.toArray) := by
    show xs.reverse.toArray.size ≤ sizeLine
    rw [List.size_toArray, List.length_reverse]; exact hsz
  obtain ⟨os, hos, hcs, hds⟩ := id hs
  have hTs : s.TypeIs (.ref sl) "slice" := ⟨os, hos, hcs⟩
  unfold getItem
  try with_reducible refine wpAny_holding ?_
  first | refine wpAny_bind (wpAny_pure ?_) | skip
  refine wpAny_bind (wpAny_sequenceKey ht.typeIs (by decide) ?_)
  refine wpAny_bind (wpAny_callSpecial?_slot (name := Str.ofString "__getitem__") ht.typeIs PyProof.Rows.slot_tuple_getitem (wpAny_call_entry PyProof.Rows.slot_tuple_getitem ht.typeIs entry_tuple_getitem ?_ (args_tuple_getitem _ _)))
  show wpAny _ _ (Builtin.Tuple.tupleItemsOf (.ref t) >>= _) _ _ s
  refine wpAny_bind (tupleItemsOf_ ht ?_)
  refine wpAny_bind (wpAny_typeOf hTs ?_)
  rw [if_pos (by decide)]
  have size_ : xs.toArray.size = xs.length := List.size_toArray
  rw [size_]
  refine wpAny_bind (applied_back hs pl pu ps ?_)
  have off : ¬ (((xs.length : Int) - 1 == 0 && (-1 : Int) == 1 && xs.length == xs.length) = true) := by
    rw [show ((-1 : Int) == 1) = false by decide]; simp
  show wpAny _ _ (if ((xs.length : Int) - 1 == 0 && (-1 : Int) == 1 && xs.length == xs.length) = true then _ else _) _ _ s
  rw [if_neg off, back_pick]
  first
    | exact wpAny_bind (m := Builtin.Tuple.tupleExact _) (wpAny_newObj_type (wpAny_pure ⟨_, rfl, wpAny_pure h⟩) fits)
    | exact wpAny_bind (m := Builtin.Tuple.tupleExact _) (wpAny_newObj_type (wpAny_bind (wpAny_pure (wpAny_pure ⟨_, rfl, wpAny_pure h⟩))) fits)
    | exact wpAny_bind (wpAny_bind (m := Builtin.Tuple.tupleExact _) (wpAny_newObj_type (wpAny_pure (wpAny_pure ⟨_, rfl, wpAny_pure h⟩)) fits))
    | exact wpAny_bind (wpAny_bind (m := Builtin.Tuple.tupleExact _) (wpAny_newObj_type (wpAny_pure ⟨_, rfl, wpAny_pure h⟩) fits))
end
section
variable {X : Cx} {K : PySem.W.Frag} {e o i : Expr} {pos p1 p2 p3 : Pos} {te td : DTE} {k1 : Nat}
def dPairs : List (DTE × DTE) → Rho → Mu → (List (SD × SD) → Mu → Prop) → Prop
  | [], _, μ, Q => Q [] μ
  | (tk, tv) :: r, ρ, μ, Q => tk ρ μ fun x μ1 => tv ρ μ1 fun y μ2 => dPairs r ρ μ2 fun ps μ3 => Q ((x, y) :: ps) μ3
def keysD : List (SD × SD) → Option (List (Key × SD))
  | [] => some []
  | (x, y) :: r => match keyD x, keysD r with
    | some k, some ks => some ((k, y) :: ks)
    | _, _ => none
def mergeD (kvs more : List (Key × SD)) : List (Key × SD) := more.foldl (fun acc kv => putD acc kv.1 kv.2) kvs
def dDispM (trs : List (DTE × DTE)) : DTE := fun ρ μ Q => dPairs trs ρ μ fun ps μ1 => match keysD ps with
  | some kvs => ∀ p, μ1 p = none → Q (.ref p) (up μ1 p (.dic (mergeD [] kvs)))
  | none => False
abbrev lifts (K : PySem.W.Frag) (trs : List (DTE × DTE)) : List (TE × TE) := trs.map fun t => (LE K t.1, LE K t.2)
abbrev DPs (X : Cx) (pos : Pos) (keys : List (Option Expr)) (values : List Expr) (trs : List (DTE × DTE)) : Prop := PPs X pos keys values (lifts X.K trs)
theorem dps_nil : DPs X pos [] [] [] := pps_nil
theorem dps_cons {k v : Expr} {ks : List (Option Expr)} {vs : List Expr} {tk tv : DTE} {trs : List (DTE × DTE)} (hk : DE X k tk) (hv : DE X v tv) (hr : DPs X pos ks vs trs) : DPs X pos (some k :: ks) (v :: vs) ((tk, tv) :: trs) := pps_cons hk hv hr
theorem liftPairs : ∀ (trs : List (DTE × DTE)) {σ : L2.St} {H F : Hp} {ρ : Rho} {μ : Mu} {Q : List (V × V) → Hp → Prop} {Q' : List (SD × SD) → Mu → Prop}, HReal K F H μ → Slots K F σ ρ → dPairs trs ρ μ Q' →
    (∀ ps μ', Q' ps μ' → ∀ F' H' vs, Stp F H μ F' H' μ' → HReal K F' H' μ' → vs.length = trs.length → Paired (fun (p : SD × SD) (q : V × V) => RepS K F' p.1 q.1 ∧ RepS K F' p.2 q.2) ps vs → Q vs H') → tPairs (lifts K trs) σ H Q
  | [], σ, H, F, ρ, μ, Q, Q', R, S, t, k => k [] μ t F H [] (Stp.refl _ _ _) R rfl .nil
  | (tk, tv) :: r, σ, H, F, ρ, μ, Q, Q', R, S, t, k => by
    refine ⟨F, ρ, μ, _, R, S, t, fun x μ1 t1 F1 H1 v1 s1 R1 r1 => ⟨F1, ρ, μ1, _, R1, S.mono s1.ext, t1, fun y μ2 t2 F2 H2 v2 s2 R2 r2 => ?_⟩⟩
    refine liftPairs r R2 ((S.mono s1.ext).mono s2.ext) t2 fun ps μ3 t3 F3 H3 vs s3 R3 hl3 r3 => ?_
    exact k _ μ3 t3 F3 H3 _ ((s1.trans s2).trans s3) R3 (by simp [hl3]) (.cons ⟨(r1.mono s2.ext).mono s3.ext, r2.mono s3.ext⟩ r3)
theorem keysD_rep {F : Hp} : ∀ {ps : List (SD × SD)} {vs : List (V × V)} {kvs : List (Key × SD)}, Paired (fun (p : SD × SD) (q : V × V) => RepS K F p.1 q.1 ∧ RepS K F p.2 q.2) ps vs → keysD ps = some kvs →
    ∃ ws : List (Key × V), vs = ws.map (fun kv => (kV kv.1, kv.2)) ∧ RepK K F kvs ws ∧ ws.length = vs.length
  | _, _, _, .nil, e => by cases e; exact ⟨[], rfl, ⟨rfl, .nil⟩, rfl⟩
  | (x, y) :: ps, (v, u) :: vs, _, .cons q r, e => by
    unfold keysD at e
    cases e1 : keyD x with
    | none => rw [e1] at e; cases e
    | some k => cases e2 : keysD ps with
      | none => rw [e1, e2] at e; cases e
      | some ks =>
        rw [e1, e2] at e
        cases e
        obtain ⟨ws, h1, h2, h3⟩ := keysD_rep r e2
        have hk : v = kV k := keyD_rep q.1 e1
        subst hk
        exact ⟨(k, u) :: ws, by rw [List.map_cons, ← h1], ⟨by simp [h2.keys], .cons q.2 h2.vals⟩, by simp [h3]⟩
theorem RepK.merge {F : Hp} : ∀ {more : List (Key × SD)} {mv : List (Key × V)} {kvs : List (Key × SD)} {vs : List (Key × V)}, RepK K F kvs vs → RepK K F more mv → RepK K F (mergeD kvs more) (mergeK vs mv)
  | [], [], _, _, r, _ => r
  | [], _ :: _, _, _, _, r => by have := r.keys; simp at this
  | _ :: _, [], _, _, _, r => by have := r.keys; simp at this
  | (a, d) :: more, (b, v) :: mv, kvs, vs, r, m => by
    have h1 := m.keys
    simp only [List.map_cons, List.cons.injEq] at h1
    obtain ⟨rfl, h1⟩ := h1
    have h2 := m.vals
    simp only [List.map_cons] at h2
    cases h2 with
    | cons q1 q2 =>
      show RepK K F (mergeD (putD kvs b d) more) (mergeK (putK vs b v) mv)
      exact RepK.merge (r.put b q1) ⟨h1, q2⟩
theorem liftDisp {trs : List (DTE × DTE)} {σ : L2.St} {H F : Hp} {ρ : Rho} {μ : Mu} {Q : VK} {Q' : List (SD × SD) → Mu → Prop} (h15 : trs.length ≤ 15) (R : HReal K F H μ) (S : Slots K F σ ρ) (t : dPairs trs ρ μ Q')
    (k : ∀ ps μ', Q' ps μ' → ∃ kvs, keysD ps = some kvs ∧ ∀ F' H' p ws, Stp F H μ F' H' μ' → HReal K F' H' μ' → F' p = none → μ' p = none → H' p = some (.dK ws) → RepK K F' (mergeD [] kvs) ws → (∀ a, H a ≠ none → F a = none → μ a = none → a ≠ p) → Q (.ref p) H') : tDisp (lifts K trs) σ H Q := by
  intro p hp
  have hF := R.freeF hp
  have hM := R.freeM hp
  refine liftPairs trs (R.aside (o := .dK []) hF hM) S t fun ps μ' t' F' H' vs s R' hl r => ?_
  · obtain ⟨kvs, e, k⟩ := k ps μ' t'
    obtain ⟨q1, q2, q3⟩ := s.fr p (by rw [upd_same]; exact fun z => nomatch z) hF hM
    obtain ⟨ws, h1, h2, h3⟩ := keysD_rep r e
    refine ⟨by rw [q1, upd_same], ws, h1, by rw [h3, hl]; exact h15, ?_⟩
    have ne : ∀ a, H a ≠ none → a ≠ p := fun a ha z => by subst z; exact ha hp
    refine k F' _ p (mergeK [] ws) ⟨s.ext, fun a a1 a2 a3 => ?_⟩ (R'.aside q2 q3) q2 q3 upd_same (RepK.merge ⟨rfl, .nil⟩ h2) fun a a1 _ _ => ne a a1
    have na := ne a a1
    obtain ⟨b1, b2, b3⟩ := s.fr a (by rw [upd_ne na]; exact a1) a2 a3
    exact ⟨by rw [upd_ne na, b1, upd_ne na], b2, b3⟩
theorem de_dispM {keys : List (Option Expr)} {values : List Expr} {trs : List (DTE × DTE)} (h : DPs X pos keys values trs) (hall : keys.all (·.isSome) = true) (hl : keys.length = values.length) (h0 : keys ≠ []) (h15 : keys.length ≤ 15) (ht : trs.length ≤ 15) : DE X (.Dict keys values pos) (dDispM trs) :=
  weakE (pe_disp h hall hl h0 h15) fun σ H Q h => by
    obtain ⟨F, ρ, μ, Q', R, S, t, k⟩ := h
    refine liftDisp ht R S t fun ps μ' t' => ?_
    cases e : keysD ps with
    | none => rw [e] at t'; exact False.elim t'
    | some kvs =>
      rw [e] at t'
      refine ⟨kvs, rfl, fun F' H' p ws s R' f m hp rk ne => ?_⟩
      refine k _ _ (t' p m) F' H' (.ref p) ⟨s.ext, fun a h1 h2 h3 => ?_⟩ (R'.adoptM f hp (.dic rk.keys rk.vals)) (.ref p)
      obtain ⟨q1, q2, q3⟩ := s.fr a h1 h2 h3
      exact ⟨q1, q2, by rw [up_ne (ne a h1 h2 h3)]; exact q3⟩
/-- {} -/
abbrev dDict0M : DTE := fun _ μ Q => ∀ p, μ p = none → Q (.ref p) (up μ p (.dic []))
abbrev dDict0S : DTE := fun _ μ Q => Q (.dic []) μ
theorem de_dict0M : DE X (.Dict [] [] pos) dDict0M := weakE pe_dnewK fun σ H Q h => by
  obtain ⟨F, ρ, μ, Q', R, S, t, k⟩ := h
  exact fun p hp => k _ _ (t p (R.freeM hp)) _ _ _ (Stp.newM R hp) (R.newM hp (.dic rfl .nil)) (.ref p)
theorem de_dict0S : DE X (.Dict [] [] pos) dDict0S := weakE pe_dnewK fun σ H Q h => by
  obtain ⟨F, ρ, μ, Q', R, S, t, k⟩ := h
  exact fun p hp => k _ _ t _ _ _ (Stp.newS R hp) (R.newS hp) (.dic (.inl upd_same) rfl .nil)

/-- an expression that gives a dict, which is locked as it is from then on -/
def tLockA (H0 : Hp) (td : TE) : TE := fun σ H Q => td σ H fun x H1 => ∃ d kvs, x = .ref d ∧ ((H1 d = some (.dK kvs) ∧ ∀ od, (∀ o' u', H0 d ≠ some (.frz o' u')) → Q x (upd H1 d (.frz od (.dK kvs)))) ∨ ∃ od, H1 d = some (.frz od (.dK kvs)) ∧ Q x H1)
theorem pe_lockA {td : TE} (he : PE X e td) : PE X e (tLockA X.H_0 td) := ⟨fun pins s σ H Q I h => thn (he.run pins s σ H _ I h) fun v s1 ⟨x, H1, I1, r1, d, kvs, ex, q⟩ => by
  rcases q with ⟨hd, q⟩ | ⟨od, hd, q⟩
  · obtain ⟨od, I2⟩ := I1.lock hd trivial
    exact ⟨x, _, I2, r1, q od fun o' u' z => by rw [I1.base.frzs d o' u' z] at hd; cases hd⟩
  · exact ⟨x, H1, I1, r1, q⟩⟩
def Unl (H0 : Hp) (P : Hp → Prop) : Hp → Prop := fun H => P H ∨ ∃ d od u, H d = some (.frz od u) ∧ (∀ o' u', H0 d ≠ some (.frz o' u')) ∧ P (upd H d u)
def keyS : Key → SD
  | .inl i => .int i
  | .inr x => .str x
theorem keyS_rep {F : Hp} (k : Key) : RepS K F (keyS k) (kV k) := by cases k <;> constructor
def itemsS (kvs : List (Key × SD)) : List SD := kvs.map fun kv => .tup [keyS kv.1, kv.2]
theorem RepK.get {F : Hp} {ds : List (Key × SD)} {vs : List (Key × V)} (r : RepK K F ds vs) {i : Nat} {k : Key} {v : V} (h : vs[i]? = some (k, v)) : ∃ d, ds[i]? = some (k, d) ∧ RepS K F d v := by
  have h1 : (vs.map (·.2))[i]? = some v := by rw [List.getElem?_map, h]; rfl
  obtain ⟨d, h2, h3⟩ := r.vals.getV h1
  have h4 : (ds.map (·.1))[i]? = some k := by rw [← r.keys, List.getElem?_map, h]; rfl
  rw [List.getElem?_map] at h2 h4
  cases e : ds[i]? with
  | none => rw [e] at h2; cases h2
  | some p =>
    rw [e] at h2 h4
    obtain ⟨a, b⟩ := p
    cases h2; cases h4
    exact ⟨_, rfl, h3⟩
end
end DS
namespace DS
open PySem PySem.Spec PyProof.Rows L2
/-- enough to read data -/
structure Ext0 (K : PySem.W.Frag) (F F' : Hp) : Prop where
  t : ∀ a xs, SqT K F a xs → SqT K F' a xs
  l : ∀ a xs, SqL K F a xs → SqL K F' a xs
  ls : ∀ a vs, F a = some (.lst vs) → F' a = some (.lst vs)
  d : ∀ a vs, Rd F a (.dK vs) → Rd F' a (.dK vs)
  st : ∀ a o, still o = true → F a = some o → F' a = some o
  pt : ∀ a o vs, F a = some (.frz o (.tup vs)) → F' a = some (.frz o (.tup vs))
mutual
theorem RepS.mono0 {K : PySem.W.Frag} {F F' : Hp} (e : Ext0 K F F') : ∀ {d : SD} {v : V}, RepS K F d v → RepS K F' d v
  | _, _, .non => .non
  | _, _, .bl b => .bl b
  | _, _, .int i => .int i
  | _, _, .str x => .str x
  | _, _, .ref a => .ref a
  | _, _, .ty n => .ty n
  | _, _, .tup h r => .tup (e.t _ _ h) (RepL.mono0 e r)
  | _, _, .lst h r => .lst (e.ls _ _ h) (RepL.mono0 e r)
  | _, _, .rol h r => .rol (e.l _ _ h) (RepL.mono0 e r)
  | _, _, .dic h q r => .dic (e.d _ _ h) q (RepL.mono0 e r)
  | _, _, .exc0 h q => .exc0 h (e.st _ _ rfl q)
  | _, _, .exc h q p z r => .exc h (e.st _ _ rfl q) (e.st _ _ rfl p) z (RepL.mono0 e r)
  | _, _, .ptp h q r => .ptp (e.pt _ _ _ h) q (RepL.mono0 e r)
theorem RepL.mono0 {K : PySem.W.Frag} {F F' : Hp} (e : Ext0 K F F') : ∀ {ds : List SD} {vs : List V}, RepL K F ds vs → RepL K F' ds vs
  | _, _, .nil => .nil
  | _, _, .cons h r => .cons (RepS.mono0 e h) (RepL.mono0 e r)
end
theorem RepO.mono0 {K : PySem.W.Frag} {F F' : Hp} (e : Ext0 K F F') {m : MO} {o : HO} (h : RepO K F m o) : RepO K F' m o := by
  cases h with
  | lst r => exact .lst (r.mono0 e)
  | dic q r => exact .dic q (r.mono0 e)
  | obj c q r => exact .obj c q (r.mono0 e)
  | fdic q r => exact .fdic q (r.mono0 e)
  | tab a t k => exact .tab a t fun pos cv hc => (k pos cv hc).elim fun c z => ⟨c, z.1, e.st _ _ rfl z.2⟩
  | hob => exact .hob
theorem Slots.mono0 {K : PySem.W.Frag} {F F' : Hp} {σ : L2.St} {ρ : Rho} (e : Ext0 K F F') (h : Slots K F σ ρ) : Slots K F' σ ρ := ⟨h.len, fun i d q => let ⟨v, a, b⟩ := h.at_ i d q; ⟨v, a, b.mono0 e⟩⟩
section
variable {K : PySem.W.Frag} {F H : Hp} {μ : Mu} {d : Addr} {od : Obj} {vs : List (Key × V)}
theorem ext_lock (h : F d = some (.dK vs)) : Ext F (upd F d (.frz od (.dK vs))) := by
  refine ⟨fun a u r => ?_, fun a us r => ?_, fun a o u r => ?_, fun a o hs r => ?_⟩
  · by_cases e : a = d
    · subst e
      rcases r with r | ⟨o, r⟩ <;> rw [h] at r <;> cases r
      exact .inr ⟨od, upd_same⟩
    · rcases r with r | ⟨o, r⟩
      · exact .inl (by rw [upd_ne e]; exact r)
      · exact .inr ⟨o, by rw [upd_ne e]; exact r⟩
  · have e : a ≠ d := fun e => by subst e; rw [h] at r; cases r
    rw [upd_ne e]; exact r
  · have e : a ≠ d := fun e => by subst e; rw [h] at r; cases r
    rw [upd_ne e]; exact r
  · have e : a ≠ d := fun e => by subst e; rw [h] at r; cases r; cases hs
    rw [upd_ne e]; exact r
theorem HReal.lockD (R : HReal K F H μ) (h : F d = some (.dK vs)) : HReal K (upd F d (.frz od (.dK vs))) (upd H d (.frz od (.dK vs))) μ ∧ Stp F H μ (upd F d (.frz od (.dK vs))) (upd H d (.frz od (.dK vs))) μ := by
  have nd : ∀ a, F a = none → a ≠ d := fun a q e => by subst e; rw [h] at q; cases q
  refine ⟨⟨fun a o q => ?_, fun a m q => ?_⟩, ⟨ext_lock h, fun a h1 h2 h3 => ?_⟩⟩
  · by_cases e : a = d
    · subst e; rw [upd_same] at q ⊢; exact q
    · rw [upd_ne e] at q ⊢; exact R.sub a o q
  · obtain ⟨z, o, q1, q2⟩ := R.mus a m q
    have e := nd a z
    exact ⟨by rw [upd_ne e]; exact z, o, by rw [upd_ne e]; exact q1, q2.mono (ext_lock h)⟩
  · have e := nd a h2
    exact ⟨by rw [upd_ne e], by rw [upd_ne e]; exact h2, h3⟩
theorem ext_unlock (h : F d = some (.frz od (.dK vs))) : Ext0 K F (upd F d (.dK vs)) := by
  have rd : ∀ a u, (∀ o u', u ≠ .frz o u') → Rd F a u → Rd (upd F d (.dK vs)) a u := fun a u hu r => by
    by_cases e : a = d
    · subst e
      rcases r with r | ⟨o, r⟩
      · rw [h] at r; cases r; exact (hu _ _ rfl).elim
      · rw [h] at r; cases r; exact .inl upd_same
    · rcases r with r | ⟨o, r⟩
      · exact .inl (by rw [upd_ne e]; exact r)
      · exact .inr ⟨o, by rw [upd_ne e]; exact r⟩
  refine ⟨fun a xs r => r.elim (fun r => .inl (rd a _ (fun _ _ z => by cases z) r)) .inr, fun a xs r => r.elim (fun r => .inl (rd a _ (fun _ _ z => by cases z) r)) .inr, fun a us r => ?_, fun a us r => rd a _ (fun _ _ z => by cases z) r, fun a o hs r => ?_, fun a o us r => ?_⟩
  · have e : a ≠ d := fun e => by subst e; rw [h] at r; cases r
    rw [upd_ne e]; exact r
  · have e : a ≠ d := fun e => by subst e; rw [h] at r; cases r; cases hs
    rw [upd_ne e]; exact r
  · have e : a ≠ d := fun e => by subst e; rw [h] at r; cases r
    rw [upd_ne e]; exact r
theorem HReal.unlockD (R : HReal K F H μ) (h : F d = some (.frz od (.dK vs))) : HReal K (upd F d (.dK vs)) (upd H d (.dK vs)) μ := by
  have nd : ∀ a, F a = none → a ≠ d := fun a q e => by subst e; rw [h] at q; cases q
  refine ⟨fun a o q => ?_, fun a m q => ?_⟩
  · by_cases e : a = d
    · subst e; rw [upd_same] at q ⊢; exact q
    · rw [upd_ne e] at q ⊢; exact R.sub a o q
  · obtain ⟨z, o, q1, q2⟩ := R.mus a m q
    have e := nd a z
    exact ⟨by rw [upd_ne e]; exact z, o, by rw [upd_ne e]; exact q1, q2.mono0 (ext_unlock h)⟩
theorem Stp.unlockD {F0 H0 : Hp} {μ0 μ' : Mu} (h : F0 d = some (.dK vs)) (s : Stp (upd F0 d (.frz od (.dK vs))) (upd H0 d (.frz od (.dK vs))) μ0 F H μ') : Stp F0 H0 μ0 (upd F d (.dK vs)) (upd H d (.dK vs)) μ' := by
  have hF : F d = some (.frz od (.dK vs)) := s.ext.fz d _ _ upd_same
  refine ⟨⟨fun a u r => ?_, fun a us r => ?_, fun a o u r => ?_, fun a o hs r => ?_⟩, fun a h1 h2 h3 => ?_⟩
  · by_cases e : a = d
    · subst e
      rcases r with r | ⟨o, r⟩ <;> rw [h] at r <;> cases r
      exact .inl upd_same
    · have := s.ext.rd a u (r.elim (fun r => .inl (by rw [upd_ne e]; exact r)) fun ⟨o, r⟩ => .inr ⟨o, by rw [upd_ne e]; exact r⟩)
      exact this.elim (fun r => .inl (by rw [upd_ne e]; exact r)) fun ⟨o, r⟩ => .inr ⟨o, by rw [upd_ne e]; exact r⟩
  · have e : a ≠ d := fun e => by subst e; rw [h] at r; cases r
    rw [upd_ne e]; exact s.ext.ls a us (by rw [upd_ne e]; exact r)
  · have e : a ≠ d := fun e => by subst e; rw [h] at r; cases r
    rw [upd_ne e]; exact s.ext.fz a o u (by rw [upd_ne e]; exact r)
  · have e : a ≠ d := fun e => by subst e; rw [h] at r; cases r; cases hs
    rw [upd_ne e]; exact s.ext.st a o hs (by rw [upd_ne e]; exact r)
  · have e : a ≠ d := fun e => by subst e; rw [h] at h2; cases h2
    obtain ⟨p, q, r⟩ := s.fr a (by rw [upd_ne e]; exact h1) (by rw [upd_ne e]; exact h2) h3
    rw [upd_ne e] at p
    exact ⟨by rw [upd_ne e]; exact p, by rw [upd_ne e]; exact q, r⟩
end
theorem src_items2 {K : PySem.W.Frag} {F0 H0 : Hp} {μ0 : Mu} {d : Addr} {od : Obj} {kvs : List (Key × SD)} {vs : List (Key × V)} (rk : RepK K F0 kvs vs) (h : F0 d = some (.frz od (.dK vs))) : Src K F0 H0 μ0 (Iti d od vs) (itemsS kvs) fun _ => True where
  go := fun i F H μ s R _ hi => ⟨R.sub _ _ (s.ext.fz d _ _ h), by rw [← rk.len]; simpa [itemsS] using hi⟩
  stop := fun F H μ s R _ => ⟨R.sub _ _ (s.ext.fz d _ _ h), by rw [← rk.len]; simp [itemsS]⟩
  yld := fun i F H μ x H' s R _ y e hd => by
    obtain ⟨T, k, v, h1, rfl, hT, rfl⟩ := y
    obtain ⟨dd, h2, h3⟩ := rk.get h1
    have : (itemsS kvs)[i]? = some (.tup [keyS k, dd]) := by simp [itemsS, h2]
    rw [this] at hd; cases hd
    have ex : Ext F (upd F T (.tup [kV k, v])) := Ext.new (R.freeF hT)
    exact ⟨_, Stp.newS R hT, R.newS hT, .tup (.inl (.inl upd_same)) (.cons (keyS_rep k) (.one ((h3.mono s.ext).mono ex)))⟩
end DS
namespace DS
open PySem PySem.Spec PyProof.Rows L2
section
variable {X : Cx} {K : PySem.W.Frag} {a : Expr} {pos pos' : Pos} {j : Nat} {ta : DTE}
def isNon : SD → Bool
  | .non => true
  | _ => false
theorem isNon_rep {F : Hp} {d : SD} {v : V} (r : RepS K F d v) : decide (v = .non) = isNon d := by
  cases r <;> simp [isNon]
abbrev dIsN (ta : DTE) : DTE := fun ρ μ Q => ta ρ μ fun x μ1 => Q (.bl (isNon x)) μ1
theorem de_isN {j pos'} (ha : DE X a ta) : DE X (.Compare a [.Is] [.Constant .none j pos'] pos) (dIsN ta) := weakE (pe_cmp (pc_isN ha) rfl) fun σ H Q h => by
  obtain ⟨F, ρ, μ, Q', R, S, t, k⟩ := h
  exact ⟨F, ρ, μ, _, R, S, t, fun d μ1 t1 F1 H1 v s1 R1 r1 => k _ μ1 t1 F1 H1 _ s1 R1 (by rw [isNon_rep r1]; exact .bl _)⟩
theorem dt_isN {j pos'} (ha : DE X a ta) : DT X (.Compare a [.Is] [.Constant .none j pos'] pos) (dTest (dIsN ta)) := weakT (pt_cmp (pc_isN ha) rfl) fun σ H Q h => by
  obtain ⟨F, ρ, μ, Q', R, S, t, k⟩ := h
  exact ⟨F, ρ, μ, _, R, S, t, fun d μ1 t1 F1 H1 v s1 R1 r1 => ⟨_, by rw [isNon_rep r1], k _ μ1 t1 F1 H1 s1 R1⟩⟩
abbrev dGt : DR2 := dCmp (fun i j => decide (j < i)) fun s t => decide (t < s)
theorem opr_gt : OpR X (compareOp .Gt) (rCmp (fun i j => decide (j < i)) fun s t => decide (t < s)) := op_gt.or op_gt_str
abbrev dLe : DR2 := dCmp (fun i j => decide (i ≤ j)) fun s t => !decide (t < s)
theorem opr_le : OpR X (compareOp .LtE) (rCmp (fun i j => decide (i ≤ j)) fun s t => !decide (t < s)) := op_le.or op_le_str
abbrev dGe : DR2 := dCmp (fun i j => decide (j ≤ i)) fun s t => !decide (s < t)
theorem opr_ge : OpR X (compareOp .GtE) (rCmp (fun i j => decide (j ≤ i)) fun s t => !decide (s < t)) := op_ge.or op_ge_str
def tyD (μ : Mu) : SD → Option String
  | .non => some "NoneType"
  | .bl _ => some "bool"
  | .int _ => some "int"
  | .str _ => some "str"
  | .tup _ => some "tuple"
  | .lst _ => some "list"
  | .rol _ => some "list"
  | .dic _ => some "dict"
  | .ref a => match μ a with
    | some (.lst _) => some "list"
    | some (.dic _) => some "dict"
    | _ => none
  | .ty _ => none
  | .exc _ _ => none
  | .ptp _ => none
theorem HReal.ty {F H : Hp} {μ : Mu} (R : HReal K F H μ) {d : SD} {v : V} {t : String} (r : RepS K F d v) (h : tyD μ d = some t) : TyX K H v (.type t) := by
  cases r with
  | non => cases h; exact .base .non
  | bl b => cases h; exact .base (.bl b)
  | int i => cases h; exact .base (.int i)
  | str x => cases h; exact .base (.str x)
  | ty n => cases h
  | tup q _ =>
    cases h
    rcases R.ext.sqT q with (q | ⟨o, q⟩) | ⟨o, its, n, q, c, _⟩
    · exact .base (.tup q)
    · exact .fTuple q
    · exact .kTuple q c
  | lst q _ => cases h; exact .base (.lst (R.ext.ls _ _ q))
  | rol q _ =>
    cases h
    rcases R.ext.sqL q with (q | ⟨o, q⟩) | ⟨o, its, n, q, c, _⟩
    · exact .base (.lst q)
    · exact .base (.frz q)
    · exact .kList q c
  | dic q _ _ =>
    cases h
    rcases R.ext.rd _ _ q with q | ⟨o, q⟩
    · exact .base (.dK q)
    · exact .fDict q
  | ref a =>
    simp only [tyD] at h
    split at h
    · rename_i xs e
      cases h
      obtain ⟨_, o, q, ro⟩ := R.mus a _ e
      cases ro; exact .base (.lst q)
    · rename_i xs e
      cases h
      obtain ⟨_, o, q, ro⟩ := R.mus a _ e
      cases ro; exact .base (.dK q)
    · cases h
  | exc0 _ _ => cases h
  | exc _ _ _ _ _ => cases h
  | ptp _ _ _ => cases h
def isiB (μ : Mu) (d : SD) (n : String) : Option Bool := match tyD μ d with
  | some t => kitB t n
  | none => none
def drIsi : DRc := fun ds μ Q => match ds with
  | [d, .ty n] => match isiB μ d n with
    | some b => Q (.bl b) μ
    | none => False
  | _ => False
theorem lc_isi : LRc K drIsi (rIsi K) := fun F H μ xs ds Q' Q R r t k => by
  unfold drIsi at t
  split at t
  · rename_i d n
    cases r with
    | cons r1 r2 => cases r2 with
      | cons r2 r3 =>
        cases r2; cases r3
        split at t
        · rename_i b e
          unfold isiB at e
          split at e
          · rename_i T eT
            exact ⟨_, _, _, _, b, rfl, .ty n, R.ty r1 eT, kit_ty e, k _ _ t _ _ _ (Stp.refl _ _ _) R (.bl b)⟩
          · cases e
        · exact t.elim
  · exact t.elim
/-- the name of a built-in type -/
theorem de_ty {x : Str} {T : String} {p : Pos} (hg : Gl X x) (hm : X.mg x = none) (hv : bootBuiltins x = some (.type T)) (hn : x ≠ "__name__" := by decide) (hd : (x == ("__debug__" : Str)) = false := by decide) : DE X (.Name x p) (dC (.ty T)) :=
  liftC (t := tC (.ty T)) (pe_bltn hg hm hv (show RelV (.ty T) (Value.type T) from rfl) hn hd) rfl
end
/-- a def that stands in the written part -/
structure Def (K : PySem.W.Frag) (mg : Str → Option Value) (x : Str) (st : Stmt) (ps : List Str) where
  f : Addr
  fd : FuncData
  F : Fun K x x st f fd
  m : mg x = some (.ref f)
  b : Binds K fd ps []
section
variable {X : Cx} {k n : Nat} {x : Str} {st : Stmt} {ps ks : List Str} {sp : DSp} {p pos : Pos} {e : Expr} {es : List Expr} {kws : List Keyword} {t tk : DTA}
abbrev FnD (P : Program) (w : World) (base : Heap) {K : PySem.W.Frag} {mg : Str → Option Value} {x : Str} {st : Stmt} {ps : List Str} (D : Def K mg x st ps) (k : Nat) (sp : DSp) : Prop := FnG P w K mg base CX0 k D.f D.fd ps (LSp K sp)
theorem Room.le {A : Around} (h : Room n A) (hk : k ≤ n) : Room k A := h.mono hk
theorem de_def {D : Def X.K X.mg x st ps} (F : FnD X.prog X.w X.base D k sp) (hq : Quiet X.A) (hr : Room n X.A) (ha : DA X (e :: es) t) (hk : k ≤ n := by omega) (hg : Gl X x := by rfl)
    (hdb : (x == ("__debug__" : Str)) = false := by decide) (he : starEach (e :: es) X.env = (false, eval e X.env) :: starEach es X.env := by rfl) (hpl : (backTo pos (starEach es X.env)).any (·.1) = false := by rfl) :
    DE X (.Call (.Name x p) (e :: es) [] pos) (dCall sp [] t) := de_call F hq (hr.mono hk) hg D.m D.F.kp D.b pass0 ha hdb he hpl
theorem de_defK0 {D : Def X.K X.mg x st ps} {ix : List (Nat ⊕ Nat)} {nk : Nat} (F : FnD X.prog X.w X.base D k sp) (hq : Quiet X.A) (hr : Room n X.A) (hb : KBinds X.K D.fd ps ks (kwG ix 0 nk) (kwG ix 0 nk))
    (hkw : DK X kws tk) (hk : k ≤ n := by omega) (hg : Gl X x := by rfl) (hall : (backToKw pos (keywordEach kws X.env)).all (·.1.isSome) = true := by rfl) (hks : (backToKw pos (keywordEach kws X.env)).filterMap (·.1) = ks := by rfl)
    (hdb : (x == ("__debug__" : Str)) = false := by decide) (hpl : ((backToKw pos (keywordEach kws X.env)).any (·.1.isNone)) = false := by rfl) : DE X (.Call (.Name x p) [] kws pos) (dCallK sp ix 0 nk dNil tk) :=
  de_callK0 F hq (hr.mono hk) hg D.m D.F.kp hb pass0 hkw hall hks hdb hpl
theorem dv (i : Nat) {x : Str} {pos : Pos} (hN : X.N[i]? = some x := by rfl) (hv : Vis X.env.scope x := by first | exact Or.inl rfl | exact Or.inr (Or.inl rfl) | exact Or.inr (Or.inr rfl)) (hd : (x == ("__debug__" : Str)) = false := by decide)
    (hcd : (x == ("__classdict__" : Str)) = false := by decide) : DE X (.Name x pos) (dVar i) := de_var hN hv hd hcd
end
theorem bt_len : bootBuiltins "len" = some (.builtin "len") := by decide +kernel
theorem bt_repr : bootBuiltins "repr" = some (.builtin "repr") := by decide +kernel
theorem bt_abs : bootBuiltins "abs" = some (.builtin "abs") := by decide +kernel
theorem bt_min : bootBuiltins "min" = some (.builtin "min") := by decide +kernel
theorem bt_max : bootBuiltins "max" = some (.builtin "max") := by decide +kernel
theorem bt_all : bootBuiltins "all" = some (.builtin "all") := by decide +kernel
theorem bt_isinstance : bootBuiltins "isinstance" = some (.builtin "isinstance") := by decide +kernel
theorem bt_int : bootBuiltins "int" = some (.type "int") := by decide +kernel
theorem bt_str : bootBuiltins "str" = some (.type "str") := by decide +kernel
theorem bt_list : bootBuiltins "list" = some (.type "list") := by decide +kernel
theorem bt_tuple : bootBuiltins "tuple" = some (.type "tuple") := by decide +kernel
end DS
namespace DS
open PySem PySem.Spec PyProof.Rows L2
section
variable {X : Cx} {o e i a b : Expr} {es : List Expr} {apos cpos p pos : Pos} {to te ti td ty : DTE} {t : DTA} {k : Nat}
theorem de_append (ho : DE X o to) (ha : DE X e te) (hs : starEach [e] X.env = (false, eval e X.env) :: starEach [] X.env := by rfl) (hbase : attributeBase o "append" X.env (eval o X.env) = eval o X.env := by rfl)
    (hfew : ((backTo cpos (starEach [e] X.env)).all (fun x => !x.1) && (backToKw cpos (keywordEach [] X.env)).all (fun x => x.1.isSome) && decide (([e] : List Expr).length + ([] : List Keyword).length + (if ([] : List Keyword).isEmpty then 0 else 1) < 30)) = true := by rfl)
    (hline : (apos.endLine == cpos.line) = true := by rfl) (hplain : (backTo cpos (starEach [] X.env)).any (·.1) = false := by rfl) :
    DE X (.Call (.Attribute o "append" apos) [e] [] cpos) (dLM dmAppend to (dCons te dNil)) := de_lm F.plainAttrs_list F.slot_list_append F.type_list_append mt_append lm_append ho (da_cons ha da_nil hs) hbase hfew hline hs hplain
theorem de_extend (ho : DE X o to) (ha : DE X e te) (hs : starEach [e] X.env = (false, eval e X.env) :: starEach [] X.env := by rfl) (hbase : attributeBase o "extend" X.env (eval o X.env) = eval o X.env := by rfl)
    (hfew : ((backTo cpos (starEach [e] X.env)).all (fun x => !x.1) && (backToKw cpos (keywordEach [] X.env)).all (fun x => x.1.isSome) && decide (([e] : List Expr).length + ([] : List Keyword).length + (if ([] : List Keyword).isEmpty then 0 else 1) < 30)) = true := by rfl)
    (hline : (apos.endLine == cpos.line) = true := by rfl) (hplain : (backTo cpos (starEach [] X.env)).any (·.1) = false := by rfl) :
    DE X (.Call (.Attribute o "extend" apos) [e] [] cpos) (dLM dmExtend to (dCons te dNil)) := de_lm F.plainAttrs_list F.slot_list_extend F.type_list_extend mt_extA lm_extend ho (da_cons ha da_nil hs) hbase hfew hline hs hplain
theorem de_insert (ho : DE X o to) (hi : DE X i ti) (ha : DE X e te) (hs : starEach [i, e] X.env = (false, eval i X.env) :: starEach [e] X.env := by rfl) (hs2 : starEach [e] X.env = (false, eval e X.env) :: starEach [] X.env := by rfl) (hbase : attributeBase o "insert" X.env (eval o X.env) = eval o X.env := by rfl)
    (hfew : ((backTo cpos (starEach [i, e] X.env)).all (fun x => !x.1) && (backToKw cpos (keywordEach [] X.env)).all (fun x => x.1.isSome) && decide (([i, e] : List Expr).length + ([] : List Keyword).length + (if ([] : List Keyword).isEmpty then 0 else 1) < 30)) = true := by rfl)
    (hline : (apos.endLine == cpos.line) = true := by rfl) (hplain : (backTo cpos (starEach [e] X.env)).any (·.1) = false := by rfl) :
    DE X (.Call (.Attribute o "insert" apos) [i, e] [] cpos) (dLM dmInsert to (dCons ti (dCons te dNil))) := de_lm F.plainAttrs_list F.slot_list_insert F.type_list_insert mt_insert lm_insert ho (da_cons hi (da_cons ha da_nil hs2) hs) hbase hfew hline hs hplain
theorem de_pop (ho : DE X o to) (hbase : attributeBase o "pop" X.env (eval o X.env) = eval o X.env := by rfl) (hline : (apos.endLine == cpos.line) = true := by rfl) :
    DE X (.Call (.Attribute o "pop" apos) [] [] cpos) (dLM0 dmPop to) := de_lm0 F.plainAttrs_list F.slot_list_pop F.type_list_pop mt_pop lm_pop ho hbase hline
theorem dt_dnotin (hu : X.A.units + 1 < cLine) (hi : DE X i ty) (ho : DE X o td) (hm : behindInMarks .NotIn o = false := by with_unfolding_all rfl) : DT X (.Compare i [.NotIn] [o] pos) (dTest (dDIn true ty td)) := weakT (pt_cmp (pc_dnotin hu hi ho) hm) fun σ H Q h => by
  obtain ⟨F, ρ, μ, Q', R, S, t, k⟩ := h
  have := lift_din (neg := true) σ H (fun x H' => ∃ c, x = V.bl c ∧ Q c H') ⟨F, ρ, μ, _, R, S, t, fun d μ' q F' H' v s R' r' => ?_⟩
  · simpa [tB, tDNotIn] using this
  cases r' with
  | bl b => exact ⟨b, rfl, k b μ' q F' H' s R'⟩
  | _ => exact q.elim
end
theorem len_of {sp : DSp} {n : Nat} (h : ∀ ds μ Q E, sp ds μ Q E → ds.length = n) {ps : List Str} (e : ps.length = n := by rfl) : ∀ ds μ Q E, sp ds μ Q E → ds.length = ps.length := fun ds μ Q E q => (h ds μ Q E q).trans e.symm
theorem unit64 {A : Around} {k : Nat} (h : Room k A) : A.units + 64 < cLine := by have := h.un; omega
theorem unit66 {A : Around} {k : Nat} (h : Room k A) : A.units + 66 < cLine := by have := h.un; omega
end DS
namespace DS
open PySem PySem.Spec PyProof.Rows L2
section
variable {K : PySem.W.Frag} {F0 H0 : Hp} {μ0 : Mu} {a : Addr} {od : Obj} {kvs : List (Key × SD)} {vs : List (Key × V)}
theorem fdic_at {F H : Hp} {μ : Mu} {o : HO} (R : HReal K F H μ) (h : μ a = some (.fdic kvs o)) : H a = some o ∧ ∃ ob vs, o = .frz ob (.dK vs) ∧ RepK K F kvs vs := by
  obtain ⟨_, o', e, r⟩ := R.mus a _ h
  cases r with
  | fdic q r => exact ⟨e, _, _, rfl, ⟨q, r⟩⟩
theorem src_itemsM (rk : RepK K F0 kvs vs) : Src K F0 H0 μ0 (Iti a od vs) (itemsS kvs) fun μ => μ a = some (.fdic kvs (.frz od (.dK vs))) where
  go := fun i F H μ s R h hi => ⟨(fdic_at R h).1, by rw [← rk.len]; simpa [itemsS] using hi⟩
  stop := fun F H μ s R h => ⟨(fdic_at R h).1, by rw [← rk.len]; simp [itemsS]⟩
  yld := fun i F H μ x H' s R _ y e hd => by
    obtain ⟨T, k, v, h1, rfl, hT, rfl⟩ := y
    obtain ⟨dd, h2, h3⟩ := rk.get h1
    have : (itemsS kvs)[i]? = some (.tup [keyS k, dd]) := by simp [itemsS, h2]
    rw [this] at hd; cases hd
    have ex : Ext F (upd F T (.tup [kV k, v])) := Ext.new (R.freeF hT)
    exact ⟨_, Stp.newS R hT, R.newS hT, .tup (.inl (.inl upd_same)) (.cons (keyS_rep k) (.one ((h3.mono s.ext).mono ex)))⟩
end
section
variable {X : Cx} {e tg : Expr} {pos : Pos}
def isStr : SD → Bool
  | .str _ => true
  | _ => false
/-- a text that the module has named -/
theorem de_gstr {x : Str} {y : Str} {p : Pos} (h : ∃ t, X.mg x = some (.str y t)) (hg : Gl X x := by rfl) (hd : (x == ("__debug__" : Str)) = false := by decide) : DE X (.Name x p) (dC (.str y)) := by
  obtain ⟨t, h⟩ := h
  exact liftC (t := tC (.str y)) (pe_glob hg h (show RelV (.str y) (Value.str y t) from ⟨t, rfl⟩) hd) rfl
theorem de_gint {x : Str} {i : Int} {p : Pos} (h : ∃ t, X.mg x = some (.int i t)) (hg : Gl X x := by rfl) (hd : (x == ("__debug__" : Str)) = false := by decide) : DE X (.Name x p) (dC (.int i)) := by
  obtain ⟨t, h⟩ := h
  exact liftC (t := tC (.int i)) (pe_glob hg h (show RelV (.int i) (Value.int i t) from ⟨t, rfl⟩) hd) rfl
end
end DS
namespace DS
open PySem PySem.Spec PyProof.Rows L2
/-- u: the different ones of l -/
structure Dist {α : Type} (l u : List α) : Prop where
  nd : u.Nodup
  mem : ∀ k, k ∈ u ↔ k ∈ l
theorem Dist.nil {α : Type} {l : List α} : Dist (l.take 0) [] := ⟨List.nodup_nil, fun k => by simp⟩
theorem strsAre_at {vs : List Value} {ns : List Str} (h : StrsAre vs ns) : ∀ (i : Nat) (v : Value), vs[i]? = some v → ∃ (k : Str) (t : Tok), ns[i]? = some k ∧ v = Value.str k t := by
  induction h with
  | nil => intro i v e; simp at e
  | cons k t r ih =>
    intro i v e
    cases i with
    | zero => simp at e; subst e; exact ⟨_, _, rfl, rfl⟩
    | succ i =>
      obtain ⟨k', t', a, b⟩ := ih i v (by simpa using e)
      exact ⟨k', t', by simpa using a, b⟩
/-- the set at a: S says who is in, n how many; its table stands in order -/
def TxR (P : Program) (w : World) (h : Heap) (a : Addr) (S : Str → Bool) (n : Nat) : Prop := ∃ o es ep t, h.get? a = some o ∧ o.ExactSet ∧ o.data = .set es ep t ∧ ElemsOf (strKind P w) es.toList ∧ (∀ k, S k = true ↔ ∃ e ∈ es.toList, (strKind P w).is k e.2 = true) ∧
  es.size < scanBound ∧ t.fits es.size = true ∧ es.size = n ∧ Ris t.place.toList ∧ (w.params.followText "set-order" = true ∨ t.led = true)
section
variable {P : Program} {w : World} {A : Around} {E : Value → Shared → Prop} {s : Shared} {a : Addr} {S : Str → Bool} {n : Nat}
theorem TxR.keep {h h' : Heap} (R : TxR P w h a S n) (k : ∀ o, h.get? a = some o → h'.get? a = some o) : TxR P w h' a S n := by
  obtain ⟨o, es, ep, t, ho, r⟩ := R
  exact ⟨o, es, ep, t, k o ho, r⟩
end
/-- the set at a: who is in is in ns, as many as u has -/
def TxSet (P : Program) (w : World) (h : Heap) (a : Addr) (ns u : List Str) : Prop := TxR P w h a (fun j => decide (j ∈ ns)) u.length
section
variable {P : Program} {w : World} {A : Around} {E : Value → Shared → Prop} {s : Shared}
theorem TxSet.keep {h h' : Heap} {a : Addr} {ns u : List Str} (R : TxSet P w h a ns u) (k : ∀ o, h.get? a = some o → h'.get? a = some o) : TxSet P w h' a ns u := TxR.keep R k
end
end DS
namespace DS
open PySem PySem.Spec PyProof.Rows L2
section
variable {X : Cx} {K : PySem.W.Frag}
def b2d (b : Bool) : Int := if b = true then 1 else 0
/-- x + y, x - y of ints, one of which may be a truth value -/
def dIB (f : Int → Int → Int) : DR2 := fun x y μ Q => match x with
  | .int i => match y with
    | .int j => Q (.int (f i j)) μ
    | .bl b => Q (.int (f i (b2d b))) μ
    | _ => False
  | .bl b => match y with
    | .int j => Q (.int (f (b2d b) j)) μ
    | _ => False
  | _ => False
def rIB (f : Int → Int → Int) : R2 := fun x y H Q => (∃ i j, x = .int i ∧ y = .int j ∧ Q (.int (f i j)) H) ∨ (∃ i b, x = .int i ∧ y = .bl b ∧ Q (.int (f i (b2d b))) H) ∨ ∃ b j, x = .bl b ∧ y = .int j ∧ Q (.int (f (b2d b) j)) H
theorem opr_addB : OpR X (binaryOp .Add) (rIB fun i j => i + j) := by
  intro pins s σ H x y v u Q I rx ry h
  rcases h with ⟨i, j, rfl, rfl, q⟩ | ⟨i, b, rfl, rfl, q⟩ | ⟨b, j, rfl, rfl, q⟩
  · exact op_add pins s σ H _ _ v u Q I rx ry ⟨i, j, rfl, rfl, q⟩
  · obtain ⟨t, rfl⟩ := rx; cases ry; exact add_int_bool ⟨.int _, H, I.tok _, ⟨_, rfl⟩, q⟩
  · obtain ⟨t, rfl⟩ := ry; cases rx; exact PySem.IntBool.add_bool_int ⟨.int _, H, I.tok _, ⟨_, rfl⟩, q⟩
theorem opr_subB : OpR X (binaryOp .Sub) (rIB fun i j => i - j) := by
  intro pins s σ H x y v u Q I rx ry h
  rcases h with ⟨i, j, rfl, rfl, q⟩ | ⟨i, b, rfl, rfl, q⟩ | ⟨b, j, rfl, rfl, q⟩
  · exact op_sub pins s σ H _ _ v u Q I rx ry ⟨i, j, rfl, rfl, q⟩
  · obtain ⟨t, rfl⟩ := rx; cases ry; exact PySem.IntBool.sub_int_bool ⟨.int _, H, I.tok _, ⟨_, rfl⟩, q⟩
  · obtain ⟨t, rfl⟩ := ry; cases rx; exact PySem.IntBool.sub_bool_int ⟨.int _, H, I.tok _, ⟨_, rfl⟩, q⟩
theorem lr_IB {f : Int → Int → Int} : LR2 K (dIB f) (rIB f) := fun F H μ x y dx dy Q' Q R rx ry t k => by
  cases dx with
  | int i => cases dy with
    | int j => cases rx; cases ry; exact .inl ⟨i, j, rfl, rfl, k _ μ t F H _ (Stp.refl _ _ _) R (.int _)⟩
    | bl b => cases rx; cases ry; exact .inr (.inl ⟨i, b, rfl, rfl, k _ μ t F H _ (Stp.refl _ _ _) R (.int _)⟩)
    | _ => exact False.elim t
  | bl b => cases dy with
    | int j => cases rx; cases ry; exact .inr (.inr ⟨b, j, rfl, rfl, k _ μ t F H _ (Stp.refl _ _ _) R (.int _)⟩)
    | _ => exact False.elim t
  | _ => exact False.elim t
/-- str(x) of an int or a truth value -/
def drStr : DRc := fun ds μ Q => match ds with
  | [.int i] => i.natAbs.log2 < 1920 ∧ Q (.str (toString i)) μ
  | [.bl b] => Q (.str (if b then "True" else "False")) μ
  | _ => False
theorem call_str_bl : CallR X (.type "str") (fun xs H Q => ∃ b, xs = [.bl b] ∧ Q (.str (if b then "True" else "False")) H) := by
  intro pins s σ H xs us Q I r h
  obtain ⟨b, rfl, q⟩ := h
  obtain ⟨u, rfl, r1⟩ := vals1 r
  cases r1
  exact PySem.P.str_of_bool ⟨.str _, H, I.tok _, ⟨_, rfl⟩, q⟩
def rStrOf : List V → Hp → VK → Prop := fun xs H Q => (∃ i, xs = [.int i] ∧ i.natAbs.log2 < 1920 ∧ Q (.str (toString i)) H) ∨ ∃ b, xs = [.bl b] ∧ Q (.str (if b then "True" else "False")) H
theorem cr_strOf : CallR X (.type "str") rStrOf := call_str_int.or call_str_bl
theorem lc_strOf : LRc K drStr rStrOf := fun F H μ xs ds Q' Q R r t k => by
  unfold drStr at t
  split at t
  · cases r with
    | cons r1 r2 => cases r2; cases r1; exact .inl ⟨_, rfl, t.1, k _ μ t.2 F H _ (Stp.refl _ _ _) R (.str _)⟩
  · cases r with
    | cons r1 r2 => cases r2; cases r1; exact .inr ⟨_, rfl, k _ μ t F H _ (Stp.refl _ _ _) R (.str _)⟩
  · exact False.elim t
/-- s.upper() -/
abbrev dUpper (to : DTE) : DTE := fun ρ μ Q => to ρ μ fun x μ1 => match x with
  | .str a => a.length ≤ 5592405 ∧ Q (.str (Txt.upper a)) μ1
  | _ => False
theorem de_upper {o : Expr} {to : DTE} {apos pos : Pos} (ho : DE X o to) (hbase : attributeBase o "upper" X.env (eval o X.env) = eval o X.env := by rfl) (hline : (apos.endLine == pos.line) = true := by rfl) :
    DE X (.Call (.Attribute o "upper" apos) [] [] pos) (dUpper to) := weakE (pe_upper ho hbase hline) fun σ H Q h => by
  obtain ⟨F, ρ, μ, Q', R, S, t, k⟩ := h
  refine ⟨F, ρ, μ, _, R, S, t, fun d μ1 t1 F1 H1 v s1 R1 r1 => ?_⟩
  cases d with
  | str a => cases r1; exact ⟨⟨a, rfl⟩, a, rfl, rfl, t1.1, k _ μ1 t1.2 F1 H1 _ s1 R1 (.str _)⟩
  | _ => exact False.elim t1
/-- x[::-1] of a text (some text of its signs, no longer), a list or a tuple -/
def tRevX (K : PySem.W.Frag) (te : TE) : TE := fun σ H Q => te σ H fun x H1 => (∃ z : Str, x = .str z ∧ z.length ≤ sizeLine ∧ ∀ t : Str, t.length ≤ z.length → (∀ c ∈ t.cps.toList, c ∈ z.cps.toList) → Q (.str t) H1) ∨
  (∃ a xs, x = .ref a ∧ SqL K H1 a xs ∧ ∀ p, H1 p = none → Q (.ref p) (upd H1 p (.lst xs.reverse))) ∨ ∃ a xs, x = .ref a ∧ SqT K H1 a xs ∧ ∀ p, H1 p = none → Q (.ref p) (upd H1 p (.tup xs.reverse))
theorem slice_signs (z : Str) (l u st : Option (Int × Tok)) : ∀ c ∈ (⟨((slicePicked z l u st).filterMap (z.cps[·]?)).toArray⟩ : Str).cps.toList, c ∈ z.cps.toList := by
  intro c hc
  have hc : c ∈ (slicePicked z l u st).filterMap (z.cps[·]?) := by simpa using hc
  obtain ⟨i, _, hi⟩ := List.mem_filterMap.mp hc
  exact List.mem_of_getElem? (by rw [Array.getElem?_toList]; exact hi)
abbrev backE (e : Expr) (k1 : Nat) (p1 p2 p3 : Pos) : Expr := .Slice none none (some (.UnaryOp .USub (.Constant (.int 1) k1 p1) p2)) p3
theorem pe_revX {e : Expr} {te : TE} {pos p1 p2 p3 : Pos} {k1 : Nat} (he : PE X e te) : PE X (.Subscript e (.Slice none none (some (.UnaryOp .USub (.Constant (.int 1) k1 p1) p2)) p3) pos) (tRevX X.K te) := by
  refine ⟨fun pins s σ H Q I h => Subscript_ (thn (he.run pins s σ H _ I h) fun v s1 ⟨x, H1, I1, r1, q1⟩ => ?_)⟩
  have back : PO X (some (.UnaryOp .USub (.Constant (.int 1) k1 p1) p2)) (tPart (tUn (rU fun i => .int (-i)) (tC (.int 1)))) := po_some (pe_un un_neg pe_int)
  refine wpAny_Slice (thn (po_none.run pins s1 σ H1 (fun o G => o = none ∧ G = H1) I1 ⟨rfl, rfl⟩) fun vl s2 ⟨l, H2, I2, pl, el, e2⟩ => ?_)
  subst el e2
  refine thn (po_none.run pins s2 σ H2 (fun o G => o = none ∧ G = H2) I2 ⟨rfl, rfl⟩) fun vu s3 ⟨u, H3, I3, pu, eu, e3⟩ => ?_
  subst eu e3
  refine thn (back.run pins s3 σ H3 (fun o G => o = some (-1) ∧ G = H3) I3 ⟨1, rfl, -1, rfl, rfl, rfl⟩) fun vs s4 ⟨o, H4, I4, ps, eo, e4⟩ => ?_
  subst eo e4
  have I5 : Inv X pins σ H4 { s4 with heap := s4.heap.push { cls := .type "slice", data := .fields #[vl, vu, vs] } } := I4.kept (t' := s4.toks) fun b ob w => Heap.get?_push_of_some _ w
  rcases q1 with ⟨z, rfl, hz, q⟩ | ⟨a, xs, rfl, hx, q⟩ | ⟨a, xs, rfl, hx, q⟩
  · obtain ⟨t, rfl⟩ := r1
    obtain ⟨l0, rfl, el⟩ := IsPart.raw pl
    obtain ⟨u0, rfl, eu⟩ := IsPart.raw pu
    obtain ⟨st, rfl, est⟩ := IsPart.raw ps
    show wpAny (model X.prog X.w) X.A (subscriptTail e (backE e k1 p1 p2 p3) (.str z t) (.ref s4.heap.objs.size)) (EP X pins σ Q) X.xe { s4 with heap := s4.heap.push { cls := .type "slice", data := .fields #[partValue l0, partValue u0, partValue st] } }
    refine tail_any (ops := [.ref s4.heap.objs.size, .str z t]) (typeIs_str _ z t) (F.slot_str_getitem.lookup) ?_ (by with_unfolding_all rfl)
    cases st with
    | none => cases est
    | some st =>
      have e1 : st.1 = -1 := Option.some.inj est
      refine wpAny_getItem_str_slice (l := l0) (u := u0) (st := some st) ⟨_, Heap.get?_push_size _ rfl, rfl, rfl⟩ (by simp [e1]) ?_
      have off : (((some st).map (·.1)).getD 1 == 1 && (slicePicked z l0 u0 (some st)).length == z.length) = false := by simp [e1]
      unfold sliceMade
      rw [off]
      have len : (⟨((slicePicked z l0 u0 (some st)).filterMap (z.cps[·]?)).toArray⟩ : Str).length ≤ z.length := by
        have := Txt.sliceBy_le z l0 u0 st (by rw [e1]; decide)
        unfold Txt.sliceBy at this
        rw [off] at this
        exact this
      exact ⟨Nat.le_trans len hz, .str _, H4, I5.tok _, ⟨_, rfl⟩, q _ len (slice_signs z l0 u0 (some st))⟩
  · cases r1
    obtain ⟨its, r, ht, hz⟩ := I5.list hx
    have len := r.length
    show wpAny (model X.prog X.w) X.A (subscriptTail e (backE e k1 p1 p2 p3) (.ref a) (.ref s4.heap.objs.size)) (EP X pins σ Q) X.xe { s4 with heap := s4.heap.push { cls := .type "slice", data := .fields #[vl, vu, vs] } }
    refine tail_any (ops := [.ref a, .ref s4.heap.objs.size]) ht.isList.typeIs (PySem.slot_list_getitem.lookup) ?_ (by with_unfolding_all rfl)
    refine wpAny_getItem_list_slice ht.isList (Heap.IsSliceOf.new _ vl vu vs) pl pu ps (by decide) ?_ (by rw [List.size_toArray]; omega)
    rw [PySem.W.krv_pick]
    refine ⟨.ref _, _, I5.laid (t' := s4.toks) (o := .lst xs.reverse) (fun b ob w => Heap.get?_push_of_some _ w) (Nat.le_refl _) ?_, rfl, q _ (I5.hok.fresh (Nat.le_refl _))⟩
    exact ⟨by rw [List.length_reverse]; exact hz, _, 0, r.reverse, Heap.get?_push_size _ rfl⟩
  · cases r1
    obtain ⟨its, r, ht, hz⟩ := I5.tuple hx
    have len := r.length
    show wpAny (model X.prog X.w) X.A (subscriptTail e (backE e k1 p1 p2 p3) (.ref a) (.ref s4.heap.objs.size)) (EP X pins σ Q) X.xe { s4 with heap := s4.heap.push { cls := .type "slice", data := .fields #[vl, vu, vs] } }
    refine tail_any (ops := [.ref a, .ref s4.heap.objs.size]) ht.typeIs (PyProof.Rows.slot_tuple_getitem.lookup) ?_ (by with_unfolding_all rfl)
    refine tuple_back ht (Heap.IsSliceOf.new _ vl vu vs) pl pu ps ?_ (by omega)
    refine ⟨.ref _, _, I5.laid (t' := s4.toks) (o := .tup xs.reverse) (fun b ob w => Heap.get?_push_of_some _ w) (Nat.le_refl _) ?_, rfl, q _ (I5.hok.fresh (Nat.le_refl _))⟩
    exact ⟨by rw [List.length_reverse]; exact hz, _, r.reverse, _, Heap.get?_push_size _ rfl, rfl, 0, rfl⟩
def drRevX (x : SD) (μ1 : Mu) (Q : SD → Mu → Prop) : Prop := match x with
  | .str z => z.length ≤ sizeLine ∧ ∀ t : Str, t.length ≤ z.length → (∀ c ∈ t.cps.toList, c ∈ z.cps.toList) → Q (.str t) μ1
  | .tup xs => Q (.tup xs.reverse) μ1
  | .lst xs => Q (.lst xs.reverse) μ1
  | _ => False
abbrev dRevX (te : DTE) : DTE := fun ρ μ Q => te ρ μ fun x μ1 => drRevX x μ1 Q
theorem de_revX {e : Expr} {te : DTE} {pos p1 p2 p3 : Pos} {k1 : Nat} (he : DE X e te) : DE X (.Subscript e (.Slice none none (some (.UnaryOp .USub (.Constant (.int 1) k1 p1) p2)) p3) pos) (dRevX te) := weakE (pe_revX he) fun σ H Q h => by
  obtain ⟨F, ρ, μ, Q', R, S, t, k⟩ := h
  refine ⟨F, ρ, μ, _, R, S, t, fun d μ1 t1 F1 H1 v s1 R1 r1 => ?_⟩
  cases d with
  | str z => cases r1; exact .inl ⟨z, rfl, t1.1, fun y h1 h2 => k _ μ1 (t1.2 y h1 h2) F1 H1 _ s1 R1 (.str _)⟩
  | tup xs =>
    cases r1 with
    | tup h r => exact .inr (.inr ⟨_, _, rfl, R1.ext.sqT h, fun q hq => k _ μ1 t1 _ _ _ (s1.trans (Stp.newS R1 hq)) (R1.newS hq) (.tup (.inl (.inl upd_same)) (r.reverse.mono (Ext.new (R1.freeF hq))))⟩)
  | lst xs =>
    cases r1 with
    | lst h r => exact .inr (.inl ⟨_, _, rfl, SqL.of (R1.sub _ _ h), fun q hq => k _ μ1 t1 _ _ _ (s1.trans (Stp.newS R1 hq)) (R1.newS hq) (.lst upd_same (r.reverse.mono (Ext.new (R1.freeF hq))))⟩)
  | _ => exact False.elim t1
theorem lift_chain {r r' : R2} {dr dr' : DR2} {ta tb tc : DTE} (hl : LR2 K dr r) (hl' : LR2 K dr' r') : ∀ σ H Q, LE K (dChain dr dr' ta tb tc) σ H Q → tChain r r' (LE K ta) (LE K tb) (LE K tc) σ H Q := fun σ H Q h => by
  obtain ⟨F, ρ, μ, Q', R, S, t, k⟩ := h
  refine ⟨F, ρ, μ, _, R, S, t, fun d1 μ1 t1 F1 H1 v1 s1 R1 r1 => ?_⟩
  refine ⟨F1, ρ, μ1, _, R1, S.mono s1.ext, t1, fun d2 μ2 t2 F2 H2 v2 s2 R2 r2 => ?_⟩
  refine hl F2 H2 μ2 v1 v2 d1 d2 _ _ R2 (r1.mono s2.ext) r2 t2 fun d3 μ3 t3 F3 H3 v3 s3 R3 r3 => ?_
  cases r3 with
  | bl z =>
    refine ⟨z, rfl, ?_⟩
    cases z with
    | true =>
      refine ⟨F3, ρ, μ3, _, R3, S.mono ((s1.trans s2).trans s3).ext, t3, fun d4 μ4 t4 F4 H4 v4 s4 R4 r4 => ?_⟩
      exact hl' F4 H4 μ4 v2 v4 d2 d4 Q' Q R4 (r2.mono (s3.trans s4).ext) r4 t4 fun d μ' q F' H' v s R' r' => k d μ' q F' H' v ((((s1.trans s2).trans s3).trans s4).trans s) R' r'
    | false => exact k _ μ3 t3 F3 H3 _ ((s1.trans s2).trans s3) R3 (.bl false)
  | _ => exact t3.elim
theorem dt_chain {op op' : CmpOp} {r r' : R2} {dr dr' : DR2} {ta tb tc : DTE} {a b c : Expr} {pos : Pos} (ho : OpR X (compareOp op) r) (hl : LR2 X.K dr r) (ho' : OpR X (compareOp op') r') (hl' : LR2 X.K dr' r') (ha : DE X a ta) (hb : DE X b tb) (hc : DE X c tc) (hm : lastMarks [op, op'] [b, c] = false := by rfl) :
    DT X (.Compare a [op, op'] [b, c] pos) (dTest (dChain dr dr' ta tb tc)) := weakT (pt_chain ho ho' ha hb hc hm) fun σ H Q h => by
  obtain ⟨F, ρ, μ, Q', R, S, t, k⟩ := h
  refine lift_chain hl hl' σ H _ ⟨F, ρ, μ, _, R, S, t, fun d μ' q F' H' v s R' r' => ?_⟩
  cases r' with
  | bl b => exact ⟨b, rfl, k b μ' q F' H' s R'⟩
  | _ => exact q.elim
end
end DS
namespace DS
open PySem PySem.Spec PyProof.Rows L2
mutual
/-- the value shows as the datum; empty dicts among it stand at no place of the machine's own -/
inductive Shw (h : Heap) : Value → PyData → Prop
  | non : Shw h .none .none
  | bl (b : Bool) : Shw h (.bool b) (.bool b)
  | int (i : Int) (t : Tok) : Shw h (.int i t) (.int i)
  | str (x : Str) (t : Tok) : Shw h (.str x t) (.str x)
  | lst {a : Addr} {o : Obj} {vs : Array Value} {n : Nat} {xs : List PyData} : h.get? a = some o → o.cls = .type "list" → o.data = .seq vs n → ShwL h vs.toList xs → Shw h (.ref a) (.list xs)
  | tup {a : Addr} {o : Obj} {vs : Array Value} {n : Nat} {xs : List PyData} : h.get? a = some o → o.cls = .type "tuple" → o.data = .seq vs n → ShwL h vs.toList xs → Shw h (.ref a) (.tuple xs)
  | dic {a : Addr} {o : Obj} {n : Nat} : (a == sysModules) = false → h.get? a = some o → o.cls = .type "dict" → o.data = .dict #[] n → Shw h (.ref a) (.dict [])
inductive ShwL (h : Heap) : List Value → List PyData → Prop
  | nil : ShwL h [] []
  | cons {v : Value} {vs : List Value} {d : PyData} {ds : List PyData} : Shw h v d → ShwL h vs ds → ShwL h (v :: vs) (d :: ds)
end
mutual
theorem Shw.reads {h : Heap} : ∀ {v : Value} {d : PyData}, Shw h v d → ∃ as, Reads h v d as
  | _, _, .non => ⟨_, .none⟩
  | _, _, .bl b => ⟨_, .bool b⟩
  | _, _, .int i t => ⟨_, .int i t⟩
  | _, _, .str x t => ⟨_, .str x t⟩
  | _, _, .lst a b c r => let ⟨_, q⟩ := ShwL.reads r; ⟨_, .list a b c q⟩
  | _, _, .tup a b c r => let ⟨_, q⟩ := ShwL.reads r; ⟨_, .tuple a b c q⟩
  | _, _, .dic _ a b c => ⟨_, .dict (kvs := []) a b c .nil .nil⟩
theorem ShwL.reads {h : Heap} : ∀ {vs : List Value} {ds : List PyData}, ShwL h vs ds → ∃ as, ReadsAll h vs ds as
  | _, _, .nil => ⟨_, .nil⟩
  | _, _, .cons h r => let ⟨_, p⟩ := Shw.reads h; let ⟨_, q⟩ := ShwL.reads r; ⟨_, .cons p q⟩
end
section
variable {prog : Program} {w : World} {h₀ : Heap}
theorem dict0_shown : (PyData.dict []).shown = dictText [] := by simp only [PyData.shown, PyData.shownKv]
mutual
theorem Shw.K : ∀ {v : Value} {d : PyData}, Shw h₀ v d → d.showable = true → d.shown.length ≤ sizeLine → ∃ bs, ReadAtMost h₀ d.depth bs ∧ ReprK prog w bs h₀ d.depth v d.shown
  | _, _, .non, hs, hz => ReprK.of_reads Reads.none hs (fun z => by simp [PyData.hasDict] at z) hz
  | _, _, .bl b, hs, hz => ReprK.of_reads (Reads.bool b) hs (fun z => by simp [PyData.hasDict] at z) hz
  | _, _, .int i t, hs, hz => ReprK.of_reads (Reads.int i t) hs (fun z => by simp [PyData.hasDict] at z) hz
  | _, _, .str x t, hs, hz => ReprK.of_reads (Reads.str x t) hs (fun z => by simp [PyData.hasDict] at z) hz
  | _, _, .lst (a := a) (vs := vs) (xs := xs) h1 h2 h3 h4, hs, hz => by
    have fits : (listText (PyData.shownAll xs)).length ≤ sizeLine := by simpa only [PyData.shown] using hz
    obtain ⟨bs, hb, hk⟩ := ShwL.K h4 (by simpa [PyData.showable] using hs) fun t ht => Nat.le_trans (listText_mem_le ht) fits
    obtain ⟨as, q⟩ := ShwL.reads h4
    have r : Reads h₀ (.ref a) (.list xs) (a :: as) := .list h1 h2 h3 q
    have apart : a ∉ bs := not_mem_of_deeper r (by simp only [PyData.depth]; omega) hb
    refine ⟨a :: bs, ReadAtMost.cons r (by simp only [PyData.depth]; omega) hb, ?_⟩
    simp only [PyData.depth, PyData.shown]
    obtain ⟨l⟩ := vs
    cases l with
    | nil =>
      have e : ShwL h₀ [] xs := h4
      cases e
      simp only [PyData.shownAll, listText_nil]
      exact ReprK.listEmpty h1 h2 h3
    | cons x l => exact ReprK.list h1 h2 h3 apart (by simpa using hk.length_eq) fun i y e => hk.item i y (by simpa using e)
  | _, _, .tup (a := a) (xs := xs) h1 h2 h3 h4, hs, hz => by
    have fits : (tupleText (PyData.shownAll xs)).length ≤ sizeLine := by simpa only [PyData.shown] using hz
    obtain ⟨bs, hb, hk⟩ := ShwL.K h4 (by simpa [PyData.showable] using hs) fun t ht => Nat.le_trans (tupleText_mem_le ht) fits
    obtain ⟨as, q⟩ := ShwL.reads h4
    have r : Reads h₀ (.ref a) (.tuple xs) as := .tuple h1 h2 h3 q
    have apart : a ∉ bs := not_mem_of_deeper r (by simp only [PyData.depth]; omega) hb
    refine ⟨a :: bs, ReadAtMost.cons r (by simp only [PyData.depth]; omega) hb, ?_⟩
    simp only [PyData.depth, PyData.shown]
    exact ReprK.tuple h1 h2 h3 apart hk
  | _, _, .dic (a := a) h0 h1 h2 h3, hs, hz => by
    have r : Reads h₀ (.ref a) (.dict []) _ := .dict (kvs := []) h1 h2 h3 .nil .nil
    refine ⟨[a], fun b hb => ⟨_, _, List.mem_singleton.mp hb ▸ r, Nat.le_refl _⟩, ?_⟩
    rw [dict0_shown]
    exact ReprK.dict h1 h2 h3 h0 (List.not_mem_nil) .nil
theorem ShwL.K : ∀ {vs : List Value} {ds : List PyData}, ShwL h₀ vs ds → PyData.showableAll ds = true → (∀ t ∈ PyData.shownAll ds, t.length ≤ sizeLine) →
    ∃ bs, ReadAtMost h₀ (PyData.depthAll ds) bs ∧ ReprAllK prog w bs h₀ (PyData.depthAll ds) vs (PyData.shownAll ds)
  | _, _, .nil, _, _ => ⟨[], (fun _ h => nomatch h), by simp only [PyData.shownAll]; exact .nil⟩
  | _, _, .cons (d := d) (ds := ds) r rs, hs, hz => by
    have both : d.showable = true ∧ PyData.showableAll ds = true := by simpa [PyData.showableAll] using hs
    obtain ⟨b1, hb1, k1⟩ := Shw.K r both.1 (hz _ (by simp only [PyData.shownAll]; exact List.mem_cons_self ..))
    obtain ⟨b2, hb2, k2⟩ := ShwL.K rs both.2 fun t ht => hz t (by simp only [PyData.shownAll]; exact List.mem_cons_of_mem _ ht)
    refine ⟨b1 ++ b2, ?_, ?_⟩
    · simp only [PyData.depthAll]
      exact (hb1.mono (Nat.le_max_left _ _)).append (hb2.mono (Nat.le_max_right _ _))
    · simp only [PyData.depthAll, PyData.shownAll]
      exact .cons ((k1.more fun b hb => List.mem_append_left b2 hb).level_le (Nat.le_max_left _ _)) (k2.more_le (fun b hb => List.mem_append_right b1 hb) (Nat.le_max_right _ _))
end
theorem Shw.by {a : Addr} {d : PyData} (r : Shw h₀ (.ref a) d) (hs : d.showable = true) (hz : d.shown.length ≤ sizeLine) : ∃ T idr, ShowsBy prog w h₀ a d T idr := by
  cases r with
  | lst h1 h2 h3 h4 =>
    rename_i o vs n xs
    have fits : (listText (PyData.shownAll xs)).length ≤ sizeLine := by simpa only [PyData.shown] using hz
    obtain ⟨bs, hb, hk⟩ := ShwL.K (prog := prog) (w := w) h4 (by simpa [PyData.showable] using hs) fun t ht => Nat.le_trans (listText_mem_le ht) fits
    obtain ⟨as, q⟩ := ShwL.reads h4
    have apart : a ∉ bs := not_mem_of_deeper (.list h1 h2 h3 q) (by simp only [PyData.depth]; omega) hb
    refine ⟨"list", "list.__repr__", F.slot_list_repr.toG, F.slot_list_str, F.slot_list_format, fun s keep => ⟨o, keep _ _ h1, h2⟩, fun A E s Q hg hu keep hQ => ?_⟩
    simp only [PyData.depth] at hu
    simp only [PyData.shown] at hQ
    obtain ⟨l⟩ := vs
    cases l with
    | nil =>
      have e : ShwL h₀ [] xs := h4
      cases e
      simp only [PyData.shownAll, listText_nil] at hQ
      exact call_list_repr_empty ⟨o, keep _ _ h1, h2⟩ (keep _ _ h1) h3 (hQ s.heap _ _ fun _ _ e => e)
    | cons x l => exact call_list_reprK h1 h2 h3 apart (by simpa using hk.length_eq) (fun i y e => hk.item i y (by simpa using e)) hg (fun b _ => Clear.nil b) hu keep hQ fits
  | tup h1 h2 h3 h4 =>
    rename_i o vs n xs
    have fits : (tupleText (PyData.shownAll xs)).length ≤ sizeLine := by simpa only [PyData.shown] using hz
    obtain ⟨bs, hb, hk⟩ := ShwL.K (prog := prog) (w := w) h4 (by simpa [PyData.showable] using hs) fun t ht => Nat.le_trans (tupleText_mem_le ht) fits
    obtain ⟨as, q⟩ := ShwL.reads h4
    have apart : a ∉ bs := not_mem_of_deeper (.tuple h1 h2 h3 q) (by simp only [PyData.depth]; omega) hb
    refine ⟨"tuple", "tuple.__repr__", F.slot_tuple_repr, F.slot_tuple_str, F.slot_tuple_format, fun s keep => ⟨o, keep _ _ h1, h2⟩, fun A E s Q hg hu keep hQ => ?_⟩
    simp only [PyData.depth] at hu
    simp only [PyData.shown] at hQ
    exact call_tuple_reprK h1 h2 h3 apart hk hg (fun b _ => Clear.nil b) hu keep hQ fits
  | dic h0 h1 h2 h3 =>
    rename_i o n
    refine ⟨"dict", "dict.__repr__", F.slot_dict_repr, F.slot_dict_str, F.slot_dict_format, fun s keep => ⟨o, keep _ _ h1, h2⟩, fun A E s Q hg hu keep hQ => ?_⟩
    rw [dict0_shown] at hQ hz
    simp only [PyData.depth] at hu
    exact call_dict_reprK h1 h2 h3 h0 (List.not_mem_nil) .nil hg (fun b _ => Clear.nil b) hu keep hQ hz
end
mutual
inductive Dq (K : PySem.W.Frag) (H : Hp) : V → PyData → Prop
  | non : Dq K H .non .none
  | bl (b : Bool) : Dq K H (.bl b) (.bool b)
  | int (i : Int) : Dq K H (.int i) (.int i)
  | str (x : Str) : Dq K H (.str x) (.str x)
  | lst {a : Addr} {xs : List V} {ds : List PyData} : SqL K H a xs → DqL K H xs ds → Dq K H (.ref a) (.list ds)
  | tup {a : Addr} {xs : List V} {ds : List PyData} : SqT K H a xs → DqL K H xs ds → Dq K H (.ref a) (.tuple ds)
  | dic {a : Addr} : Rd H a (.dK []) → Dq K H (.ref a) (.dict [])
inductive DqL (K : PySem.W.Frag) (H : Hp) : List V → List PyData → Prop
  | nil : DqL K H [] []
  | cons {v : V} {vs : List V} {d : PyData} {ds : List PyData} : Dq K H v d → DqL K H vs ds → DqL K H (v :: vs) (d :: ds)
end
section
variable {X : Cx} {K : PySem.W.Frag} {pins : List (Addr × Obj)} {σ : L2.St} {H : Hp} {s : Shared}
mutual
theorem Dq.shw (I : Inv X pins σ H s) : ∀ {v : V} {d : PyData} {u : Value}, Dq X.K H v d → RelV v u → Shw s.heap u d
  | _, _, u, .non, r => by cases r; exact .non
  | _, _, u, .bl b, r => by cases r; exact .bl b
  | _, _, u, .int i, r => by obtain ⟨t, rfl⟩ := r; exact .int i t
  | _, _, u, .str x, r => by obtain ⟨t, rfl⟩ := r; exact .str x t
  | _, _, u, .lst hs ha, r => by
    cases r
    obtain ⟨its, rv, ⟨o, n, ho, hc, _, hd⟩, _⟩ := I.list hs
    exact .lst ho hc hd (DqL.shw I ha rv)
  | _, _, u, .tup hs ha, r => by
    cases r
    obtain ⟨its, rv, ⟨o, ho, hc, n, hd⟩, _⟩ := I.tuple hs
    exact .tup ho hc hd (DqL.shw I ha rv)
  | _, _, u, .dic e, r => by
    cases r
    obtain ⟨_, h0, vs, rel, o, es, ep, ho, hex, hd, _, hp, _⟩ := dk_rd I.hok e
    cases rel
    have e0 : es.toList = [] := by
      generalize es.toList = l at hp
      cases hp; rfl
    have : es = #[] := by
      cases es
      simp at e0; subst e0; rfl
    subst this
    exact .dic h0 ho hex.1 hd
theorem DqL.shw (I : Inv X pins σ H s) : ∀ {vs : List V} {ds : List PyData} {us : List Value}, DqL X.K H vs ds → Vals vs us → ShwL s.heap us ds
  | _, _, _, .nil, .nil => .nil
  | _, _, _, .cons h r, .cons q t => .cons (Dq.shw I h q) (DqL.shw I r t)
end
def rReprQ (K : PySem.W.Frag) : List V → Hp → VK → Prop := fun xs H Q => ∃ x d, xs = [x] ∧ Dq K H x d ∧ (PyData.showable d = true ∧ d.shown.length ≤ sizeLine ∧ d.depth ≤ 64) ∧ Q (.str d.shown) H
theorem cr_reprQ (hq : Quiet X.A) (hu : X.A.units + 66 < cLine) : CallR X (.builtin "repr") (rReprQ X.K) := by
  intro pins s σ H xs us Q I r h
  obtain ⟨x, d, rfl, hd, ⟨h1, h2, h3⟩, q⟩ := h
  obtain ⟨u, rfl, rx⟩ := vals1 r
  have far : ∀ a, u = .ref a → wpAny (model X.prog X.w) X.A (call (.builtin "repr") [u]) (EP X pins σ Q) X.xe s := fun a e => by
    subst e
    obtain ⟨T, idr, S⟩ := Shw.by (prog := X.prog) (w := X.w) (Dq.shw I hd rx) h1 h2
    have keep : ∀ b o, s.heap.get? b = some o → s.heap.get? b = some o := fun _ _ e => e
    refine call_repr_slot (by omega) (S.typeIs s keep) S.slotRepr (S.call X.A.in1 X.xe s _ hq (by show X.A.units + 1 + d.depth < cLine; omega) keep fun h' t tk hk => ⟨_, _, rfl, ?_⟩)
    exact ⟨.str _, H, I.kept (h' := h') (t' := tk) hk, ⟨_, rfl⟩, q⟩
  cases hd with
  | non => obtain rfl := rx; exact P.repr_of_none ⟨.str _, H, I.tok _, ⟨_, rfl⟩, q⟩
  | bl b => obtain rfl := rx; exact P.repr_of_bool ⟨.str _, H, I.tok _, ⟨_, rfl⟩, q⟩
  | int i =>
    obtain ⟨t, rfl⟩ := rx
    exact P.repr_of_int (of_decide_eq_true (by simpa [PyData.showable] using h1)) ⟨.str _, H, I.tok _, ⟨_, rfl⟩, q⟩
  | str z =>
    obtain ⟨t, rfl⟩ := rx
    exact P.repr_of_str (hsz := h2) ⟨.str _, H, I.tok _, ⟨_, rfl⟩, q⟩
  | lst hl hr => exact far _ rx
  | tup hl hr => exact far _ rx
  | dic e => exact far _ rx
end
mutual
def pqS : SD → Option PyData
  | .non => some .none
  | .bl b => some (.bool b)
  | .int i => some (.int i)
  | .str s => some (.str s)
  | .ref _ => none
  | .ty _ => none
  | .exc _ _ => none
  | .ptp _ => none
  | .tup xs => match pqL xs with
    | some ds => some (.tuple ds)
    | none => none
  | .lst xs => match pqL xs with
    | some ds => some (.list ds)
    | none => none
  | .rol xs => match pqL xs with
    | some ds => some (.list ds)
    | none => none
  | .dic [] => some (.dict [])
  | .dic (_ :: _) => none
def pqL : List SD → Option (List PyData)
  | [] => some []
  | d :: r => match pqS d, pqL r with
    | some x, some y => some (x :: y)
    | _, _ => none
end
def pq (μ : Mu) : SD → Option PyData
  | .ref a => match μ a with
    | some (.lst xs) => match pqL xs with
      | some ds => some (.list ds)
      | none => none
    | _ => none
  | d => pqS d
section
variable {K : PySem.W.Frag} {F H : Hp} {μ : Mu}
mutual
theorem RepS.dq (ex : Ext F H) (sub : ∀ a o, F a = some o → H a = some o) : ∀ {d : SD} {v : V} {p : PyData}, RepS K F d v → pqS d = some p → Dq K H v p
  | _, _, _, .non, e => by cases e; exact .non
  | _, _, _, .bl b, e => by cases e; exact .bl b
  | _, _, _, .int b, e => by cases e; exact .int b
  | _, _, _, .str b, e => by cases e; exact .str b
  | _, _, _, .ref _, e => by cases e
  | _, _, _, .ty _, e => by cases e
  | .tup ds, _, _, .tup h r, e => by
    unfold pqS at e
    cases q : pqL ds with
    | none => rw [q] at e; cases e
    | some ps => rw [q] at e; cases e; exact .tup (ex.sqT h) (RepL.dq ex sub r q)
  | .lst ds, _, _, .lst h r, e => by
    unfold pqS at e
    cases q : pqL ds with
    | none => rw [q] at e; cases e
    | some ps => rw [q] at e; cases e; exact .lst (SqL.of (sub _ _ h)) (RepL.dq ex sub r q)
  | .rol ds, _, _, .rol h r, e => by
    unfold pqS at e
    cases q : pqL ds with
    | none => rw [q] at e; cases e
    | some ps => rw [q] at e; cases e; exact .lst (ex.sqL h) (RepL.dq ex sub r q)
  | .dic [], _, _, .dic h q r, e => by
    unfold pqS at e
    cases e
    have : ∀ vs : List (Key × V), vs.map (·.1) = ([] : List (Key × SD)).map (·.1) → vs = [] := fun vs hv => by simpa using hv
    have e2 := this _ q
    subst e2
    exact .dic (ex.rd _ _ h)
  | .dic (_ :: _), _, _, .dic _ _ _, e => by unfold pqS at e; cases e
  | _, _, _, .exc0 _ _, e => by unfold pqS at e; cases e
  | _, _, _, .exc _ _ _ _ _, e => by unfold pqS at e; cases e
  | _, _, _, .ptp _ _ _, e => by unfold pqS at e; cases e
theorem RepL.dq (ex : Ext F H) (sub : ∀ a o, F a = some o → H a = some o) : ∀ {ds : List SD} {vs : List V} {ps : List PyData}, RepL K F ds vs → pqL ds = some ps → DqL K H vs ps
  | _, _, _, .nil, e => by unfold pqL at e; cases e; exact .nil
  | d :: ds, _, _, .cons h r, e => by
    unfold pqL at e
    cases q : pqS d with
    | none => rw [q] at e; cases e
    | some x => cases q2 : pqL ds with
      | none => rw [q, q2] at e; cases e
      | some y => rw [q, q2] at e; cases e; exact .cons (RepS.dq ex sub h q) (RepL.dq ex sub r q2)
end
theorem HReal.dq (R : HReal K F H μ) {d : SD} {v : V} {p : PyData} (r : RepS K F d v) (e : pq μ d = some p) : Dq K H v p := by
  cases r with
  | ref a =>
    unfold pq at e
    simp only at e
    cases q : μ a with
    | none => rw [q] at e; cases e
    | some m =>
      rw [q] at e
      obtain ⟨_, o, h, ro⟩ := R.mus a m q
      cases ro with
      | lst r =>
        rename_i ds vs
        cases q2 : pqL ds with
        | none => simp only [q2] at e; cases e
        | some ps => simp only [q2] at e; cases e; exact .lst (SqL.of h) (RepL.dq R.ext R.sub r q2)
      | _ => cases e
  | non => exact RepS.dq R.ext R.sub .non e
  | bl b => exact RepS.dq R.ext R.sub (.bl b) e
  | int b => exact RepS.dq R.ext R.sub (.int b) e
  | str b => exact RepS.dq R.ext R.sub (.str b) e
  | ty b => cases e
  | tup h r => exact RepS.dq R.ext R.sub (.tup h r) e
  | lst h r => exact RepS.dq R.ext R.sub (.lst h r) e
  | rol h r => exact RepS.dq R.ext R.sub (.rol h r) e
  | dic h q r => exact RepS.dq R.ext R.sub (.dic h q r) e
  | exc0 _ _ => cases e
  | exc _ _ _ _ _ => cases e
  | ptp _ _ _ => cases e
def drReprQ : DRc := fun ds μ Q => match ds with
  | [d] => match pq μ d with
    | some p => (PyData.showable p = true ∧ p.shown.length ≤ sizeLine ∧ p.depth ≤ 64) ∧ Q (.str p.shown) μ
    | none => False
  | _ => False
theorem lc_reprQ : LRc K drReprQ (rReprQ K) := fun F H μ xs ds Q' Q R r t k => by
  cases r with
  | nil => exact False.elim t
  | cons r1 r2 => cases r2 with
    | cons _ _ => exact False.elim t
    | nil =>
      rename_i d v
      cases e : pq μ d with
      | none => simp only [drReprQ, e] at t
      | some p =>
        simp only [drReprQ, e] at t
        exact ⟨v, p, rfl, R.dq r1 e, t.1, k _ μ t.2 F H _ (Stp.refl _ _ _) R (.str _)⟩
end
section
variable {X : Cx} {K : PySem.W.Frag}
def rT0 (K : PySem.W.Frag) (neg : Bool) : R2 := fun x y H Q => ∃ a b xs, x = .ref a ∧ y = .ref b ∧ SqT K H a xs ∧ SqT K H b [] ∧ Q (.bl (neg != xs.isEmpty)) H
theorem size_vals {xs : List V} {its : List Value} (r : Vals xs its) : (its.toArray.size == (#[] : Array Value).size) = xs.isEmpty := by
  cases r <;> simp
theorem opr_eqT0 (hu : X.A.units + 64 < cLine) : OpR X (compareOp .Eq) (rT0 X.K false) := by
  intro pins s σ H x y v u Q I rx ry h
  obtain ⟨a, b, xs, rfl, rfl, ha, hb, q⟩ := h
  cases rx; cases ry
  obtain ⟨its, r, ht, _⟩ := I.tuple ha
  obtain ⟨its2, r2, ht2, _⟩ := I.tuple hb
  cases r2
  refine SeqAt.eq_tupleAt (e := fun _ => true) (show s.heap.IsTuple a its.toArray from ht) (show s.heap.IsTuple b #[] from ht2) (by omega) (fun j _ h2 => absurd h2 (Nat.not_lt_zero _)) ?_
  refine ⟨.bl _, H, I, rfl, ?_⟩
  rw [size_vals r]
  simpa using q
theorem opr_neT0 (hu : X.A.units + 64 < cLine) : OpR X (compareOp .NotEq) (rT0 X.K true) := by
  intro pins s σ H x y v u Q I rx ry h
  obtain ⟨a, b, xs, rfl, rfl, ha, hb, q⟩ := h
  cases rx; cases ry
  obtain ⟨its, r, ht, _⟩ := I.tuple ha
  obtain ⟨its2, r2, ht2, _⟩ := I.tuple hb
  cases r2
  refine SeqAt.RcNeAt.tuples (e := fun _ => true) (show s.heap.IsTuple a its.toArray from ht) (show s.heap.IsTuple b #[] from ht2) (by omega) (fun j _ h2 => absurd h2 (Nat.not_lt_zero _)) X.prog X.w X.xe _ ?_
  refine ⟨.bl _, H, I, rfl, ?_⟩
  rw [size_vals r]
  simpa using q
def dT0 (neg : Bool) : DR2 := fun x y μ Q => match x with
  | .tup xs => match y with
    | .tup [] => Q (.bl (neg != xs.isEmpty)) μ
    | _ => False
  | _ => False
theorem lr_T0 {neg : Bool} : LR2 K (dT0 neg) (rT0 K neg) := fun F H μ x y dx dy Q' Q R rx ry t k => by
  cases dx with
  | tup xs => cases dy with
    | tup ys => cases ys with
      | nil =>
        cases rx with
        | tup h1 r1 => cases ry with
          | tup h2 r2 =>
            cases r2
            refine ⟨_, _, _, rfl, rfl, R.ext.sqT h1, R.ext.sqT h2, ?_⟩
            exact k _ μ t F H _ (Stp.refl _ _ _) R (by
              have : ∀ vs : List V, RepL K F xs vs → xs.isEmpty = vs.isEmpty := fun vs q => by cases q <;> rfl
              rw [this _ r1]; exact .bl _)
      | cons _ _ => exact False.elim t
    | _ => exact False.elim t
  | _ => exact False.elim t
end
end DS
namespace DS
end DS
namespace PySem.DSX
end PySem.DSX
namespace DS
open PySem PySem.Spec PyProof.Rows L2
/-- an own __init__ of an error's class: B.__init__(self, y); self.f = y -/
def spI (C : Addr) (f : Str) : Sp := fun vs H Q _ => ∃ (a : Addr) (y : V), vs = [.ref a, y] ∧ H a = some (exo a C none) ∧ ∀ dx, H dx = none → dx ≠ a → Q .non (upd (upd H dx (exd dx [(f, y)])) a (exo a C (some dx)))
/-- all that is known of an error's class with an __init__ of its own -/
structure XDef (K : PySem.W.Frag) (mg : Str → Option Value) (x f p qual : Str) (st : Stmt) where
  C : Addr
  fI : Addr
  fd : FuncData
  F : Fun K "__init__" qual st fI fd
  m : mg x = some (.ref C)
  o : OexC K C
  ini : PySem.W.findIn K (.ref C) "__init__" = some (some (.ref fI))
  fn : PySem.W.typeIn K (.ref fI) = some (.type "function")
  b : Binds K fd ["self", p] []
  kb : KBinds K fd ["self", p] [p] (kwG [.inl 0, .inr 0] 1 1) (kwG [.inl 0, .inr 0] 1 1)
  xk : XcK K x C [f]
abbrev XIni (P : Program) (w : World) (base : Heap) {K : PySem.W.Frag} {mg : Str → Option Value} {x f p qual : Str} {st : Stmt} (D : XDef K mg x f p qual st) (k : Nat) : Prop := FnG P w K mg base CX0 k D.fI D.fd ["self", p] (spI D.C f)
/-- what is known of the class whose __init__ is asked -/
structure XBase (K : PySem.W.Frag) (mg : Str → Option Value) (x : Str) where
  C : Addr
  m : mg x = some (.ref C)
  sp : PySem.W.specialIn K (.ref C) "__getattribute__" = some (some (.builtin "type.__getattribute__"))
  rd : PySem.W.readsIn K C (.type "type") = true
  at_ : PySem.W.findCls K (.ref C) (.type "type") "__init__" = some (.val (.builtin "ValueError.__init__"))
section
variable {X : Cx} {x f q qual B : Str} {st : Stmt} {k n : Nat} {e : Expr} {es : List Expr} {te : TE} {t : TA} {p p1 p2 p3 p4 p5 p6 p7 p8 p9 p10 pos kpos : Pos}
/-- B.__init__(e, ..), B an own class of errors -/
theorem pe_bini (D : XBase X.K X.mg B) (hg : Gl X B) (ha : PA X (e :: es) t) (hdb : (B == ("__debug__" : Str)) = false) {pl : Sem Bool}
    (hc : eval (.Call (.Attribute (.Name B p1) "__init__" p2) (e :: es) [] pos) X.env = (do
      let ov ← eval (.Name B p1) X.env
      standAt p2.atName
      let (f, first) ← holding [ov] (getMethod ov "__init__" pl)
      callWith pos f first (backTo pos (starEach (e :: es) X.env)) (backToKw pos (keywordEach [] X.env))))
    (he : starEach (e :: es) X.env = (false, eval e X.env) :: starEach es X.env := by rfl) (hpl : (backTo pos (starEach es X.env)).any (·.1) = false := by rfl) :
    PE X (.Call (.Attribute (.Name B p1) "__init__" p2) (e :: es) [] pos) (tVeI X.K t) := by
  refine ⟨fun pins s σ H Q I h => ?_⟩
  refine PySem.W.methodCall_KW (ld_glob I hg D.m ?_ hdb) hc
  refine PySem.W.method_cls I.kIn D.sp (PySem.W.cls_value I.kIn D.rd D.at_ (by decide +kernel) ?_)
  show wpAny _ _ (callWith pos (Value.builtin "ValueError.__init__") [] (backTo pos (starEach (e :: es) X.env)) []) _ _ _
  refine PyProof.Rows.callWith_method1 (thn (ha.run pos pins _ σ H _ (I.tok _) h) fun us s1 ⟨vs, H1, I1, r1, a, C, ws, ev, hl, T, ea, q⟩ => ?_) he hpl
  subst ev
  match us, r1 with
  | _ :: us, .cons r0 r1 =>
    cases r0
    exact oinit_ok T I1 ea (by rw [← r1.length, sizeLine_eq]; omega) fun s' J => ⟨.non, H1, J, rfl, q⟩
/-- self.f = y behind it: the whole __init__ -/
theorem xini_ok {P : Program} {w : World} {K : PySem.W.Frag} {mg : Str → Option Value} {base : Heap} (D : XDef K mg x f q qual st) (Z : XBase K mg B) (S : FnScope ["self", q] ["self", q] (defScope st))
    (hb : defBody st = [.Expr (.Call (.Attribute (.Name B p1) "__init__" p2) [.Name "self" p3, .Name q p4] [] p5) p6, .Assign [.Attribute (.Name "self" p7) f p8] (.Name q p9) p10])
    (hg : (defScope st).names.lookup B = some .globalImplicit) (v0 : Vis (defScope st) "self") (v1 : Vis (defScope st) q) (hdb : (B == ("__debug__" : Str)) = false) (hq1 : (q == ("__debug__" : Str)) = false) (hq2 : (q == ("__classdict__" : Str)) = false)
    (hc : ∀ (L : Addr) (cdv : Value), ∃ pl : Sem Bool, eval (.Call (.Attribute (.Name B p1) "__init__" p2) [.Name "self" p3, .Name q p4] [] p5) (envOfC qual (defScope st) L D.fI cdv) = (do
      let ov ← eval (.Name B p1) (envOfC qual (defScope st) L D.fI cdv)
      standAt p2.atName
      let (f, first) ← holding [ov] (getMethod ov "__init__" pl)
      callWith p5 f first (backTo p5 (starEach [.Name "self" p3, .Name q p4] (envOfC qual (defScope st) L D.fI cdv))) (backToKw p5 (keywordEach [] (envOfC qual (defScope st) L D.fI cdv))))) : XIni P w base D 2 := by
  obtain ⟨oc, od, kV, doc, pm, an, cdv, ct, osl, e, lk, hcd⟩ := D.F.ex
  unfold XIni
  rw [e] at lk ⊢
  refine fnG_of lk hcd S (fun vs H Q E h => by obtain ⟨_, _, rfl, _⟩ := h; rfl) fun A outer s H vs Q E quiet room want => ?_
  obtain ⟨a, y, rfl, ea, k⟩ := want
  obtain ⟨pl, hpl⟩ := hc s.heap.objs.size cdv
  refine ⟨_, by
    rw [hb]
    exact pss_cons (ps_expr (pe_bini (t := tCons (tVar 0) (tCons (tVar 1) tNil)) Z hg (pa_cons (pe_var (i := 0) rfl v0) (pa_cons (pe_var (i := 1) rfl v1 hq1 hq2) pa_nil)) hdb hpl)) (pss_one (ps_ost (pe_var (i := 0) rfl v0) (pe_var (i := 1) rfl v1 hq1 hq2))), ?_⟩
  exact ⟨.ref a, rfl, y, rfl, a, D.C, [y], rfl, (by show 1 ≤ 1000; decide), D.o, ea, y, rfl, .ref a, rfl, a, D.C, rfl, D.o, D.xk.no f (List.mem_cons_self ..), .inl ⟨ea, k⟩⟩
end
def rX (K : PySem.W.Frag) (c : V) (cv : Value) : List V → Hp → VK → Prop := fun xs H Q => ∃ (a C : Addr) (od : Option Addr) (b : Bool) (x : Str) (fs : List Str), xs = [.ref a, c] ∧ H a = some (exq a C od) ∧ (∀ d, od = some d → ∃ vs, H d = some (.xd vs)) ∧ XcK K x C fs ∧ PySem.W.kitOne K (.ref C) cv = some b ∧ Q (.bl b) H
section
variable {X : Cx} {c : V} {cv : Value}
theorem call_x (hcv : ∀ u, RelV c u → u = cv) : CallR X (.builtin "isinstance") (rX X.K c cv) := by
  intro pins s σ H xs us Q I r h
  obtain ⟨a, C, od, b, x, fs, rfl, ea, ed, T, e, q⟩ := h
  match us, r with
  | [_, u], .cons r0 (.cons r1 .nil) =>
    cases r0
    have eu := hcv _ r1
    subst eu
    obtain ⟨⟨oe, vs, e1, ⟨z1, z2⟩, e3⟩, _, _⟩ := I.hok a _ ea
    have cls : (PySem.W.clsIn X.K C).isSome = true := by
      obtain ⟨cd, hc, _⟩ := PySem.W.any_some T.hd
      rw [hc]; rfl
    have no : PySem.W.notCls oe = true := by unfold PySem.W.notCls; rw [e3] <;> rfl
    have at_ : ∃ o : Option Obj, PySem.W.InstAt s.heap a oe C o := by
      cases q2 : od with
      | none => exact ⟨none, e1, z1, no, by rw [z2, q2]; exact True.intro⟩
      | some d =>
        obtain ⟨ws, hd⟩ := ed d q2
        have hx : ObjOk X.prog X.w H s.heap d (.xd ws) := I.hok d _ hd
        obtain ⟨mA, ⟨o, es, ep, ho, _⟩, _⟩ := hx
        exact ⟨some o, e1, z1, no, by rw [z2, q2]; exact ho⟩
    obtain ⟨o, J⟩ := at_
    exact PySem.W.kia_one (PySem.W.kitx_exc cls T.ga T.gg T.sub T.cl T.sp T.tk T.mro) I.kIn J e (fun z => nomatch z) fun tk => ⟨.bl b, H, I.kept (t' := tk) fun _ _ z => z, rfl, q⟩
end
/-- isinstance(an error, one class): kx says what for the class named -/
def isQ (kx : Str → Option Bool) (Q : SD → Mu → Prop) : SD → Mu → Prop := fun d μ => match d with
  | .exc x _ => (match kx x with
    | some b => Q (.bl b) μ
    | none => False)
  | _ => False
abbrev dIsX (kx : Str → Option Bool) (te : DTE) : DTE := fun ρ μ Q => te ρ μ (isQ kx Q)
section
variable {X : Cx} {x f : Str} {C : Addr} {e : Expr} {te : DTE} {p p2 pos : Pos} {kx : Str → Option Bool} {T : String}
theorem isx_go {c : SD} {v : V} {cv : Value} {Q' : SD → Mu → Prop} {Q : VK} {K : PySem.W.Frag} {F H : Hp} {μ : Mu} (hc : plain c = some v) (hk : ∀ x b C, kx x = some b → PySem.W.nsIn K mainGlobals x = some (some (.ref C)) → PySem.W.kitOne K (.ref C) cv = some b) {d : SD} {w : V} (R : HReal K F H μ) (r1 : RepS K F d w) (t : isQ kx Q' d μ)
    (k : ∀ d' μ', Q' d' μ' → ∀ F' H' v, Stp F H μ F' H' μ' → HReal K F' H' μ' → RepS K F' d' v → Q v H') : rX K v cv [w, v] H Q := by
  unfold isQ at t
  cases r1 with
  | exc0 T q =>
    simp only at t
    split at t
    · rename_i b e
      exact ⟨_, _, none, b, _, [], rfl, R.sub _ _ q, fun _ z => (by cases z), T, hk _ _ _ e T.at_, k _ _ t _ _ _ (Stp.refl _ _ _) R (.bl b)⟩
    · exact t.elim
  | exc T q q2 z r3 =>
    simp only at t
    split at t
    · rename_i b e
      exact ⟨_, _, some _, b, _, _, rfl, R.sub _ _ q, fun d z => (by cases z; exact ⟨_, R.sub _ _ q2⟩), T, hk _ _ _ e T.at_, k _ _ t _ _ _ (Stp.refl _ _ _) R (.bl b)⟩
    · exact t.elim
  | _ => exact t.elim
theorem isx_lift {c : SD} {v : V} {cv : Value} (hc : plain c = some v) (hk : ∀ x b C, kx x = some b → PySem.W.nsIn X.K mainGlobals x = some (some (.ref C)) → PySem.W.kitOne X.K (.ref C) cv = some b) (σ : L2.St) (H : Hp) (Q : VK) (h : LE X.K (dIsX kx te) σ H Q) :
    LA X.K (dCons te (dCons (dC c) dNil)) σ H (fun xs H1 => rX X.K v cv xs H1 Q) := by
  obtain ⟨F, ρ, μ, Q', R, S, t, k⟩ := h
  refine ⟨F, ρ, μ, fun ds μ1 => match ds with
    | [d, c'] => c' = c ∧ isQ kx Q' d μ1
    | _ => False, R, S, ?_, fun ds μ1 t1 F1 H1 vs s1 R1 r1 => ?_⟩
  · have mono : (fun (d : SD) (μ1 : Mu) => c = c ∧ isQ kx Q' d μ1) = isQ kx Q' := by
      funext d μ1
      exact propext ⟨fun z => z.2, fun z => ⟨rfl, z⟩⟩
    show te ρ μ (fun d μ1 => c = c ∧ isQ kx Q' d μ1)
    rw [mono]
    exact t
  · match ds, vs, r1, t1 with
    | [d, c'], [w, w'], .cons ra (.cons rb .nil), t2 =>
      have t3 : c' = c ∧ isQ kx Q' d μ1 := t2
      have ew : w' = v := by
        rw [t3.1] at rb
        exact rb.isPlain hc
      rw [ew]
      exact isx_go hc hk R1 ra t3.2 fun d' μ' q F' H' v' s R' r' => k d' μ' q F' H' v' (s1.trans s) R' r'
    | [], _, _, t1 => exact t1.elim
    | [_], _, _, t1 => exact t1.elim
    | _ :: _ :: _ :: _, _, _, t1 => exact t1.elim
theorem de_isX {D : Addr} (ha : DE X e te) (hI : Gl X "isinstance") (zI : X.mg "isinstance" = none) (hg : Gl X x) (hm : X.mg x = some (.ref D)) (hk : ∀ y b C, kx y = some b → PySem.W.nsIn X.K mainGlobals y = some (some (.ref C)) → PySem.W.kitOne X.K (.ref C) (.ref D) = some b)
    (hdb : (x == ("__debug__" : Str)) = false := by decide) (he : starEach [e, .Name x p2] X.env = (false, eval e X.env) :: starEach [.Name x p2] X.env := by rfl) (he2 : starEach [.Name x p2] X.env = (false, eval (.Name x p2) X.env) :: starEach [] X.env := by rfl)
    (hpl : (backTo pos (starEach [.Name x p2] X.env)).any (·.1) = false := by rfl) : DE X (.Call (.Name "isinstance" p) [e, .Name x p2] [] pos) (dIsX kx te) :=
  weakE (pe_callB (call_x (c := .ref D) (cv := .ref D) fun u r => r) hI zI bt_isinstance (da_cons ha (da_cons (de_glob (d := .ref D) (v := .ref D) hg hm rfl rfl hdb) da_nil he2) he) (by decide) (by decide) he hpl) (isx_lift (v := .ref D) rfl hk)
end
def tXfl (K : PySem.W.Frag) (f : Str) (te : TE) : TE := fun σ H Q => te σ H fun x H1 => ∃ (a C dx : Addr) (fs : List (Str × V)) (v : V) (y : Str) (ns : List Str), x = .ref a ∧ H1 a = some (exq a C (some dx)) ∧ H1 dx = some (.xd fs) ∧ fs.lookup f = some v ∧ XcK K y C ns ∧ f ∈ ns ∧ Q v H1
def dFld (f : Str) (te : DTE) : DTE := fun ρ μ Q => te ρ μ fun d μ1 => match d with
  | .exc _ fs => (match fs.lookup f with
    | some v => Q v μ1
    | none => False)
  | _ => False
theorem fld_at {K : PySem.W.Frag} {F : Hp} {f : Str} {d : SD} : ∀ {ds : List (Str × SD)} {vs : List (Str × V)}, vs.map (·.1) = ds.map (·.1) → RepL K F (ds.map (·.2)) (vs.map (·.2)) → ds.lookup f = some d → ∃ v, vs.lookup f = some v ∧ RepS K F d v ∧ f ∈ ds.map (·.1)
  | [], _, _, _, h => by cases h
  | (g, e) :: ds, [], h, _, _ => by simp at h
  | (g, e) :: ds, (g', w) :: vs, h, .cons r rs, hl => by
    simp only [List.map_cons, List.cons.injEq] at h
    obtain ⟨rfl, h⟩ := h
    simp only [List.lookup_cons] at hl ⊢
    split at hl
    · rename_i z
      cases hl
      exact ⟨w, rfl, r, by rw [beq_iff_eq.mp z]; exact List.mem_cons_self ..⟩
    · obtain ⟨v, a, b, c⟩ := fld_at h rs hl
      exact ⟨v, a, b, List.mem_cons_of_mem _ c⟩
section
variable {X : Cx} {f : Str} {e : Expr} {te : TE} {td : DTE} {pos : Pos}
theorem pe_xfl (he : PE X e te) (hb : attributeBase e f X.env (eval e X.env) = eval e X.env := by rfl) : PE X (.Attribute e f pos) (tXfl X.K f te) := by
  refine ⟨fun pins s σ H Q I h => attr_of hb (thn (he.run pins s σ H _ I h) fun u s1 z => ?_)⟩
  obtain ⟨x, H1, I1, rx, a, C, dx, fs, v, y, ns, rfl, ea, ed, l, T, hf, q⟩ := z
  cases rx
  obtain ⟨⟨oe, vs, e1, ⟨z1, z2⟩, e3⟩, _, _⟩ := I1.hok a _ ea
  have hx : ObjOk X.prog X.w H1 s1.heap dx (.xd fs) := I1.hok dx _ ed
  obtain ⟨mA, hns, hr⟩ := hx
  obtain ⟨o, ho, hl⟩ := lookIn_ns hns
  obtain ⟨u, hu, ru⟩ := RelO.some_of (v := v) (o := mA f) (by rw [← l]; exact hr f)
  have J : PySem.W.InstAt s1.heap a oe C (some o) := ⟨e1, z1, by unfold PySem.W.notCls; rw [e3] <;> rfl, by rw [z2]; exact ho⟩
  exact PySem.HandSPX.exc_get I1.kIn J T.ga T.gg T.sub (PySem.W.findObj_own T.hd (T.no f hf) rfl (by rw [hl, hu])) (handed_of ru) ⟨v, H1, I1.tok _, ru, q⟩
theorem de_fld (he : DE X e td) (hb : attributeBase e f X.env (eval e X.env) = eval e X.env := by rfl) : DE X (.Attribute e f pos) (dFld f td) := weakE (pe_xfl he hb) fun σ H Q h => by
  obtain ⟨F, ρ, μ, Q', R, S, t, k⟩ := h
  refine ⟨F, ρ, μ, _, R, S, t, fun d μ1 t1 F1 H1 v s1 R1 r1 => ?_⟩
  cases r1 with
  | exc0 T q => exact t1.elim
  | exc T q q2 z r3 =>
    simp only at t1
    split at t1
    · rename_i w e
      obtain ⟨v, l, r, m⟩ := fld_at z r3 e
      exact ⟨_, _, _, _, v, _, _, rfl, R1.sub _ _ q, R1.sub _ _ q2, l, T, m, k _ μ1 t1 F1 H1 v s1 R1 r⟩
    · exact t1.elim
  | _ => exact t1.elim
end
end DS
namespace DS
open PySem PySem.Spec PyProof.Rows L2
def inCls : Stmt → List Stmt
  | .ClassDef (body := b) .. => b
  | _ => []
/-- the plain facts of a class of errors (C the class, fI its own __init__, f its field) -/
structure XF (K : PySem.W.Frag) (C : Addr) : Prop where
  sa : PySem.W.findIn K (.ref C) "__setattr__" = some (some (.builtin "object.__setattr__"))
  ex : PySem.W.subIn K (.ref C) (.type "BaseException") = some true
  ty : PySem.W.typeIn K (.ref C) = some (.type "type")
  kc : PySem.W.keepIn K (.ref C) = true
  ga : PySem.W.findIn K (.ref C) "__getattribute__" = some (some (.builtin "BaseException.__getattribute__"))
  gg : PySem.W.findIn K (.ref C) "__getattr__" = some none
  hd : PySem.W.hasDictIn K C = true
  cl : PySem.W.findIn K (.ref C) "__class__" = some (some (.builtin "object.__class__"))
  sp : PySem.W.specialIn K (.builtin "object.__class__") "__get__" = some (some (.builtin "getset_descriptor.__get__"))
  tk : PySem.W.takesIn K (.builtin "object.__class__") = some true
  mro : PySem.W.mroIn K C (.type "object") = some true
/-- the class object: its name, address and the classes behind it -/
def XRow (K : PySem.W.Frag) (r : Str × Addr × List Value) : Prop := PySem.W.nsIn K mainGlobals r.1 = some (some (.ref r.2.1)) ∧ PySem.HandSPX.refsVE r.2.2 = true ∧
  ∃ nm q N bs sn sub ab col dd k0 k1 k2 k3 k5, K.lookup r.2.1 = some (excClassObj nm q r.2.1 N bs r.2.2 true sn sub ab col dd k0 k1 k2 k3 k5 "ValueError.__new__")
section
variable {K : PySem.W.Frag} {mg : Str → Option Value} {h : Heap} {x f : Str} {C fI D : Addr} {bm : List Value}
theorem XF.xck (F : XF K C) (a : PySem.W.nsIn K mainGlobals x = some (some (.ref C))) {fs : List Str} (no : ∀ f ∈ fs, PySem.W.findIn K (.ref C) f = some none) : XcK K x C fs := ⟨a, F.ga, F.gg, F.ex, F.hd, F.cl, F.sp, F.tk, F.mro, no⟩
theorem XF.oex (F : XF K C) (r : XRow K (x, C, bm)) : OexC K C := ⟨let ⟨_, v, nm, q, N, bs, sn, sub, ab, col, dd, k0, k1, k2, k3, k5, e⟩ := r; ⟨nm, q, N, bs, bm, sn, sub, ab, col, dd, k0, k1, k2, k3, k5, e, v⟩, F.sa, F.ex, F.ty, F.kc⟩
theorem xrow_cls {r : Str × Addr × List Value} (h : XRow K r) : ∃ cd, PySem.W.clsIn K r.2.1 = some cd ∧ cd.mro = .ref r.2.1 :: r.2.2 := by
  obtain ⟨_, _, nm, q, N, bs, sn, sub, ab, col, dd, k0, k1, k2, k3, k5, e⟩ := h
  refine ⟨_, by unfold PySem.W.clsIn; rw [e], rfl⟩
theorem xrow_mro {r : Str × Addr × List Value} (h : XRow K r) (b : Value) : PySem.W.mroIn K r.2.1 b = some ((Value.ref r.2.1 :: r.2.2).contains b) := by
  obtain ⟨cd, e, m⟩ := xrow_cls h
  unfold PySem.W.mroIn
  rw [e, Option.bind_some, m]
  rfl
/-- kX names c y: what isinstance says of an error of the class y asked for c -/
def kX (names : List Str) (c y : Str) : Option Bool := if y ∈ names then some (y == c || c == "KeyedError" || c == "ValueError") else none
theorem kit_row {r : Str × Addr × List Value} (h : XRow K r) (hD : (PySem.W.clsIn K D).isSome = true) (tD : PySem.W.typeIn K (.ref D) = some (.type "type")) : PySem.W.kitOne K (.ref r.2.1) (.ref D) = some (r.2.1 == D || r.2.2.contains (.ref D)) := by
  unfold PySem.W.kitOne
  by_cases e : r.2.1 = D
  · rw [if_pos (by rw [e]; exact beq_self_eq_true _), e]
    simp
  · rw [if_neg (by intro z; exact e (Value.ref.inj (beq_iff_eq.mp z)))]
    unfold PySem.W.kitCls
    dsimp only
    rw [hD, tD]
    show PySem.W.mroIn K r.2.1 (.ref D) = _
    rw [xrow_mro h, List.contains_cons]
    have : (Value.ref D == Value.ref r.2.1) = false := by
      rw [beq_eq_false_iff_ne]
      intro z
      exact e (Value.ref.inj z).symm
    rw [this, Bool.false_or]
    have : (r.2.1 == D) = false := by rw [beq_eq_false_iff_ne]; exact e
    rw [this, Bool.false_or]
def kitQ (rows : List (Str × Addr × List Value)) (c : Str) (D : Addr) : Bool := rows.all fun r => (r.2.1 == D || r.2.2.contains (.ref D)) == (r.1 == c || c == "KeyedError" || c == "ValueError")
theorem kit_ok {rows : List (Str × Addr × List Value)} {c : Str} (q : kitQ rows c D = true) (h : ∀ r ∈ rows, XRow K r) (hD : (PySem.W.clsIn K D).isSome = true) (tD : PySem.W.typeIn K (.ref D) = some (.type "type")) (y : Str) (b : Bool) (C : Addr) (e : kX (rows.map (·.1)) c y = some b)
    (a : PySem.W.nsIn K mainGlobals y = some (some (.ref C))) : PySem.W.kitOne K (.ref C) (.ref D) = some b := by
  unfold kX at e
  split at e
  · rename_i hm
    obtain ⟨r, hr, rfl⟩ := List.mem_map.mp hm
    have hx := h r hr
    obtain rfl : r.2.1 = C := by
      have z := hx.1.symm.trans a
      cases z; rfl
    rw [kit_row hx hD tD]
    have z := List.all_eq_true.mp q r hr
    rw [beq_iff_eq.mp z, e]
  · cases e
end
end DS
namespace DS
open PySem PySem.Spec PyProof.Rows L2
/-- the texts of data that are texts -/
def txtsD : List SD → Option (List Str)
  | [] => some []
  | .str x :: r => (match txtsD r with
    | some l => some (x :: l)
    | none => none)
  | _ :: _ => none
theorem txtsD_map : ∀ (l : List Str), txtsD (l.map SD.str) = some l
  | [] => rfl
  | x :: r => by rw [List.map_cons, txtsD, txtsD_map r]
theorem txtsD_of : ∀ {ds : List SD} {l : List Str}, txtsD ds = some l → ds = l.map SD.str
  | [], l, h => by cases h; rfl
  | .str x :: r, l, h => by
    rw [txtsD] at h
    cases e : txtsD r with
    | none => rw [e] at h; cases h
    | some k => rw [e] at h; cases h; rw [txtsD_of e]; rfl
  | .non :: _, _, h => by cases h
  | .bl _ :: _, _, h => by cases h
  | .int _ :: _, _, h => by cases h
  | .ref _ :: _, _, h => by cases h
  | .ty _ :: _, _, h => by cases h
  | .tup _ :: _, _, h => by cases h
  | .lst _ :: _, _, h => by cases h
  | .dic _ :: _, _, h => by cases h
  | .rol _ :: _, _, h => by cases h
  | .exc _ _ :: _, _, h => by cases h
  | .ptp _ :: _, _, h => by cases h
end DS
namespace DS
end DS
namespace DS
open PySem PySem.Spec PyProof.Rows L2
/-- what is known of an own class -/
structure OCls (K : PySem.W.Frag) (mg : Str → Option Value) (x : Str) where
  C : Addr
  m : mg x = some (.ref C)
  k : OcK K x C
/-- a method -/
structure MDef {K : PySem.W.Frag} {mg : Str → Option Value} {x : Str} (D : OCls K mg x) (m qual : Str) (st : Stmt) (ps : List Str) where
  f : Addr
  fd : FuncData
  F : Fun K m qual st f fd
  me : Meth K D.C m f
  b : Binds K fd ps []
/-- the own __init__ -/
structure IDef {K : PySem.W.Frag} {mg : Str → Option Value} {x : Str} (D : OCls K mg x) (qual : Str) (st : Stmt) (ps : List Str) where
  f : Addr
  fd : FuncData
  F : Fun K "__init__" qual st f fd
  maker : Mk K D.C f
  b : Binds K fd ps []
abbrev FnM (P : Program) (w : World) (base : Heap) {K : PySem.W.Frag} {mg : Str → Option Value} {x m qual : Str} {D : OCls K mg x} {st : Stmt} {ps : List Str} (M : MDef D m qual st ps) (k : Nat) (sp : DSp) : Prop := FnG P w K mg base CX0 k M.f M.fd ps (LSp K sp)
abbrev FnI (P : Program) (w : World) (base : Heap) {K : PySem.W.Frag} {mg : Str → Option Value} {x qual : Str} {D : OCls K mg x} {st : Stmt} {ps : List Str} (M : IDef D qual st ps) (k : Nat) (sp : DSp) : Prop := FnG P w K mg base CX0 k M.f M.fd ps (LSp K sp)
section
variable {K : PySem.W.Frag} {F H : Hp} {μ : Mu} {p a : Addr} {x f : Str}
/-- an object that is nobody's business -/
theorem HReal.newU (R : HReal K F H μ) {o : HO} (h : H p = none) : HReal K F (upd H p o) μ := by
  have hF := R.freeF h
  refine ⟨fun b u e => by rw [upd_ne (ne_of_none e hF)]; exact R.sub b u e, fun b m e => ?_⟩
  obtain ⟨z, u, q, r⟩ := R.mus b m e
  exact ⟨z, u, by rw [upd_ne (ne_of_none q h)]; exact q, r⟩
theorem Stp.newU {o : HO} (h : H p = none) : Stp F H μ F (upd H p o) μ :=
  ⟨Ext.refl F, fun b h1 h2 h3 => ⟨upd_ne fun z => by subst z; exact h1 h, h2, h3⟩⟩
def putS (f : Str) (v : SD) : List (Str × SD) → List (Str × SD)
  | [] => [(f, v)]
  | (g, x) :: r => if g = f then (g, v) :: r else (g, x) :: putS f v r
theorem put_rep {d : SD} {y : V} (r : RepS K F d y) : ∀ {ds : List (Str × SD)} {vs : List (Str × V)}, vs.map (·.1) = ds.map (·.1) → RepL K F (ds.map (·.2)) (vs.map (·.2)) →
    (putF f y vs).map (·.1) = (putS f d ds).map (·.1) ∧ RepL K F ((putS f d ds).map (·.2)) ((putF f y vs).map (·.2))
  | [], [], _, _ => ⟨rfl, .one r⟩
  | [], _ :: _, h, _ => by cases h
  | _ :: _, [], h, _ => by cases h
  | (g, e) :: ds, (g', w) :: vs, h, .cons ra rb => by
    simp only [List.map_cons, List.cons.injEq] at h
    obtain ⟨rfl, h⟩ := h
    by_cases q : g' = f
    · rw [putF, putS, if_pos q, if_pos q]
      exact ⟨by simp [h], .cons r rb⟩
    · rw [putF, putS, if_neg q, if_neg q]
      obtain ⟨i1, i2⟩ := put_rep r h rb
      exact ⟨by simp [i1], .cons ra i2⟩
theorem OcK.one {C D : Addr} (a : OcK K x C) (b : OcK K x D) : C = D := by
  have z := a.at_.symm.trans b.at_
  cases z; rfl
theorem look_none {ds : List (Str × SD)} {vs : List (Str × V)} (h : vs.map (·.1) = ds.map (·.1)) (e : ds.lookup f = none) : vs.lookup f = none := by
  have key : ∀ {α : Type} {l : List (Str × α)}, l.lookup f = none ↔ f ∉ l.map (·.1) := fun {α l} => by
    induction l with
    | nil => simp
    | cons q l ih =>
      obtain ⟨g, z⟩ := q
      rw [List.lookup_cons]
      split
      · rename_i hg
        have := beq_iff_eq.mp hg
        simp [this]
      · rename_i hg
        have : f ≠ g := fun z => by rw [z] at hg; simp at hg
        simp [this, ih]
  rw [key] at e ⊢
  rw [h]
  exact e
end
def aQ (x f : Str) (Q : SD → Mu → Prop) : SD → Mu → Prop := fun d μ => match d with
  | .ref a => (match μ a with
    | some (.obj y fs) => y = x ∧ (match fs.lookup f with
      | some v => Q v μ
      | none => False)
    | _ => False)
  | _ => False
abbrev dAttr (x f : Str) (te : DTE) : DTE := fun ρ μ Q => te ρ μ (aQ x f Q)
/-- o.f = e -/
def sQ (x f : Str) (y : SD) (R : Mu → Prop) : SD → Mu → Prop := fun d μ => match d with
  | .ref a => (match μ a with
    | some (.obj z fs) => z = x ∧ fs.length < 900 ∧ R (up μ a (.obj x (putS f y fs)))
    | _ => False)
  | _ => False
abbrev dPutA (x f : Str) (to tv : DTE) : DTS := fun D ρ μ => tv ρ μ fun y μ1 => to ρ μ1 (sQ x f y fun μ2 => D.nx ρ μ2)
/-- o.m(e, ..) -/
def mQ (x m : Str) (R : SD → Mu → Prop) : SD → Mu → Prop := fun d μ => match d with
  | .ref a => (match μ a with
    | some (.obj z fs) => z = x ∧ fs.lookup m = none ∧ R d μ
    | _ => False)
  | _ => False
abbrev dMeth (x m : Str) (sp : DSp) (to : DTE) (t : DTA) : DTE := fun ρ μ Q => to ρ μ (mQ x m fun d μ1 => t ρ μ1 fun ds μ2 => sp (d :: ds) μ2 Q fun _ _ _ => False)
/-- C(e, ..) -/
abbrev dMkC (x : Str) (sp : DSp) (t : DTA) : DTE := fun ρ μ Q => t ρ μ fun ds μ1 => ∀ a, μ1 a = none → sp (.ref a :: ds) (up μ1 a (.obj x [])) (fun d μ2 => d = .non ∧ Q (.ref a) μ2) fun _ _ _ => False
section
variable {X : Cx} {x m f qual : Str} {st : Stmt} {ps : List Str} {k n : Nat} {e o : Expr} {es : List Expr} {te to tv : DTE} {t : DTA} {p pos apos pos' : Pos} {sp : DSp}
theorem HReal.obj {K : PySem.W.Frag} {mg : Str → Option Value} {F H : Hp} {μ : Mu} {a : Addr} {fs : List (Str × SD)} (R : HReal K F H μ) (D : OCls K mg x) (h : μ a = some (.obj x fs)) : ∃ dx vs, H a = some (.ins D.C dx vs) ∧ vs.map (·.1) = fs.map (·.1) ∧ RepL K F (fs.map (·.2)) (vs.map (·.2)) := by
  obtain ⟨_, o, ho, r⟩ := R.mus a _ h
  cases r with
  | obj c q r =>
    obtain rfl := c.one D.k
    exact ⟨_, _, ho, q, r⟩
theorem de_attr (D : OCls X.K X.mg x) (nf : NoAttr X.K D.C f) (he : DE X e te) (hb : attributeBase e f X.env (eval e X.env) = eval e X.env := by rfl) : DE X (.Attribute e f pos) (dAttr x f te) := weakE (pe_fld he hb) fun σ H Q h => by
  obtain ⟨F, ρ, μ, Q', R, S, t, k⟩ := h
  refine ⟨F, ρ, μ, _, R, S, t, fun d μ1 t1 F1 H1 v s1 R1 r1 => ?_⟩
  unfold aQ at t1
  cases r1 with
  | ref a =>
    simp only at t1
    split at t1
    · rename_i y fs e1
      obtain ⟨rfl, t1⟩ := t1
      split at t1
      · rename_i w e2
        obtain ⟨dx, vs, h1, h2, h3⟩ := R1.obj D e1
        obtain ⟨u, l, r, _⟩ := fld_at h2 h3 e2
        exact ⟨a, D.C, dx, vs, u, rfl, h1, D.k.c, nf, l, k _ μ1 t1 F1 H1 u s1 R1 r⟩
      · exact t1.elim
    · exact t1.elim
  | _ => exact t1.elim
theorem ds_putA (D : OCls X.K X.mg x) (nf : NoAttr X.K D.C f) (ho : DE X o to) (hv : DE X e tv) (hs : swapsWith e (some (.Attribute o f pos')) pos.line X.env = pure false := by rfl) : DS_ X (.Assign [.Attribute o f pos'] e pos) (dPutA x f to tv) := weakS (ps_fld ho hv hs) fun D' σ H h => by
  obtain ⟨F, ρ, μ, E, R, S, t, k1, _⟩ := h
  refine ⟨F, ρ, μ, _, R, S, t, fun y μ1 t1 F1 H1 yv s1 R1 r1 => ?_⟩
  refine ⟨F1, ρ, μ1, _, R1, S.mono s1.ext, t1, fun d μ2 t2 F2 H2 v s2 R2 r2 => ?_⟩
  unfold sQ at t2
  cases r2 with
  | ref a =>
    simp only at t2
    split at t2
    · rename_i z fs e1
      obtain ⟨rfl, hl, t2⟩ := t2
      obtain ⟨dx, vs, h1, h2, h3⟩ := R2.obj D e1
      have len : vs.length = fs.length := by simpa using congrArg List.length h2
      obtain ⟨q1, q2⟩ := put_rep (f := f) (r1.mono s2.ext) h2 h3
      refine ⟨a, D.C, dx, vs, rfl, h1, D.k.c, nf, by omega, ?_⟩
      have s3 := Stp.put (F := F2) (H := H2) (o := .ins D.C dx (putF f yv vs)) (m := .obj z (putS f y fs)) e1
      exact k1 ρ _ t2 F2 _ _ ((s1.trans s2).trans s3) (R2.put e1 (.obj D.k q1 q2)) ((S.mono s1.ext).mono s2.ext)
    · exact t2.elim
  | _ => exact t2.elim
theorem de_meth {D : OCls X.K X.mg x} {M : MDef D m qual st ps} (G : FnM X.prog X.w X.base M k sp) (hq : Quiet X.A) (hr : Room n X.A) (he : DE X o to) (ha : DA X (e :: es) t) (hk : k ≤ n := by omega)
    (hst : starEach (e :: es) X.env = (false, eval e X.env) :: starEach es X.env := by rfl) (hpl : (backTo pos (starEach es X.env)).any (·.1) = false := by rfl) {pl : Sem Bool}
    (ht : eval (.Call (.Attribute o m apos) (e :: es) [] pos) X.env = (do
      let ov ← eval o X.env
      standAt apos.atName
      let (f, first) ← holding [ov] (getMethod ov m pl)
      callWith pos f first (backTo pos (starEach (e :: es) X.env)) (backToKw pos (keywordEach [] X.env))) := by rfl) : DE X (.Call (.Attribute o m apos) (e :: es) [] pos) (dMeth x m sp to t) := by
  refine ⟨fun pins s σ H Q I h => ?_⟩
  obtain ⟨F, ρ, μ, Q', R, S, t0, kk⟩ := h
  refine PySem.W.methodCall_KW (pl := pl) (thn (he.run pins s σ H (fun v H1 => ∃ a d F1 μ1, v = .ref a ∧ RepS X.K F1 d v ∧ Stp F H μ F1 H1 μ1 ∧ HReal X.K F1 H1 μ1 ∧ (∃ dx vs, H1 a = some (.ins D.C dx vs) ∧ vs.lookup m = none) ∧ t ρ μ1 fun ds μ2 => sp (d :: ds) μ2 Q' fun _ _ _ => False) I ⟨F, ρ, μ, _, R, S, t0, fun d μ1 t1 F1 H1 v s1 R1 r1 => ?_⟩) fun u s1 z => ?_) ht
  · unfold mQ at t1
    cases r1 with
    | ref a =>
      simp only at t1
      split at t1
      · rename_i z fs e1
        obtain ⟨rfl, hl, t1⟩ := t1
        obtain ⟨dx, vs, h1, h2, h3⟩ := R1.obj D e1
        exact ⟨a, _, F1, μ1, rfl, .ref a, s1, R1, ⟨dx, vs, h1, look_none h2 hl⟩, t1⟩
      · exact t1.elim
    | _ => exact t1.elim
  · obtain ⟨v, H1, I1, rx, a, d, F1, μ1, rfl, rd, sa, R1, ⟨dx, vs, h1, h2⟩, t1⟩ := z
    obtain rfl : u = Value.ref a := rx
    refine getmeth_ok I1 h1 D.k.c M.me h2 ?_
    refine PySem.W.callWith_K (first := [.ref a]) (h₀ := X.base) I.ok.mod.kin M.me.kp (thn (ha.run pos pins s1 σ H1 (fun vs H2 => ∃ F2 μ2 ds, Stp F1 H1 μ1 F2 H2 μ2 ∧ HReal X.K F2 H2 μ2 ∧ RepL X.K F2 ds vs ∧ sp (d :: ds) μ2 Q' fun _ _ _ => False) I1
      ⟨F1, ρ, μ1, _, R1, S.mono sa.ext, t1, fun ds μ2 t2 F2 H2 vs s2 R2 r2 => ⟨F2, μ2, ds, s2, R2, r2, t2⟩⟩) fun us s2 z => ?_) hst hpl
    obtain ⟨ws, H2, I2, r, F2, μ2, ds, s2, R2, r2, t2⟩ := z
    refine ⟨I2.kIn, ?_⟩
    refine call_g (us := .ref a :: us) (vs := .ref a :: ws) (dvs := []) (ds := []) (E := E0) G hq (hr.mono hk) M.b .nil pass0 I2 (.cons rfl r) ?_
    rw [List.append_nil]
    exact ⟨F2, μ2, d :: ds, Q', _, R2, .cons (rd.mono s2.ext) r2, t2, fun d' μ' q F' H' v s' R' r' => kk d' μ' q F' H' v ((sa.trans s2).trans s') R' r', fun _ _ _ q => q.elim⟩
theorem de_mkC {D : OCls X.K X.mg x} {M : IDef D qual st ps} (G : FnI X.prog X.w X.base M k sp) (hq : Quiet X.A) (hr : Room n X.A) (ha : DA X (e :: es) t) (hk : k + 1 ≤ n := by omega) (hg : Gl X x := by rfl) (hdb : (x == ("__debug__" : Str)) = false := by decide)
    (he : starEach (e :: es) X.env = (false, eval e X.env) :: starEach es X.env := by rfl) (hpl : (backTo pos (starEach es X.env)).any (·.1) = false := by rfl) : DE X (.Call (.Name x p) (e :: es) [] pos) (dMkC x sp t) := by
  refine ⟨fun pins s σ H Q I h => ?_⟩
  obtain ⟨F, ρ, μ, Q', R, S, t0, kk⟩ := h
  refine wpAny_Call_Name_kw (ld_glob I hg D.m ?_ hdb)
  refine PySem.W.callWith_K (h₀ := X.base) I.ok.mod.kin M.maker.kp (thn (ha.run pos pins s σ H (fun vs H1 => ∃ F1 μ1 ds, Stp F H μ F1 H1 μ1 ∧ HReal X.K F1 H1 μ1 ∧ RepL X.K F1 ds vs ∧ ∀ a, μ1 a = none → sp (.ref a :: ds) (up μ1 a (.obj x [])) (fun d μ2 => d = .non ∧ Q' (.ref a) μ2) fun _ _ _ => False) I
    ⟨F, ρ, μ, _, R, S, t0, fun ds μ1 t1 F1 H1 vs s1 R1 r1 => ⟨F1, μ1, ds, s1, R1, r1, t1⟩⟩) fun us s1 z => ?_) he hpl
  obtain ⟨vs, H1, I1, r, F1, μ1, ds, sa, R1, rl, t1⟩ := z
  refine ⟨I1.kIn, ?_⟩
  show wpAny _ _ (call (.ref D.C) us) _ _ _
  have nx : H1 (s1.heap.objs.size + 1) = none := I1.hok.fresh (Nat.le_succ _)
  have nd : H1 s1.heap.objs.size = none := I1.hok.fresh (Nat.le_refl _)
  have ne : s1.heap.objs.size ≠ s1.heap.objs.size + 1 := Nat.ne_of_lt (Nat.lt_succ_self _)
  have I2 := Inv.made (C := D.C) I1
  have n2 : upd H1 s1.heap.objs.size (.own (s1.heap.objs.size + 1)) (s1.heap.objs.size + 1) = none := by rw [upd_ne (Ne.symm ne)]; exact nx
  have RA := R1.newU (o := .own (s1.heap.objs.size + 1)) nd
  have RB := RA.newM (o := .ins D.C s1.heap.objs.size []) (m := .obj x []) n2 (.obj D.k rfl .nil)
  have SB := (Stp.newU (F := F1) (μ := μ1) (o := .own (s1.heap.objs.size + 1)) nd).trans (Stp.newM RA (o := .ins D.C s1.heap.objs.size []) (m := .obj x []) n2)
  have want : LSp X.K sp (V.ref (s1.heap.objs.size + 1) :: vs) (upd (upd H1 s1.heap.objs.size (.own (s1.heap.objs.size + 1))) (s1.heap.objs.size + 1) (.ins D.C s1.heap.objs.size [])) (fun v H3 => v = .non ∧ Q (.ref (s1.heap.objs.size + 1)) H3) E0 :=
    ⟨F1, _, _, _, _, RB, .cons (.ref _) rl, t1 _ (R1.freeM nx), fun d μ' q F' H' v s' R' r' => by
      obtain ⟨rfl, q⟩ := q
      cases r'
      exact ⟨rfl, kk _ μ' q F' H' _ ((sa.trans SB).trans s') R' (.ref _)⟩, fun _ _ _ q => q.elim⟩
  have rv : Vals (V.ref (s1.heap.objs.size + 1) :: vs) (Value.ref (s1.heap.objs.size + 1) :: us) := .cons rfl r
  have cnt : (Value.ref (s1.heap.objs.size + 1) :: us).length = ps.length := rv.length.symm.trans (G.len _ _ _ _ want)
  have bnd := M.b _ (Value.ref (s1.heap.objs.size + 1) :: us) I2.kIn (by simpa using cnt)
  rw [List.append_nil] at bnd
  refine wpAny_call (make_map (f := M.f) I1.kIn M.maker.makes M.maker.init (beq_iff_eq.mp M.maker.fn) (codeAny_mono (G.go _ X.stack _ _ ⟨Value.ref (s1.heap.objs.size + 1) :: us, []⟩ _ _ _ E0 (quiet_make hq D.C us []) ((hr.mono hk).make D.C us []) (I2.env0.make D.C us []) bnd rv want) fun r s' z => ?_))
  match r, z with
  | .error _, z => exact False.elim z
  | .ok .next, z => exact False.elim z
  | .ok .brk, z => exact False.elim z
  | .ok .cont, z => exact False.elim z
  | .ok (.ret u), z =>
    obtain ⟨v, H', I3, rv', ev, q3⟩ := I2.after z
    subst ev
    exact ⟨rv', V.ref (s1.heap.objs.size + 1), H', I3, rfl, q3⟩
end
end DS
namespace DS
open PySem PySem.Spec PyProof.Rows L2
theorem first_str : ∀ {ns : List Str} {z : Str}, z ∈ ns → ∃ j, j < ns.length ∧ ns[j]? = some z ∧ (∀ i, i < j → ns[i]? ≠ some z) ∧ ns.eraseIdx j = ns.erase z
  | [], _, h => by cases h
  | x :: ns, z, h => by
    by_cases e : x = z
    · subst e
      exact ⟨0, by simp, rfl, fun i hi => absurd hi (Nat.not_lt_zero _), by simp⟩
    · have hz : z ∈ ns := (List.mem_cons.mp h).resolve_left (Ne.symm e)
      obtain ⟨j, h1, h2, h3, h4⟩ := first_str hz
      refine ⟨j + 1, by simpa using h1, by simpa using h2, fun i hi => ?_, ?_⟩
      · cases i with
        | zero => simpa using e
        | succ i => simpa using h3 i (by omega)
      · rw [List.eraseIdx_cons_succ, h4, List.erase_cons_tail (by simpa using e)]
theorem isStr_at (z : Str) : ∀ {vs : List Value} {ns : List Str}, StrsAre vs ns → ∀ (i : Nat) (h : i < vs.length), isStrOf z vs[i] = true ↔ ns[i]? = some z := fun {vs ns} hs i h => by
  obtain ⟨k, t, h1, h2⟩ := strsAre_at hs i vs[i] (List.getElem?_eq_getElem h)
  rw [h2, h1]
  show (k == z) = true ↔ _
  simp
theorem erase_map : ∀ (ns : List Str) (j : Nat), (ns.map V.str).eraseIdx j = (ns.eraseIdx j).map V.str
  | [], _ => rfl
  | _ :: _, 0 => rfl
  | x :: ns, j + 1 => by
    rw [List.map_cons, List.eraseIdx_cons_succ, List.eraseIdx_cons_succ, List.map_cons, erase_map ns j]
def rRemS : V → List V → Hp → VK → Prop := fun x xs H Q => ∃ (l : Addr) (ns : List Str) (z : Str), x = .ref l ∧ xs = [.str z] ∧ H l = some (.lst (ns.map V.str)) ∧ z ∈ ns ∧ Q .non (upd H l (.lst ((ns.erase z).map V.str)))
theorem mt_remS {X : Cx} : MtR X "list.remove" rRemS := by
  intro pins s σ H x xs v us Q I rx rs h
  obtain ⟨l, ns, z, rfl, rfl, hH, hz, q⟩ := h
  cases rx
  match us, rs with
  | [u], .cons ru .nil =>
    obtain ⟨t, rfl⟩ := (show ∃ t, u = Value.str z t from ru)
    obtain ⟨big, its, n, r, hl, at_⟩ := I.lstM hH
    have hi := r.strs
    have many : ns.length = its.length := by rw [← hl, List.length_map]
    have size : its.toArray.size ≤ sizeLine := by rw [List.size_toArray, ← hl]; exact big
    obtain ⟨j, j1, j2, j3, j4⟩ := first_str hz
    have hj : j < its.length := by omega
    refine call_meets PySem.F.slot_list_remove ⟨_, at_, rfl⟩ PySem.F.entry_list_remove (PySem.F.args_list_remove_2 _ _)
      (MeetsSeq.list_remove l its.toArray n (.str z t) (isStrOf z) (fun y hy => eq_isStrOf z t hi y (by simpa using hy)) j (by rw [List.size_toArray]; exact hj) ?hit (fun i hi2 lt => ?hno) size) ⟨at_, ?_⟩
    case hit =>
      show isStrOf z its[j] = true
      exact (isStr_at z hi j hj).mpr j2
    case hno =>
      have hi3 : i < its.length := by simpa using hi2
      show isStrOf z its[i] = false
      rw [Bool.eq_false_iff]
      exact fun w => j3 i lt ((isStr_at z hi i hi3).mp w)
    have r2 : Vals ((ns.erase z).map V.str) (its.eraseIdx j) := by
      have w := r.eraseIdx j
      have e : (ns.map V.str).eraseIdx j = (ns.erase z).map V.str := by rw [← j4]; exact erase_map _ _
      rw [e] at w
      exact w
    refine ⟨.non, _, I.lset (its' := its.eraseIdx j) hH at_ ?_ r2 ?_, rfl, q⟩
    · show its.toArray.eraseIdxIfInBounds j = (its.eraseIdx j).toArray
      rw [List.eraseIdxIfInBounds_toArray]
    · rw [List.length_map]
      have := List.length_erase_le (a := z) (l := ns)
      rw [List.length_map] at big
      omega
def dmRemove : DRm := fun d ds μ Q => match ds with
  | [.str z] => (match mlst μ d with
    | some (a, xs) => (match txtsD xs with
      | some ns => z ∈ ns ∧ Q .non (up μ a (.lst ((ns.erase z).map SD.str)))
      | none => False)
    | none => False)
  | _ => False
theorem lm_remove {K : PySem.W.Frag} : LRm K dmRemove rRemS := fun F H μ x xs d ds Q' Q R r rs t k => by
  unfold dmRemove at t
  split at t
  · rename_i z
    cases rs with
    | cons r1 r2 =>
      cases r1
      cases r2
      cases e : mlst μ d with
      | none => simp only [e] at t
      | some p =>
        obtain ⟨a, ys⟩ := p
        simp only [e] at t
        cases e2 : txtsD ys with
        | none => simp only [e2] at t
        | some ns =>
          simp only [e2] at t
          obtain ⟨hz, t⟩ := t
          obtain rfl := txtsD_of e2
          obtain ⟨rfl, hm, vs, ha, rl⟩ := R.mlst r e
          obtain rfl := rl.strs
          exact ⟨a, ns, z, rfl, rfl, ha, hz, k _ _ t F _ _ (Stp.put hm) (R.put hm (.lst (RepL.ofStrs _))) .non⟩
  · exact t.elim
def dmIndex : DRm := fun d ds μ Q => match ds with
  | [.str z] => (match lstD μ d with
    | some xs => (match txtsD xs with
      | some ns => z ∈ ns ∧ Q (.int (ns.idxOf z : Nat)) μ
      | none => False)
    | none => False)
  | _ => False
theorem lm_index {K : PySem.W.Frag} : LRm K dmIndex (rIndex K) := fun F H μ x xs d ds Q' Q R r rs t k => by
  unfold dmIndex at t
  split at t
  · rename_i z
    cases rs with
    | cons r1 r2 =>
      cases r1
      cases r2
      cases e : lstD μ d with
      | none => simp only [e] at t
      | some ys =>
        simp only [e] at t
        cases e2 : txtsD ys with
        | none => simp only [e2] at t
        | some ns =>
          simp only [e2] at t
          obtain ⟨hz, t⟩ := t
          obtain rfl := txtsD_of e2
          obtain ⟨a, vs, rfl, ha, rl⟩ := R.lst r e
          obtain rfl := rl.strs
          have hi : ns.idxOf z < ns.length := List.idxOf_lt_length_of_mem hz
          refine ⟨a, ns.map V.str, .str z, ns.idxOf z, .str z, rfl, rfl, SqL.of ha, rfl, ?_, ?_, ?_, ?_, k _ _ t F _ _ (Stp.refl _ _ _) R (.int _)⟩
          · rw [List.all_map]
            exact List.all_eq_true.mpr fun y _ => rfl
          · rw [List.getElem?_map, List.getElem?_eq_getElem hi, List.getElem_idxOf hi]
            rfl
          · show (z == z) = true
            simp
          · intro m z' hm hz'
            rw [List.getElem?_map, List.getElem?_eq_getElem (by omega)] at hz'
            cases hz'
            show (ns[m] == z) = false
            exact List.not_of_lt_findIdx (xs := ns) (p := fun x => x == z) hm
  · exact t.elim
section
variable {X : Cx} {o e : Expr} {to te : DTE} {apos cpos : Pos}
theorem de_remove (ho : DE X o to) (ha : DE X e te) (hs : starEach [e] X.env = (false, eval e X.env) :: starEach [] X.env := by rfl) (hbase : attributeBase o "remove" X.env (eval o X.env) = eval o X.env := by rfl)
    (hfew : ((backTo cpos (starEach [e] X.env)).all (fun x => !x.1) && (backToKw cpos (keywordEach [] X.env)).all (fun x => x.1.isSome) && decide (([e] : List Expr).length + ([] : List Keyword).length + (if ([] : List Keyword).isEmpty then 0 else 1) < 30)) = true := by rfl)
    (hline : (apos.endLine == cpos.line) = true := by rfl) (hplain : (backTo cpos (starEach [] X.env)).any (·.1) = false := by rfl) :
    DE X (.Call (.Attribute o "remove" apos) [e] [] cpos) (dLM dmRemove to (dCons te dNil)) := de_lm F.plainAttrs_list F.slot_list_remove F.type_list_remove mt_remS lm_remove ho (da_cons ha da_nil hs) hbase hfew hline hs hplain
theorem de_index (ho : DE X o to) (ha : DE X e te) (hs : starEach [e] X.env = (false, eval e X.env) :: starEach [] X.env := by rfl) (hbase : attributeBase o "index" X.env (eval o X.env) = eval o X.env := by rfl)
    (hfew : ((backTo cpos (starEach [e] X.env)).all (fun x => !x.1) && (backToKw cpos (keywordEach [] X.env)).all (fun x => x.1.isSome) && decide (([e] : List Expr).length + ([] : List Keyword).length + (if ([] : List Keyword).isEmpty then 0 else 1) < 30)) = true := by rfl)
    (hline : (apos.endLine == cpos.line) = true := by rfl) (hplain : (backTo cpos (starEach [] X.env)).any (·.1) = false := by rfl) :
    DE X (.Call (.Attribute o "index" apos) [e] [] cpos) (dLM dmIndex to (dCons te dNil)) := de_lm F.plainAttrs_list F.slot_list_index F.type_list_index mt_index lm_index ho (da_cons ha da_nil hs) hbase hfew hline hs hplain
end
end DS
namespace DS
open PySem PySem.Spec PyProof.Rows L2
section
variable {X : Cx} {e o i : Expr} {te td ty : DTE} {p apos cpos pos : Pos}
def dropD (kvs : List (Key × SD)) (k : Key) : List (Key × SD) := kvs.filter fun kv => decide (kv.1 ≠ k)
theorem drop_rep {K : PySem.W.Frag} {F : Hp} (k : Key) : ∀ {kvs : List (Key × SD)} {ws : List (Key × V)}, RepK K F kvs ws → RepK K F (dropD kvs k) (dropK ws k)
  | [], [], _ => ⟨rfl, .nil⟩
  | [], _ :: _, ⟨h, _⟩ => by cases h
  | _ :: _, [], ⟨h, _⟩ => by cases h
  | (q, d) :: kvs, (q', w) :: ws, ⟨h, .cons r rs⟩ => by
    simp only [List.map_cons, List.cons.injEq] at h
    obtain ⟨rfl, h⟩ := h
    obtain ⟨i1, i2⟩ := drop_rep k (⟨h, rs⟩ : RepK K F kvs ws)
    unfold dropD dropK at *
    by_cases e : q' = k
    · rw [List.filter_cons_of_neg (by simpa using e), List.filter_cons_of_neg (by simpa using e)]
      exact ⟨i1, i2⟩
    · rw [List.filter_cons_of_pos (by simpa using e), List.filter_cons_of_pos (by simpa using e)]
      exact ⟨by rw [List.map_cons, List.map_cons, i1], .cons r i2⟩
def drPop1 (x y : SD) (μ : Mu) (Q : SD → Mu → Prop) : Prop := match mdic μ x, keyD y with
  | some (a, kvs), some k => (match valD kvs k with
    | some v => Q v (up μ a (.dic (dropD kvs k)))
    | none => False)
  | _, _ => False
abbrev dDPop1 (td ty : DTE) : DTE := fun ρ μ Q => td ρ μ fun x μ1 => (dicD μ1 x).isSome = true ∧ ty ρ μ1 fun y μ2 => drPop1 x y μ2 Q
theorem de_dpop1 (ho : DE X o td) (he : DE X i ty) (m : M1 X o "pop" apos i cpos) : DE X (.Call (.Attribute o "pop" apos) [i] [] cpos) (dDPop1 td ty) := weakE (pe_dpop1 ho he m) fun σ H Q h => by
  obtain ⟨F, ρ, μ, Q', R, S, t, k⟩ := h
  refine ⟨F, ρ, μ, _, R, S, t, fun d μ1 t1 F1 H1 v s1 R1 r1 => ?_⟩
  obtain ⟨is, t1⟩ := t1
  obtain ⟨kvs, hk⟩ := Option.isSome_iff_exists.mp is
  obtain ⟨a, ws, rfl, h1, _⟩ := R1.dic r1 hk
  refine ⟨a, rfl, .inl ⟨ws, h1⟩, F1, ρ, μ1, _, R1, S.mono s1.ext, t1, fun y μ2 t2 F2 H2 u s2 R2 r2 => ?_⟩
  unfold drPop1 at t2
  cases e1 : mdic μ2 d with
  | none => rw [e1] at t2; exact t2.elim
  | some pr =>
    obtain ⟨b, kvs⟩ := pr
    cases e2 : keyD y with
    | none => rw [e1, e2] at t2; exact t2.elim
    | some q =>
      rw [e1, e2] at t2
      simp only at t2
      obtain ⟨eb, hm, ws, hb, rk⟩ := R2.mdic (r1.mono s2.ext) e1
      cases eb
      rcases rk.val q with ⟨d', v', g1, g2, g3⟩ | ⟨g1, g2⟩
      · rw [g1] at t2
        have rd := drop_rep q rk
        have s3 := Stp.put (F := F2) (H := H2) (o := .dK (dropK ws q)) (m := .dic (dropD kvs q)) hm
        exact ⟨ws, q, v', hb, keyD_rep r2 e2, g2, k _ _ t2 F2 _ _ ((s1.trans s2).trans s3) (R2.put hm (.dic rd.keys rd.vals)) g3⟩
      · rw [g1] at t2; exact t2.elim
end
def dAugI (g : Int → Int → Int) (i : Nat) (te : DTE) : DTS := fun D ρ μ => ∃ a, ρ[i]? = some (some (.int a)) ∧ te ρ μ fun y μ1 => match y with
  | .int b => D.nx (ρ.set i (some (.int (g a b)))) μ1
  | _ => False
section
variable {X : Cx} {x : Str} {e : Expr} {te : DTE} {i : Nat} {op : Operator} {g : Int → Int → Int} {pos pos' : Pos}
theorem ds_augI (hp : PIp X op (ipI g)) (hN : X.N.Nodup) (hi : X.N[i]? = some x) (hx : Loc X.env.scope x) (he : DE X e te) (hf : X.fn x = true ∨ X.env.scope.names.lookup x = some .local := by first | exact .inl rfl | exact .inr rfl | assumption) :
    DS_ X (.AugAssign (.Name x pos') op e pos) (dAugI g i te) := weakS (ps_aug hN hi hx he hp hf) fun D σ H h => by
  obtain ⟨F, ρ, μ, D', R, S, ⟨a, ea, t⟩, k, _⟩ := h
  obtain ⟨v, e1, r1⟩ := S.at_ _ _ ea
  cases r1
  refine ⟨.int a, e1, F, ρ, μ, _, R, S, t, fun d μ1 t1 F1 H1 w s1 R1 r1 => ?_⟩
  cases r1 with
  | int b => exact ⟨a, b, rfl, rfl, k _ μ1 t1 F1 H1 _ s1 R1 ((S.mono s1.ext).set i (.int _))⟩
  | _ => exact t1.elim
end
end DS
namespace DS
open PySem PySem.Spec PyProof.Rows L2
def EsAre : List DictEntry → List (Str × Int) → Prop
  | [], [] => True
  | e :: r, (k, i) :: s => (∃ t, e.key = .str k t) ∧ (∃ t, e.val = .int i t) ∧ EsAre r s
  | _, _ => False
structure GDic (K : PySem.W.Frag) (wp : Params) (mg : Str → Option Value) (x : Str) (kvs : List (Str × Int)) where
  a : Addr
  m : mg x = some (.ref a)
  low : (a == sysModules) = false
  ex : ∃ es n, K.lookup a = some ⟨.type "dict", none, .dict es n, #[]⟩ ∧ PySem.W.KeysLit wp es.toList ∧ EsAre es.toList kvs
theorem es_find {z : Str} : ∀ {l : List DictEntry} {kvs : List (Str × Int)}, EsAre l kvs → (∀ i, kvs.lookup z = some i → ∃ e t, l.find? (·.key.isStr z) = some e ∧ e.val = .int i t) ∧ (kvs.lookup z = none → l.find? (·.key.isStr z) = none) ∧ l.any (·.refKey) = false
  | [], [], _ => ⟨(fun i h => by cases h), (fun _ => rfl), rfl⟩
  | [], _ :: _, h => h.elim
  | _ :: _, [], h => h.elim
  | e :: r, (k, i) :: s, h => by
    obtain ⟨⟨t, hk⟩, ⟨u, hv⟩, hr⟩ := h
    obtain ⟨i1, i2, i3⟩ := es_find (z := z) hr
    have key : e.key.isStr z = (z == k) := by
      rw [hk]
      show (k == z) = (z == k)
      exact Bool.eq_iff_iff.mpr ⟨fun q => beq_iff_eq.mpr (beq_iff_eq.mp q).symm, fun q => beq_iff_eq.mpr (beq_iff_eq.mp q).symm⟩
    have nr : e.refKey = false := by
      unfold DictEntry.refKey
      rw [hk]
    refine ⟨fun j hj => ?_, fun hn => ?_, by rw [List.any_cons, nr, i3]; rfl⟩
    · rw [List.lookup_cons] at hj
      rw [List.find?_cons, key]
      cases q : (z == k) with
      | true =>
        rw [q] at hj
        cases hj
        exact ⟨e, u, rfl, hv⟩
      | false =>
        rw [q] at hj
        exact i1 j hj
    · rw [List.lookup_cons] at hn
      rw [List.find?_cons, key]
      cases q : (z == k) with
      | true => rw [q] at hn; cases hn
      | false =>
        rw [q] at hn
        exact i2 hn
section
variable {K : PySem.W.Frag} {wp : Params} {mg : Str → Option Value} {x : Str} {kvs : List (Str × Int)}
theorem GDic.at_ (D : GDic K wp mg x kvs) (z : Str) : (∀ i, kvs.lookup z = some i → ∃ t, PySem.W.nsIn K D.a z = some (some (.int i t))) ∧ (kvs.lookup z = none → PySem.W.nsIn K D.a z = some none) := by
  obtain ⟨es, n, lk, _, ok⟩ := D.ex
  obtain ⟨i1, i2, i3⟩ := es_find (z := z) ok
  refine ⟨fun i h => ?_, fun h => ?_⟩
  · obtain ⟨e, t, e1, e2⟩ := i1 i h
    refine ⟨t, ?_⟩
    unfold PySem.W.nsIn
    rw [lk]
    simp only
    rw [e1]
    simp only
    rw [e2]
  · unfold PySem.W.nsIn
    rw [lk]
    simp only
    rw [i2 h]
    simp only
    rw [i3]
    rfl
end
/-- e in D -/
def gQ (neg : Bool) (kvs : List (Str × Int)) (Q : SD → Mu → Prop) : SD → Mu → Prop := fun d μ => match d with
  | .str z => Q (.bl (neg != (kvs.lookup z).isSome)) μ
  | _ => False
abbrev dGIn (neg : Bool) (kvs : List (Str × Int)) (te : DTE) : DTE := fun ρ μ Q => te ρ μ (gQ neg kvs Q)
/-- D[e] -/
def gIxQ (kvs : List (Str × Int)) (Q : SD → Mu → Prop) : SD → Mu → Prop := fun d μ => match d with
  | .str z => (match kvs.lookup z with
    | some i => Q (.int i) μ
    | none => False)
  | _ => False
abbrev dGIx (kvs : List (Str × Int)) (te : DTE) : DTE := fun ρ μ Q => te ρ μ (gIxQ kvs Q)
def tGIn (neg : Bool) (kvs : List (Str × Int)) (te : TE) : TE := fun σ H Q => te σ H fun x H1 => ∃ z, x = .str z ∧ Q (.bl (neg != (kvs.lookup z).isSome)) H1
section
variable {X : Cx} {x : Str} {kvs : List (Str × Int)} {e : Expr} {te : TE} {td : DTE} {p pos : Pos}
theorem GDic.hit (D : GDic X.K X.w.params X.mg x kvs) (z : Str) : ∃ r : Option Value, PySem.W.nsIn X.K D.a z = some r ∧ r.isSome = (kvs.lookup z).isSome := by
  obtain ⟨h1, h2⟩ := D.at_ z
  cases e : kvs.lookup z with
  | none => exact ⟨none, h2 e, rfl⟩
  | some i =>
    obtain ⟨t, q⟩ := h1 i e
    exact ⟨_, q, rfl⟩
theorem pc_gNotIn (D : GDic X.K X.w.params X.mg x kvs) (hg : Gl X x) (he : PE X e te) (hdb : (x == ("__debug__" : Str)) = false := by decide) : PC X .NotIn e (.Name x p) (tGIn true kvs te) := by
  refine ⟨fun pins s σ H Q I h => thn (he.run pins s σ H _ I h) fun iv s1 ⟨y, H1, I1, ry, z, ez, q1⟩ => ld_glob I1 hg D.m ?_ hdb⟩
  subst ez
  obtain ⟨t, rfl⟩ := (show ∃ t, iv = Value.str z t from ry)
  obtain ⟨es, n, lk, lit, _⟩ := D.ex
  obtain ⟨r, hr, hs⟩ := D.hit z
  refine wpAny_notIn_of (PySem.strKind_is X.prog X.w z t) D.low (PySem.W.mapOf_K (prog := X.prog) (w := X.w) I1.kIn lk lit) ?_
  rw [PySem.W.find_K lk hr, hs]
  refine ⟨.bl (!(kvs.lookup z).isSome), H1, I1.tok _, rfl, ?_⟩
  rw [Bool.true_bne] at q1
  exact q1
theorem gin_lift {neg : Bool} (σ : L2.St) (H : Hp) (R : Bool → Hp → Prop) (h : LT X.K (dTest (dGIn neg kvs td)) σ H R) : tGIn neg kvs (LE X.K td) σ H (fun x H' => ∃ b, x = V.bl b ∧ R b H') := by
  obtain ⟨F, ρ, μ, Q', R0, S, t, k⟩ := h
  refine ⟨F, ρ, μ, _, R0, S, t, fun d μ1 t1 F1 H1 v s1 R1 r1 => ?_⟩
  unfold gQ at t1
  cases r1 with
  | str z => exact ⟨z, rfl, _, rfl, k _ μ1 t1 F1 H1 s1 R1⟩
  | _ => exact t1.elim
theorem dt_gNotIn (D : GDic X.K X.w.params X.mg x kvs) (he : DE X e td) (hg : Gl X x := by rfl) (hm : behindInMarks .NotIn (.Name x p) = false := by with_unfolding_all rfl) (hdb : (x == ("__debug__" : Str)) = false := by decide) : DT X (.Compare e [.NotIn] [.Name x p] pos) (dTest (dGIn true kvs td)) :=
  weakT (pt_cmp (pc_gNotIn D hg he hdb) hm) gin_lift
/-- D[e] -/
theorem de_gIx (D : GDic X.K X.w.params X.mg x kvs) (he : DE X e td) (hs : PlainIx e) (hg : Gl X x := by rfl) (hdb : (x == ("__debug__" : Str)) = false := by decide) : DE X (.Subscript (.Name x p) e pos) (dGIx kvs td) :=
  weakE (pe_ix ix_kdict (pe_glob hg D.m (show RelV (.ref D.a) (.ref D.a) from rfl) hdb) he hs) fun σ H Q h => by
    obtain ⟨F, ρ, μ, Q', R0, S, t, k⟩ := h
    refine ⟨F, ρ, μ, _, R0, S, t, fun d μ1 t1 F1 H1 v s1 R1 r1 => ?_⟩
    unfold gIxQ at t1
    cases r1 with
    | str z =>
      simp only at t1
      cases e1 : kvs.lookup z with
      | none => rw [e1] at t1; exact t1.elim
      | some i =>
        rw [e1] at t1
        obtain ⟨es, n, lk, lit, _⟩ := D.ex
        obtain ⟨u, q⟩ := (D.at_ z).1 i e1
        exact ⟨D.a, z, .int i, rfl, rfl, ⟨es, n, _, lk, lit, q, ⟨u, rfl⟩⟩, k _ μ1 t1 F1 H1 _ s1 R1 (.int i)⟩
    | _ => exact t1.elim
end
end DS
namespace DS
open PySem PySem.Spec PyProof.Rows L2
def tUnlE (H0 : Hp) (t : TE) : TE := fun σ H Q => t σ H fun v => Unl H0 (Q v)
theorem pe_unlE {X : Cx} {e : Expr} {t : TE} (h : PE X e t) : PE X e (tUnlE X.H_0 t) := ⟨fun pins s σ H Q I q => thn (h.run pins s σ H _ I q) fun u s1 ⟨v, H1, I1, r, q1⟩ => by
  rcases q1 with q1 | ⟨d, od, w, h1, h2, q1⟩
  · exact ⟨v, H1, I1, r, q1⟩
  · exact ⟨v, _, I1.unlock h1 h2, r, q1⟩⟩
end DS
namespace DS
open PySem PySem.Spec PyProof.Rows L2
abbrev DcB (ds : List SD) (ok : Mu → Prop) (g : DTG) (tt : DTT) (tk tv : DTE) (vs : List Nat) (ρ : Rho) (μ1 : Mu) (Q : List (Key × SD) → Mu → Prop) : Prop := ds.length ≤ sizeLine ∧ ∃ W : Nat → List (Key × SD) → Mu → Prop, W 0 [] μ1 ∧
  (∀ i acc μ, i ≤ ds.length → W i acc μ → ok μ) ∧ (∀ i d acc μ, ds[i]? = some d → W i acc μ → g d (wipeR ρ vs) μ fun ρ2 μ2 => tt ρ2 μ2 fun b μ3 => if b = true then tk ρ2 μ3 fun y μ4 => tv ρ2 μ4 fun z μ5 => ∃ k, keyD y = some k ∧ W (i + 1) (putD acc k z) μ5 else W (i + 1) acc μ3) ∧
  ∀ acc μ, W ds.length acc μ → Q acc μ
theorem put_len {acc : List (Key × SD)} {k : Key} {z : SD} : (putD acc k z).length ≤ acc.length + 1 := by
  unfold putD
  split
  · rw [List.length_map]
    exact Nat.le_succ _
  · rw [List.length_append]
    exact Nat.le_refl _
theorem dc_in {K : PySem.W.Frag} {g : TG} {dg : DTG} {tt : DTT} {tk tv : DTE} {vs : List Nat} (og : OwnG K g dg vs) {σ : L2.St} {H1 F1 : Hp} {ρ : Rho} {μ1 : Mu} {Q : VK} {Q' : List (Key × SD) → Mu → Prop} {J : It} {ds : List SD} {ok : Mu → Prop} (R1 : HReal K F1 H1 μ1) (S : Slots K F1 σ ρ) (src : Src K F1 H1 μ1 J ds ok)
    (t1 : DcB ds ok dg tt tk tv vs ρ μ1 Q')
    (k : ∀ acc μ', Q' acc μ' → ∀ F' H' p ws, Stp F1 H1 μ1 F' H' μ' → HReal K F' H' μ' → F' p = none → μ' p = none → H' p = some (.dK ws) → RepK K F' acc ws → H1 p = none → Q (.ref p) H') (D : Addr) (hD : H1 D = none) : ∃ W : Nat → Nat → Hp → Prop, (∃ m, W 0 m (upd H1 D (.dK []))) ∧ ∀ i m H, W i m H →
  (J.stop i H ∧ Q (.ref D) H) ∨ (J.go i H ∧ ∃ Nx : Hp → Prop, (∀ H', Nx H' → ∃ m', m' < m ∧ W (i + 1) m' H') ∧ ∀ x H', J.yld i H x H' → g x (wipe σ vs) H' fun σ2 H2 => wipe σ2 vs = wipe σ vs ∧ LT K tt σ2 H2 fun b H3 =>
    if b = true then LE K tk σ2 H3 fun y H4 => LE K tv σ2 H4 fun z H5 => ∃ kvs k, y = kV k ∧ H5 D = some (.dK kvs) ∧ kvs.length < sizeLine ∧ Nx (upd H5 D (.dK (putK kvs k z))) else Nx H3) := by
  obtain ⟨hlen, W, w0, hok, turn, fin⟩ := t1
  have hDF := R1.freeF hD
  have hDM := R1.freeM hD
  refine ⟨fun i m H' => i + m = ds.length ∧ ∃ F μ acc ws, Stp F1 H1 μ1 F H' μ ∧ HReal K F H' μ ∧ F D = none ∧ μ D = none ∧ H' D = some (.dK ws) ∧ RepK K F acc ws ∧ acc.length ≤ i ∧ W i acc μ, ⟨ds.length, by omega, F1, μ1, [], [], ?_, R1.aside hDF hDM, hDF, hDM, upd_same, ⟨rfl, .nil⟩, Nat.le_refl _, w0⟩, ?_⟩
  · exact ⟨Ext.refl _, fun a h1 h2 h3 => ⟨upd_ne (fun z => by subst z; exact h1 hD), h2, h3⟩⟩
  rintro i m H' ⟨him, F2, μ2, acc, ws, s2, R2, f2, m2, hH2, r2, hacc, w2⟩
  have hle : i ≤ ds.length := by omega
  by_cases hi : i < ds.length
  · refine .inr ⟨src.go i F2 H' μ2 s2 R2 (hok i acc μ2 hle w2) hi, fun H3 => ∃ F μ acc ws, Stp F1 H1 μ1 F H3 μ ∧ HReal K F H3 μ ∧ F D = none ∧ μ D = none ∧ H3 D = some (.dK ws) ∧ RepK K F acc ws ∧ acc.length ≤ i + 1 ∧ W (i + 1) acc μ, ?_, ?_⟩
    · rintro H3 ⟨F3, μ3, acc3, ws3, z⟩
      exact ⟨ds.length - (i + 1), by omega, by omega, F3, μ3, acc3, ws3, z⟩
    · intro x H3 y
      obtain ⟨F3, s3, R3, r3⟩ := src.yld i F2 H' μ2 x H3 s2 R2 (hok i acc μ2 hle w2) y _ (List.getElem?_eq_getElem hi)
      obtain ⟨e3, f3, m3⟩ := s3.fr D (by rw [hH2]; exact fun z => nomatch z) f2 m2
      have S3 : Slots K F3 (wipe σ vs) (wipeR ρ vs) := ((S.mono s2.ext).mono s3.ext).wipe vs
      refine og.lift x _ H3 _ F3 _ μ2 _ _ R3 S3 r3 (turn i _ acc μ2 (List.getElem?_eq_getElem hi) w2) fun ρ4 μ4 t4 F4 H4 σ4 s4 R4 S4 e4 => ⟨e4.trans ?_, ?_⟩
      · have idem : ∀ (τ : L2.St) (us : List Nat), (∀ i ∈ us, τ[i]? = none ∨ τ[i]? = some none) → wipe τ us = τ := by
          intro τ us
          induction us with
          | nil => intro _; rfl
          | cons a r ih =>
            intro hz
            show (wipe τ r).set a none = τ
            rw [ih fun i hi => hz i (List.mem_cons_of_mem _ hi)]
            rcases hz a List.mem_cons_self with q | q
            · exact List.set_eq_of_length_le (List.getElem?_eq_none_iff.mp q)
            · apply List.ext_getElem?
              intro j
              by_cases hj : j = a
              · subst hj
                obtain ⟨hl, _⟩ := List.getElem?_eq_some_iff.mp q
                rw [List.getElem?_set_self hl, q]
              · rw [List.getElem?_set_ne (Ne.symm hj)]
        refine idem _ _ fun i hi => ?_
        have done : ∀ (us : List Nat), i ∈ us → (wipe σ us)[i]? = none ∨ (wipe σ us)[i]? = some none := by
          intro us
          induction us with
          | nil => intro h; cases h
          | cons a r ih =>
            intro h
            show ((wipe σ r).set a none)[i]? = none ∨ ((wipe σ r).set a none)[i]? = some none
            by_cases e : a = i
            · subst e
              by_cases hl : a < (wipe σ r).length
              · exact .inr (List.getElem?_set_self hl)
              · exact .inl (List.getElem?_eq_none (by simpa using Nat.le_of_not_lt hl))
            · rw [List.getElem?_set_ne e]
              exact ih ((List.mem_cons.mp h).resolve_left (fun z => e z.symm))
        exact done vs hi
      · obtain ⟨e5, f5, m5⟩ := s4.fr D (by rw [e3, hH2]; exact fun z => nomatch z) f3 m3
        refine ⟨F4, ρ4, μ4, _, R4, S4, t4, fun b μ6 t6 F6 H6 s6 R6 => ?_⟩
        obtain ⟨e7, f7, m7⟩ := s6.fr D (by rw [e5, e3, hH2]; exact fun z => nomatch z) f5 m5
        have at6 : H6 D = some (.dK ws) := by rw [e7, e5, e3, hH2]
        have st6 := ((s2.trans s3).trans s4).trans s6
        have ext6 : Ext F2 F6 := (s3.ext.trans s4.ext).trans s6.ext
        cases b with
        | false => exact ⟨F6, μ6, acc, ws, st6, R6, f7, m7, at6, ⟨r2.keys, r2.vals.mono ext6⟩, Nat.le_succ_of_le hacc, t6⟩
        | true =>
          refine ⟨F6, ρ4, μ6, _, R6, S4.mono s6.ext, t6, fun y μ8 t8 F8 H8 v s8 R8 r8 => ?_⟩
          obtain ⟨e9, f9, m9⟩ := s8.fr D (by rw [at6]; exact fun z => nomatch z) f7 m7
          refine ⟨F8, ρ4, μ8, _, R8, (S4.mono s6.ext).mono s8.ext, t8, fun z μ10 t10 FA HA w sA RA rA => ?_⟩
          obtain ⟨kk, ek, t10⟩ := t10
          obtain ⟨eB, fB, mB⟩ := sA.fr D (by rw [e9, at6]; exact fun z => nomatch z) f9 m9
          have at8 : HA D = some (.dK ws) := eB.trans (e9.trans at6)
          have ra : RepK K FA acc ws := ⟨r2.keys, r2.vals.mono ((ext6.trans s8.ext).trans sA.ext)⟩
          have st8 := (st6.trans s8).trans sA
          have len := ra.len
          refine ⟨ws, kk, keyD_rep r8 ek, at8, by omega, FA, μ10, putD acc kk z, putK ws kk w, ?_, RA.aside fB mB, fB, mB, upd_same, ra.put kk rA, ?_, t10⟩
          · refine ⟨st8.ext, fun a h1 h2 h3 => ?_⟩
            have ha : a ≠ D := fun z => by subst z; exact h1 hD
            obtain ⟨q1, q2, q3⟩ := st8.fr a h1 h2 h3
            exact ⟨(upd_ne ha).trans q1, q2, q3⟩
          · have := put_len (acc := acc) (k := kk) (z := z)
            omega
  · have e : i = ds.length := by omega
    subst e
    refine .inl ⟨src.stop F2 H' μ2 s2 R2 (hok _ acc μ2 hle w2), ?_⟩
    exact k acc μ2 (fin acc μ2 w2) F2 H' D ws s2 R2 f2 m2 hH2 r2 hD
/-- a dict comprehension over a dict: a new dict, which may change -/
def dDcD (items : List (Key × SD) → List SD) (te : DTE) (g : DTG) (tt : DTT) (tk tv : DTE) (vs : List Nat) : DTE := fun ρ μ Q => te ρ μ fun d μ1 => match d with
  | .dic kvs => DcB (items kvs) (fun _ => True) g tt tk tv vs ρ μ1 fun acc μ' => ∀ p, μ' p = none → Q (.ref p) (up μ' p (.dic acc))
  | .ref a => (match μ1 a with
    | some (.dic kvs) => ∀ o, DcB (items kvs) (fun μ => μ a = some (.fdic kvs o)) g tt tk tv vs ρ (up μ1 a (.fdic kvs o)) fun acc μ' => ∀ p, μ' p = none → Q (.ref p) (up (up μ' p (.dic acc)) a (.dic kvs))
    | _ => False)
  | _ => False
section
variable {K : PySem.W.Frag} {items : List (Key × SD) → List SD} {mk : Addr → Obj → List (Key × V) → It} {g : TG} {dg : DTG} {tt : DTT} {td tk tv : DTE} {vs : List Nat} {H_0 : Hp} {P : V → Hp → (It → Hp → Prop) → Prop}
theorem own_dict {F1 H1 F' H' : Hp} {μ1 μ' : Mu} {p : Addr} {ws : List (Key × V)} {acc : List (Key × SD)} (s : Stp F1 H1 μ1 F' H' μ') (R : HReal K F' H' μ') (f : F' p = none) (hp : H' p = some (.dK ws)) (r : RepK K F' acc ws) (n : H1 p = none) :
    Stp F1 H1 μ1 F' H' (up μ' p (.dic acc)) ∧ HReal K F' H' (up μ' p (.dic acc)) := by
  refine ⟨⟨s.ext, fun a h1 h2 h3 => ?_⟩, R.adoptM f hp (.dic r.keys r.vals)⟩
  obtain ⟨q1, q2, q3⟩ := s.fr a h1 h2 h3
  exact ⟨q1, q2, by rw [up_ne (fun z => by subst z; exact h1 n)]; exact q3⟩
theorem lift_dcD (og : OwnG K g dg vs) (hP : ∀ d o kvs H R, H d = some (.frz o (.dK kvs)) → R (mk d o kvs) H → P (.ref d) H R)
    (srcM : ∀ {F0 H0 : Hp} {μ0 : Mu} {a : Addr} {od : Obj} {kvs : List (Key × SD)} {vs : List (Key × V)}, RepK K F0 kvs vs → Src K F0 H0 μ0 (mk a od vs) (items kvs) fun μ => μ a = some (.fdic kvs (.frz od (.dK vs))))
    (srcF : ∀ {F0 H0 : Hp} {μ0 : Mu} {a : Addr} {od : Obj} {kvs : List (Key × SD)} {vs : List (Key × V)}, RepK K F0 kvs vs → F0 a = some (.frz od (.dK vs)) → Src K F0 H0 μ0 (mk a od vs) (items kvs) fun _ => True) :
    ∀ σ H Q, LE K (dDcD items td dg tt tk tv vs) σ H Q → tUnlE H_0 (tDc (fun σ H R => tLockA H_0 (LE K td) σ H fun x H1 => P x H1 R) g (LT K tt) (LE K tk) (LE K tv) vs) σ H Q := fun σ H Q h => by
  obtain ⟨F0, ρ0, μ0, Q', R0, S0, t, k⟩ := h
  refine ⟨F0, ρ0, μ0, _, R0, S0, t, fun d μ1 t1 F1 H1 v s1 R1 r1 => ?_⟩
  cases r1 with
  | dic hd hk hv =>
    rename_i a ds ws
    have rk : RepK K F1 ds ws := ⟨hk, hv⟩
    refine ⟨a, ws, rfl, ?_⟩
    rcases hd with hd | ⟨od, hd⟩
    · refine .inl ⟨R1.sub _ _ hd, fun od h0 => ?_⟩
      obtain ⟨R2, s2⟩ := R1.lockD (od := od) hd
      refine hP a od ws _ _ upd_same ?_
      refine fun D hD => dc_in (Q := fun v => Unl H_0 (Q v)) og R2 ((S0.mono s1.ext).mono s2.ext) (srcF (od := od) ⟨rk.keys, rk.vals.mono s2.ext⟩ upd_same) t1 (fun acc μ' q F' H' p us s R f m hp r n => ?_) D hD
      obtain ⟨s3, R3⟩ := own_dict s R f hp r n
      have hF : F' a = some (.frz od (.dK ws)) := s3.ext.fz a _ _ upd_same
      exact .inr ⟨a, od, _, R3.sub _ _ hF, h0, k _ _ (q p m) _ _ _ (s1.trans (Stp.unlockD hd s3)) (R3.unlockD hF) (.ref _)⟩
    · refine .inr ⟨od, R1.sub _ _ hd, ?_⟩
      refine hP a od ws _ _ (R1.sub _ _ hd) ?_
      refine fun D hD => dc_in (Q := fun v => Unl H_0 (Q v)) og R1 (S0.mono s1.ext) (srcF (od := od) rk hd) t1 (fun acc μ' q F' H' p us s R f m hp r n => ?_) D hD
      obtain ⟨s3, R3⟩ := own_dict s R f hp r n
      exact .inl (k _ _ (q p m) _ _ _ (s1.trans s3) R3 (.ref _))
  | ref a =>
    simp only at t1
    split at t1
    · rename_i kvs hm
      obtain ⟨hF, o, hH, ro⟩ := R1.mus a _ hm
      cases ro with
      | dic q r =>
        rename_i ws
        refine ⟨a, ws, rfl, .inl ⟨hH, fun od h0 => ?_⟩⟩
        have rk : RepK K F1 kvs ws := ⟨q, r⟩
        have R2 : HReal K F1 (upd H1 a (.frz od (.dK ws))) (up μ1 a (.fdic kvs (.frz od (.dK ws)))) := R1.put hm (.fdic q r)
        have s2 : Stp F1 H1 μ1 F1 (upd H1 a (.frz od (.dK ws))) (up μ1 a (.fdic kvs (.frz od (.dK ws)))) := Stp.put hm
        refine hP a od ws _ _ upd_same ?_
        obtain ⟨hl, W, w0, hok, turn, fin⟩ := t1 (.frz od (.dK ws))
        refine fun D hD => dc_in (Q := fun v => Unl H_0 (Q v)) (Q' := fun acc μ => μ a = some (.fdic kvs (.frz od (.dK ws))) ∧ ∀ p, μ p = none → Q' (.ref p) (up (up μ p (.dic acc)) a (.dic kvs))) og R2 ((S0.mono s1.ext).mono s2.ext) (srcM (od := od) rk)
          ⟨hl, W, w0, hok, turn, fun acc μ w => ⟨hok _ acc μ (Nat.le_refl _) w, fin acc μ w⟩⟩ (fun acc μ' qq F' H' p us s R f m hp r n => ?_) D hD
        obtain ⟨e, qq⟩ := qq
        obtain ⟨s3, R3⟩ := own_dict s R f hp r n
        have ne : a ≠ p := mu_ne e m
        have e3 : up μ' p (.dic acc) a = some (.fdic kvs (.frz od (.dK ws))) := by rw [up_ne ne]; exact e
        obtain ⟨h1, ob, vs', e2, rk'⟩ := fdic_at R3 e3
        cases e2
        exact .inr ⟨a, od, _, h1, h0, k _ _ (qq p m) _ _ _ (((s1.trans s2).trans s3).trans (Stp.put e3)) (R3.put e3 (.dic rk'.keys rk'.vals)) (.ref _)⟩
    · exact t1.elim
  | _ => exact t1.elim
end
section
variable {X : Cx} {pos tpos apos cpos : Pos} {e o kx vx : Expr} {elts ifs : List Expr} {kk : Nat} {scope : Scope} {own : List (Str × Nat)} {g : TG} {dg : DTG} {tt : DTT} {td tk tv to : DTE}
theorem de_dcItems (hc : X.calm = true) (hN : X.N.Nodup) (ok : BlkOk X.N X.env.scope scope own) (og : OwnG X.K g dg (own.map (·.2))) (hd : DE X e td)
    (hg : ∀ (s : Shared) (H : Hp) (C : Addr) (cl : List (Str × Addr)) (fp : List Addr), PG (X.blk s H scope (compEnvC scope cl C X.env) fp) (.Tuple elts kk tpos) g)
    (ht : ∀ (s : Shared) (H : Hp) (C : Addr) (cl : List (Str × Addr)) (fp : List Addr), DTs (X.blk s H scope (compEnvC scope cl C X.env) fp) ifs tt)
    (hk : ∀ (s : Shared) (H : Hp) (C : Addr) (cl : List (Str × Addr)) (fp : List Addr), DE (X.blk s H scope (compEnvC scope cl C X.env) fp) kx tk)
    (he : ∀ (s : Shared) (H : Hp) (C : Addr) (cl : List (Str × Addr)) (fp : List Addr), DE (X.blk s H scope (compEnvC scope cl C X.env) fp) vx tv)
    (hbase : attributeBase e "items" X.env (eval e X.env) = eval e X.env := by rfl) (hline : (apos.endLine == cpos.line) = true := by rfl)
    (hs : ∀ x, foldedSetIterable (.Call (.Attribute e "items" apos) [] [] cpos) X.env x = pure x := by intro _; rfl) :
    DE X (.DictComp kx vx [⟨.Tuple elts kk tpos, .Call (.Attribute e "items" apos) [] [] cpos, ifs, 0⟩] scope pos) (dDcD itemsS td dg tt tk tv (own.map (·.2))) :=
  weakE (pe_unlE (pe_dc hc hN (pi_items (pe_lockA hd) hbase hline) ok hg ht hk he hs)) (lift_dcD (mk := Iti) og (fun d o kvs H R h r => ⟨d, o, kvs, rfl, h, r⟩) (fun rk => src_itemsM rk) fun rk h => src_items2 rk h)
abbrev dMeth0 (x m : Str) (sp : DSp) (to : DTE) : DTE := fun ρ μ Q => to ρ μ (mQ x m fun d μ1 => sp [d] μ1 Q fun _ _ _ => False)
variable {x m qual : Str} {st : Stmt} {ps : List Str} {k n : Nat} {sp : DSp}
theorem de_meth0 {D : OCls X.K X.mg x} {M : MDef D m qual st ps} (G : FnM X.prog X.w X.base M k sp) (hq : Quiet X.A) (hr : Room n X.A) (he : DE X o to) (hk : k ≤ n := by omega) {pl : Sem Bool}
    (ht : eval (.Call (.Attribute o m apos) [] [] pos) X.env = (do
      let ov ← eval o X.env
      standAt apos.atName
      let (f, first) ← holding [ov] (getMethod ov m pl)
      callWith pos f first (backTo pos (starEach [] X.env)) (backToKw pos (keywordEach [] X.env))) := by rfl) : DE X (.Call (.Attribute o m apos) [] [] pos) (dMeth0 x m sp to) := by
  refine ⟨fun pins s σ H Q I h => ?_⟩
  obtain ⟨F, ρ, μ, Q', R, S, t0, kk⟩ := h
  refine PySem.W.methodCall_KW (pl := pl) (thn (he.run pins s σ H (fun v H1 => ∃ a d F1 μ1, v = .ref a ∧ RepS X.K F1 d v ∧ Stp F H μ F1 H1 μ1 ∧ HReal X.K F1 H1 μ1 ∧ (∃ dx vs, H1 a = some (.ins D.C dx vs) ∧ vs.lookup m = none) ∧ sp [d] μ1 Q' fun _ _ _ => False) I ⟨F, ρ, μ, _, R, S, t0, fun d μ1 t1 F1 H1 v s1 R1 r1 => ?_⟩) fun u s1 z => ?_) ht
  · unfold mQ at t1
    cases r1 with
    | ref a =>
      simp only at t1
      split at t1
      · rename_i z fs e1
        obtain ⟨rfl, hl, t1⟩ := t1
        obtain ⟨dx, vs, h1, h2, h3⟩ := R1.obj D e1
        exact ⟨a, _, F1, μ1, rfl, .ref a, s1, R1, ⟨dx, vs, h1, look_none h2 hl⟩, t1⟩
      · exact t1.elim
    | _ => exact t1.elim
  · obtain ⟨v, H1, I1, rx, a, d, F1, μ1, rfl, rd, sa, R1, ⟨dx, vs, h1, h2⟩, t1⟩ := z
    obtain rfl : u = Value.ref a := rx
    refine getmeth_ok I1 h1 D.k.c M.me h2 ?_
    refine PySem.W.callWith_K0 (first := [.ref a]) I1.kIn M.me.kp ?_
    refine call_g (us := [.ref a]) (vs := [.ref a]) (dvs := []) (ds := []) (E := E0) G hq (hr.mono hk) M.b .nil pass0 I1 (.cons rfl .nil) ?_
    rw [List.append_nil]
    exact ⟨F1, μ1, [d], Q', _, R1, .cons rd .nil, t1, fun d' μ' q F' H' v s' R' r' => kk d' μ' q F' H' v (sa.trans s') R' r', fun _ _ _ q => q.elim⟩
end
abbrev dDGet1 (td ty : DTE) : DTE := fun ρ μ Q => td ρ μ fun x μ1 => (dicD μ1 x).isSome = true ∧ ty ρ μ1 fun y μ2 => drGet2 x y .non μ2 Q
section
variable {X : Cx} {o i : Expr} {td ty : DTE} {apos cpos : Pos}
theorem de_dget1 (hu : X.A.units + 1 < cLine) (ho : DE X o td) (he : DE X i ty) (m : M1 X o "get" apos i cpos) : DE X (.Call (.Attribute o "get" apos) [i] [] cpos) (dDGet1 td ty) := weakE (pe_dget1 hu ho he m) fun σ H Q h => by
  obtain ⟨F, ρ, μ, Q', R, S, t, k⟩ := h
  refine ⟨F, ρ, μ, _, R, S, t, fun x μ1 t1 F1 H1 v1 s1 R1 r1 => ?_⟩
  obtain ⟨h1, t1⟩ := t1
  obtain ⟨kvs0, hk0⟩ := Option.isSome_iff_exists.mp h1
  obtain ⟨a, vs0, rfl, hd0, _⟩ := R1.dic r1 hk0
  refine ⟨a, rfl, .inl ⟨vs0, hd0⟩, F1, ρ, μ1, _, R1, S.mono s1.ext, t1, fun y μ2 t2 F2 H2 v2 s2 R2 r2 => ?_⟩
  unfold drGet2 at t2
  cases e1 : dicD μ2 x with
  | none => rw [e1] at t2; exact False.elim t2
  | some kvs => cases e2 : keyD y with
    | none => rw [e1, e2] at t2; exact False.elim t2
    | some key =>
      rw [e1, e2] at t2
      simp only at t2
      obtain ⟨a', vs, e3, hd, rk⟩ := R2.dic (r1.mono s2.ext) e1
      cases e3
      rcases rk.val key with ⟨d, v, q1, q2, q3⟩ | ⟨q1, q2⟩
      · rw [q1] at t2
        exact ⟨some v, .inl ⟨vs, key, hd, keyD_rep r2 e2, q2.symm⟩, k d μ2 t2 F2 H2 v (s1.trans s2) R2 q3⟩
      · rw [q1] at t2
        exact ⟨none, .inl ⟨vs, key, hd, keyD_rep r2 e2, q2.symm⟩, k .non μ2 t2 F2 H2 _ (s1.trans s2) R2 .non⟩
end
end DS
namespace DS
end DS
namespace DS
end DS
namespace DS
end DS
namespace DS
open PySem PySem.Spec PyProof.Rows L2
/-- the cell that iterates (the second of two new ones) -/
def enCell (b : Addr) : Obj := { cls := .type "enumerate", data := .fields #[.none, .bool false, .ref b, rawInt 0, .none, .none] }
theorem meets_enum1 {v : Value} {ob : Obj} {H : Heap → Prop} (B : Begins v ob H) :
    Meets (Builtin.«enumerate.__new__» ⟨[.type "enumerate", v], []⟩) (fun _ R s => H s.heap ∧ R (.ok (.ret (.ref (s.heap.push ob).objs.size))) { s with heap := (s.heap.push ob).push (enCell s.heap.objs.size) }) :=
  .of_wp fun prog w A R s hs => by
    obtain ⟨hp, gs, dr, tk, os⟩ := s
    obtain ⟨st, go⟩ := hs
    have isE := sub_enumerate
    have begin1 : ∀ {A' : Around} {E : Value → Shared → Prop} {Q : Value → Shared → Prop}, Q (.ref hp.objs.size) ⟨hp.push ob, gs, dr, tk, os⟩ → wpAny (model prog w) A' (pyIter v) Q E ⟨hp, gs, dr, tk, os⟩ :=
      fun q => B.iter prog w _ _ ⟨hp, gs, dr, tk, os⟩ _ st q
    wp_walk using begin1
    refine wpAny_stack_any fun _ => wpAny_pure ?_
    split
    · rename_i cl _ _ _ _ _
      cases (cl == Value.type "enumerate") <;> (wp_walk using begin1; exact ⟨_, rfl, go⟩)
    · wp_walk using begin1
      exact ⟨_, rfl, go⟩
section
variable {prog : Program} {w : World} {A : Around} {E : Value → Shared → Prop} {s : Shared}
theorem call_enum1 {v : Value} {ob : Obj} {H : Heap → Prop} {Q : Value → Shared → Prop} (B : Begins v ob H) (h1 : H s.heap)
    (k : ∀ h', IsEnum h' (s.heap.objs.size + 1) s.heap.objs.size 0 .none → h'.get? s.heap.objs.size = some ob → h'.objs.size = s.heap.objs.size + 2 → (∀ b o, s.heap.get? b = some o → h'.get? b = some o) → Q (.ref (s.heap.objs.size + 1)) { s with heap := h' }) :
    wpAny (model prog w) A (call (.type "enumerate") [v]) Q E s := by
  refine callType_new F.called_enumerate (by decide) (F.typeCall_enumerate_1 _) (F.newCall_enumerate_1 _) (fun obj => F.args_object_init_2 obj _) F.entry_enumerate_new (meets_enum1 B) ⟨h1, ?_⟩
  have size1 : (s.heap.push ob).objs.size = s.heap.objs.size + 1 := Heap.size_push ..
  show _ ∧ _
  rw [size1]
  have cell : IsEnum ((s.heap.push ob).push (enCell s.heap.objs.size)) (s.heap.objs.size + 1) s.heap.objs.size 0 .none := by
    have q := Heap.get?_push_size (s.heap.push ob) (o := enCell s.heap.objs.size) rfl
    rw [size1] at q; exact q
  exact ⟨⟨_, cell, rfl⟩, k _ cell (Heap.get?_push_of_some _ (Heap.get?_push_size _ B.free)) (by rw [Heap.size_push, size1]) fun b o x => Heap.get?_push_of_some _ (Heap.get?_push_of_some _ x)⟩
end
/-- the tuple at a, each item in a new pair -/
def IteT (K : PySem.W.Frag) (a : Addr) : It :=
  ⟨fun i H => ∃ (xs : List V) (x : V), SqT K H a xs ∧ xs[i]? = some x, fun i H v H' => ∃ T x, v = .ref T ∧ H T = none ∧ H' = upd H T (.tup [.int (i : Nat), x]) ∧ ∀ xs, SqT K H a xs → xs[i]? = some x, fun i H => ∃ xs : List V, SqT K H a xs ∧ xs.length = i⟩
theorem turn_enumT {P : Program} {w : World} {K : PySem.W.Frag} {elts : List Expr} {kk : Nat} {tpos : Pos} (a e it : Addr) :
    Turn P w K (.Tuple elts kk tpos) (IteT K a) [e, it] e (fun i h => (∃ old, IsEnum h e it ((i : Nat) : Int) old) ∧ h.IsTupleIter it a i ∧ e ≠ it ∧ a ≠ it ∧ a ≠ e) where
  mem := by simp
  obj := fun i h st b hb => by
    obtain ⟨⟨old, he⟩, ⟨o, ho, hc, hd⟩, _⟩ := st
    have e' : b = e ∨ b = it := by simpa using hb
    rcases e' with rfl | rfl
    · exact ⟨_, he, fun v q => nomatch q⟩
    · exact ⟨o, ho, fun v q => (by rw [hd] at q; cases q)⟩
  keep := fun i h h' st k => by
    obtain ⟨⟨old, he⟩, hi, ds⟩ := st
    have hi2 : h'.IsTupleIter it a i := hi.at fun o q => k it (by simp) o q
    exact ⟨⟨old, k e (by simp) _ he⟩, hi2, ds⟩
  item := by
    intro X hP hw hK hc i pins s σ H E I hf st hg
    subst hP hw hK
    obtain ⟨⟨old, he⟩, hit, hne, d2, d3⟩ := st
    obtain ⟨xs, x, hq, hx⟩ := hg
    obtain ⟨its, rv, p, _⟩ := I.tuple hq
    obtain ⟨u, hu, ru⟩ := rv.get hx
    have hel : e < s.heap.objs.size := Heap.lt_size he
    have hil : it < s.heap.objs.size := by obtain ⟨_, q, _⟩ := hit; exact Heap.lt_size q
    have hD : Draws X.prog X.w X.A.in1 it [it, a] its.toArray.size (fun i v => its.toArray[i]? = some v) (fun i h => h.IsTupleIter it a i ∧ h.IsTuple a its.toArray) := Draws.tuple (show X.A.in1.handled = none from I.ok.hd hc) it a d2 its.toArray
    have hi1 : i < its.toArray.size := by
      have := (List.getElem?_eq_some_iff.mp hu).1
      rw [List.size_toArray]; exact this
    refine wpAny_pyNext_enum_itemC hD he ⟨hit, show s.heap.IsTuple a its.toArray from p⟩ hi1 hne (by simp [hne, Ne.symm d3]) fun y h' tk hy ho hit' hT hsz hk => ?_
    have ey : y = u := by
      have : its.toArray[i]? = some u := by simpa using hu
      rw [this] at hy; exact (Option.some.inj hy).symm
    subst ey
    refine ⟨_, rfl, wpAny_letOwnedTupleGo_enum (s := { s with heap := h', toks := tk + 1 }) ho fun h'' he' sb => ?_⟩
    have hT2 : h''.get? s.heap.objs.size = some { cls := .type "tuple", data := .seq #[.int i tk, y] } := (sb.2 _ (Nat.ne_of_gt hel)).trans hT
    have new : ObjOk X.prog X.w (upd H s.heap.objs.size (.tup [.int (i : Nat), x])) h'' s.heap.objs.size (.tup [.int (i : Nat), x]) :=
      ⟨by show 2 ≤ sizeLine; decide, [.int i tk, y], .cons ⟨_, rfl⟩ (.cons ru .nil), ⟨_, hT2, rfl, _, rfl⟩⟩
    have I1 : Inv X pins σ (upd H s.heap.objs.size (.tup [.int (i : Nat), x])) { s with heap := h'', toks := tk + 1 } :=
      I.turnedNew (ch := [e, it]) (fun b ob hb q => (sb.2 b (fun z => hb (by simp [z]))).trans (hk b ob (fun z => hb (by simp [z])) (fun z => hb (by simp [z])) q)) hf (Nat.le_refl _) new
    refine ⟨.ref s.heap.objs.size, _, I1, rfl, ⟨_, x, rfl, I.hok.fresh (Nat.le_refl _), rfl, fun ys hy => by rw [I.tuple_inj hy hq]; exact hx⟩, ⟨⟨y, ?_⟩, hit'.1.at fun o q => (sb.2 it (Ne.symm hne)).trans q, hne, d2, d3⟩, fun b hb => ?_⟩
    · rw [show ((i + 1 : Nat) : Int) = (i : Int) + 1 by omega]; exact he'
    · have hb' : b < s.heap.objs.size := by
        have e' : b = e ∨ b = it := by simpa using hb
        rcases e' with rfl | rfl
        · exact hel
        · exact hil
      rw [upd_ne (Nat.ne_of_lt hb')]
      exact (hf b hb).1
  done := by
    intro X hP hw hK hc i pins s σ H E I hf st hg
    subst hP hw hK
    obtain ⟨⟨old, he⟩, hit, hne, d2, d3⟩ := st
    obtain ⟨xs, hq, hx⟩ := hg
    obtain ⟨its, rv, p, _⟩ := I.tuple hq
    obtain ⟨f0, f1, f2, f3, f4, f5⟩ := hf it (by simp)
    have hD : Draws X.prog X.w X.A.in1 it [it, a] its.toArray.size (fun i v => its.toArray[i]? = some v) (fun i h => h.IsTupleIter it a i ∧ h.IsTuple a its.toArray) := Draws.tuple (show X.A.in1.handled = none from I.ok.hd hc) it a d2 its.toArray
    have hl : its.toArray.size = i := by rw [List.size_toArray, ← rv.length]; exact hx
    exact wpAny_pyNext_enum_endD hD he ⟨by rw [hl]; exact hit, show s.heap.IsTuple a its.toArray from p⟩ fun h' eb => ⟨rfl, I.turned (t' := s.toks) (fun b o hb q => eb b o hb q) f0 f1 f3 f4 f5⟩
  self := fun A i s Q E st h => let ⟨⟨_, he⟩, _⟩ := st; wpAny_pyIter_enum he h
def iEnumT (K : PySem.W.Frag) (ta : TA) : TI := fun σ H R => ta σ H fun vs H1 => ∃ a xs, vs = [.ref a] ∧ SqT K H1 a xs ∧ R (IteT K a) H1
theorem pi_enumT {X : Cx} {e : Expr} {ta : TA} {p pos tpos : Pos} {elts : List Expr} {kk : Nat} (hg : Gl X "enumerate") (hm : X.mg "enumerate" = none) (ha : PA X [e] ta) (hs : starEach [e] X.env = [(false, eval e X.env)] := by rfl) :
    PI X (.Tuple elts kk tpos) (.Call (.Name "enumerate" p) [e] [] pos) (iEnumT X.K ta) := by
  refine ⟨fun pins s σ H R I h => ?_⟩
  refine Call_ (ld_blt I hg hm boot_enumerate (PyProof.Rows.callWith_type1 (thn (ha.run pos pins s σ H _ I h) fun us s1 ⟨vs, H1, I1, r1, a, xs, ex, hq, q⟩ => ?_) hs rfl))
  subst ex
  cases r1 with
  | cons r rr =>
    cases rr
    cases r
    obtain ⟨its, rv, p', _⟩ := I1.tuple hq
    have al : a < s1.heap.objs.size := by obtain ⟨o, ho, _⟩ := p'; exact Heap.lt_size ho
    refine call_enum1 (begins_tuple a its.toArray) (show s1.heap.IsTuple a its.toArray from p') fun h' he hit hsz hk => wpAny_pyIter_enum he ?_
    have I2 : Inv X pins σ H1 { s1 with heap := h' } := I1.kept (t' := s1.toks) hk
    refine ⟨s1.heap.objs.size + 1, [s1.heap.objs.size + 1, s1.heap.objs.size], _, _, H1, rfl, I2, turn_enumT a (s1.heap.objs.size + 1) s1.heap.objs.size, ⟨⟨.none, he⟩, ⟨_, hit, rfl, rfl⟩, Nat.succ_ne_self _, Nat.ne_of_lt al, Nat.ne_of_lt (Nat.lt_succ_of_lt al)⟩, fun b hb => ?_, q⟩
    have hle : s1.heap.objs.size ≤ b := by
      have e' : b = s1.heap.objs.size + 1 ∨ b = s1.heap.objs.size := by simpa using hb
      rcases e' with rfl | rfl
      · exact Nat.le_add_right _ _
      · exact Nat.le_refl _
    exact I1.fpOk hle (I1.hok.fresh hle)
/-- enumerate of a tuple -/
abbrev jEnumT (ta : DTA) : DTI := fun ρ μ Q => ta ρ μ fun vs μ1 => match vs with
  | [.tup xs] => Q (enums xs) (fun _ => True) μ1
  | _ => False
theorem src_enumT {K : PySem.W.Frag} {F0 H0 : Hp} {μ0 : Mu} {a : Addr} {ds : List SD} {ok : Mu → Prop} (h : ∀ (F H : Hp) (μ : Mu), Stp F0 H0 μ0 F H μ → HReal K F H μ → ok μ → ∃ vs, SqT K H a vs ∧ RepL K F ds vs) : Src K F0 H0 μ0 (IteT K a) (enums ds) ok where
  go := fun i F H μ e R k hi => by
    obtain ⟨vs, h1, h2⟩ := h F H μ e R k
    have : i < vs.length := by rw [← h2.length]; simpa [enums] using hi
    exact ⟨vs, vs[i], h1, List.getElem?_eq_getElem _⟩
  stop := fun F H μ e R k => by
    obtain ⟨vs, h1, h2⟩ := h F H μ e R k
    exact ⟨vs, h1, by rw [← h2.length]; simp [enums]⟩
  yld := fun i F H μ x H' e R k y d hd => by
    obtain ⟨vs, h1, h2⟩ := h F H μ e R k
    obtain ⟨T, z, rfl, hT, rfl, y⟩ := y
    obtain ⟨d', h3, h4⟩ := h2.getV (y vs h1)
    have : (enums ds)[i]? = some (.tup [.int (i : Nat), d']) := by simp [enums, h3]
    rw [this] at hd; cases hd
    have ex : Ext F (upd F T (.tup [.int (i : Nat), z])) := Ext.new (R.freeF hT)
    exact ⟨_, Stp.newS R hT, R.newS hT, .tup (.inl (.inl upd_same)) (.cons (.int _) (.one (h4.mono ex)))⟩
theorem di_enumT {X : Cx} {e : Expr} {p pos : Pos} {ta : DTA} {elts : List Expr} {kk : Nat} {tpos : Pos} (hg : Gl X "enumerate") (hm : X.mg "enumerate" = none) (ha : DA X [e] ta) (hs : starEach [e] X.env = [(false, eval e X.env)] := by rfl) : DI X (.Tuple elts kk tpos) (.Call (.Name "enumerate" p) [e] [] pos) (jEnumT ta) := weakI (pi_enumT hg hm ha hs) fun σ H R h => by
  obtain ⟨F, ρ, μ, Q', R0, S, t, k⟩ := h
  refine ⟨F, ρ, μ, _, R0, S, t, fun ds μ1 t1 F1 H1 vs s1 R1 r1 => ?_⟩
  match ds, r1, t1 with
  | [], _, t1 => exact t1.elim
  | _ :: _ :: _, r1, t1 => cases r1 with | cons ra rb => cases ra <;> exact t1.elim
  | [_], .cons r .nil, t1 =>
    cases r with
    | tup hT rl =>
      refine ⟨_, _, rfl, R1.ext.sqT hT, k _ _ _ t1 F1 H1 _ s1 R1 (src_enumT fun F' H' μ' ex R' _ => ?_)⟩
      exact ⟨_, R'.ext.sqT (ex.ext.sqT hT), rl.mono ex.ext⟩
    | _ => exact t1.elim
end DS
namespace DS
end DS
namespace DS
open PySem PySem.Spec PyProof.Rows L2
section
variable {X : Cx} {K : PySem.W.Frag} {F H : Hp} {μ : Mu}
/-- each row of the one looked up in the other -/
inductive HitsV (K : PySem.W.Frag) (H : Hp) (ls : List (Key × V)) : List (Key × V) → Bool → Prop
  | nil : HitsV K H ls [] true
  | miss {k : Key} {v : V} {r : List (Key × V)} : valV ls k = none → HitsV K H ls ((k, v) :: r) false
  | hit {k : Key} {v u : V} {p q : PyData} {r : List (Key × V)} {b : Bool} : valV ls k = some u → Dp K H v p → Dp K H u q → SeqAt.shaped p = true → SeqAt.shaped q = true → HitsV K H ls r b → HitsV K H ls ((k, v) :: r) (PyData.eqv p q && b)
theorem HitsV.run {pins : List (Addr × Obj)} {σ : L2.St} {s : Shared} {A : Around} (I : Inv X pins σ H s) (hu : A.in1.units + 64 < cLine) {ls : List (Key × V)} {vb : List (Key × Value)} (rb : KV ls vb) {ks : List (Key × V)} {b : Bool} (h : HitsV X.K H ls ks b) :
    ∀ {va : List (Key × Value)}, KV ks va → PySem.W.KeqHits A.in1 s vb va b := by
  induction h with
  | nil => intro va ra; cases ra; exact .nil
  | @miss k v r hn =>
    intro va ra
    cases ra with
    | @cons _ y _ _ a b =>
      obtain ⟨h1, h2⟩ := a
      obtain ⟨key, v2⟩ := y
      have h1' : k = key := h1
      subst h1'
      have rr : RelO none (valueAt vb k) := by rw [← hn]; exact rb.val k
      refine .miss ?_
      cases e : valueAt vb k with
      | none => rfl
      | some z => rw [e] at rr; exact rr.elim
  | @hit k v u p q r b hy hp hq sp sq _ ih =>
    intro va ra
    cases ra with
    | @cons _ y _ _ a b =>
      obtain ⟨h1, h2⟩ := a
      obtain ⟨key, v2⟩ := y
      have h1' : k = key := h1
      subst h1'
      have rr : RelO (some u) (valueAt vb k) := by rw [← hy]; exact rb.val k
      obtain ⟨y, e, ry⟩ := rr.some_of
      obtain ⟨as, r1⟩ := Dp.reads I p _ _ hp h2
      obtain ⟨bs, r2⟩ := Dp.reads I q _ _ hq ry
      exact .hit e (PySem.W.keq_at r1 r2 sp sq hu) (ih b)
end
end DS
namespace DS
open PySem PySem.Spec PyProof.Rows L2
section
variable {X : Cx} {K : PySem.W.Frag}
def dMulT : DR2 := fun x y μ Q => match x, y with
  | .tup xs, .int j => xs ≠ [] ∧ 2 ≤ j ∧ j ≤ 1000 ∧ xs.length ≤ 1000 ∧ Q (.tup (List.replicate j.toNat xs).flatten) μ
  | _, _ => False
theorem lr_mulT : LR2 K dMulT (rRepT K) := fun F H μ x y dx dy Q' Q R rx ry t k => by
  unfold dMulT at t
  split at t
  · rename_i xs j
    cases rx with
    | tup hx r =>
      cases ry
      obtain ⟨h0, h1, h2, h3, t⟩ := t
      rename_i a vs
      refine ⟨a, j, vs, rfl, rfl, R.ext.sqT hx, fun z => h0 ?_, h1, h2, by rw [← r.length]; exact h3, fun q hq => k _ μ t _ _ _ (Stp.newS R hq) (R.newS hq) (.tup (.inl (.inl upd_same)) ((r.rep _).mono (Ext.new (R.freeF hq))))⟩
      subst z
      cases r
      rfl
  · exact False.elim t
end
end DS
namespace DS
end DS
namespace DS
end DS
namespace DS
end DS
namespace DS
end DS
namespace DS
end DS
namespace DS
end DS
namespace DS
open PySem PySem.Spec PyProof.Rows L2
def IsSI (h : Heap) (v : Value) (p : Str × Int) : Prop := ∃ a o t u n, v = .ref a ∧ h.get? a = some o ∧ o.cls = .type "tuple" ∧ o.data = .seq #[.str p.1 t, .int p.2 u] n
theorem IsSI.keep {h h' : Heap} {v : Value} {p : Str × Int} (x : IsSI h v p) (k : ∀ b o, h.get? b = some o → o.cls = .type "tuple" → h'.get? b = some o) : IsSI h' v p := by
  obtain ⟨a, o, t, u, n, e, ho, hc, hd⟩ := x
  exact ⟨a, o, t, u, n, e, k _ _ ho hc, hc, hd⟩
theorem IsSI.uniq {h : Heap} {v : Value} {p q : Str × Int} (x : IsSI h v p) (y : IsSI h v q) : p = q := by
  obtain ⟨a, o, t, u, n, e, ho, hc, hd⟩ := x
  obtain ⟨a', o', t', u', n', e', ho', hc', hd'⟩ := y
  rw [e] at e'
  cases e'
  rw [ho] at ho'
  cases ho'
  rw [hd] at hd'
  injection hd' with h1 _
  have h2 := congrArg Array.toList h1
  injection h2 with h3 h4
  injection h3 with h3 _
  injection h4 with h4 _
  injection h4 with h4 _
  exact Prod.ext h3 h4
end DS
namespace DS
end DS
namespace DS
end DS
namespace DS
open PySem PySem.Spec PyProof.Rows L2
def IsRo (h : Heap) (v : Value) (l : List Str) : Prop := ∃ a o its n, v = .ref a ∧ h.get? a = some o ∧ o.cls = .type "tuple" ∧ o.data = .seq its n ∧ StrsAre its.toList l
theorem IsRo.keep {h h' : Heap} {v : Value} {l : List Str} (x : IsRo h v l) (k : ∀ b o, h.get? b = some o → o.cls = .type "tuple" → h'.get? b = some o) : IsRo h' v l := by
  obtain ⟨a, o, its, n, e, ho, hc, hd, r⟩ := x
  exact ⟨a, o, its, n, e, k _ _ ho hc, hc, hd, r⟩
theorem strs_uniq : ∀ {us : List Value} {a b : List Str}, StrsAre us a → StrsAre us b → a = b
  | [], _, _, .nil, .nil => rfl
  | _ :: _, _, _, .cons x t r, h => by
    cases h with
    | cons y t' r' => rw [strs_uniq r r']
theorem IsRo.uniq {h : Heap} {v : Value} {p q : List Str} (x : IsRo h v p) (y : IsRo h v q) : p = q := by
  obtain ⟨a, o, its, n, e, ho, hc, hd, r⟩ := x
  obtain ⟨a', o', its', n', e', ho', hc', hd', r'⟩ := y
  rw [e] at e'
  cases e'
  rw [ho] at ho'
  cases ho'
  rw [hd] at hd'
  injection hd' with h1 _
  rw [← h1] at r'
  exact strs_uniq r r'
end DS
namespace DS
open PySem PySem.Spec PyProof.Rows L2
/-- the set at a: S says who is in, n how many; its table stands in order -/
def TxRI (P : Program) (w : World) (h : Heap) (a : Addr) (S : Int → Bool) (n : Nat) : Prop := ∃ o es ep t, h.get? a = some o ∧ o.ExactSet ∧ o.data = .set es ep t ∧ ElemsOf (PySem.intKind P w) es.toList ∧ (∀ k, S k = true ↔ ∃ e ∈ es.toList, (PySem.intKind P w).is k e.2 = true) ∧
  es.size < scanBound ∧ t.fits es.size = true ∧ es.size = n ∧ Ris t.place.toList ∧ (w.params.followText "set-order" = true ∨ t.led = true)
section
variable {P : Program} {w : World} {A : Around} {E : Value → Shared → Prop} {s : Shared} {a : Addr} {S : Int → Bool} {n : Nat}
theorem TxRI.keep {h h' : Heap} (R : TxRI P w h a S n) (k : ∀ o, h.get? a = some o → h'.get? a = some o) : TxRI P w h' a S n := by
  obtain ⟨o, es, ep, t, ho, r⟩ := R
  exact ⟨o, es, ep, t, k o ho, r⟩
end
/-- the set at a: who is in is in ns, as many as u has -/
def TxSetI (P : Program) (w : World) (h : Heap) (a : Addr) (ns u : List Int) : Prop := TxRI P w h a (fun j => decide (j ∈ ns)) u.length
section
variable {P : Program} {w : World} {A : Around} {E : Value → Shared → Prop} {s : Shared}
theorem TxSetI.keep {h h' : Heap} {a : Addr} {ns u : List Int} (R : TxSetI P w h a ns u) (k : ∀ o, h.get? a = some o → h'.get? a = some o) : TxSetI P w h' a ns u := TxRI.keep R k
end
end DS
namespace DS
end DS
namespace DS
end DS
namespace DS
end DS
namespace SKT
end SKT
namespace DS
open PySem PySem.Spec PyProof.Rows L2
/-- the lambda's code object was there, or is new and told by the table at P -/
def MadeL (H : Hp) (P : Addr) (q : Str) (H1 : Hp) : Prop := H1 = H ∨ ∃ (ps more : Array Value) (c' : Addr), H P = some (.tbl ps) ∧ H c' = none ∧ H1 = upd (upd H P (.tbl (ps ++ more))) c' (LamX.CodeO c' q) ∧ TriplesOk (ps ++ more).toList ∧
  ∀ (pos : Pos) (cv : Value), codeAmong pos (ps ++ more).toList = some cv → codeAmong pos ps.toList = some cv ∨ cv = .ref c'
/-- the module of the builtins, as the beginning has it -/
def BM (base : Heap) (mg : Str → Option Value) : Prop := ∃ (bm : Addr) (o : Obj), mg "__builtins__" = some (.ref bm) ∧ bm ≠ builtinsNs ∧ bm ≠ mainGlobals ∧ base.get? bm = some o ∧ o.cls = .type "module" ∧ o.dict = some builtinsNs ∧ o.data = .plain
/-- it is the code of the def named x that runs -/
def OwnC (X : Cx) (x : Str) : Prop := ∃ (f : Addr) (oc : Value) (od : Option Addr) (fd : FuncData) (osl : Array (Option Value)), X.mg x = some (.ref f) ∧ X.K.lookup f = some ⟨oc, od, .func fd, osl⟩ ∧ fd.code = X.env.code
theorem tabB_of {X : Cx} {pins : List (Addr × Obj)} {σ : L2.St} {H : Hp} {s : Shared} {x : Str} {P : Addr} {ps : Array Value} (I : Inv X pins σ H s) (hb : BM X.base X.mg) (hw : OwnC X x) (hT : TabAt X.K x P) (hP : H P = some (.tbl ps)) : ∃ c, X.env.code = .ref c ∧ LamX.TabB X.base X.mg c P := by
  obtain ⟨f, c, oc, od, fd, osl, h1, h2, h3, h4⟩ := hT
  obtain ⟨f', oc', od', fd', osl', g1, g2, g3⟩ := hw
  have e := PySem.W.mg_of I.mod.kin I.mod.glob h1
  rw [g1] at e; cases e
  rw [h2] at g2; cases g2
  have atP : s.heap.get? P = some { cls := .none, data := .fields ps } := I.hok P _ hP
  obtain ⟨bm, o, b1, b2, b3, b4, b5, b6, b7⟩ := hb
  refine ⟨c, by rw [← g3, h3], PySem.W.codeHd_of_K I.mod.kin h4, ⟨bm, o, b1, b2, b3, fun z => ?_, b4, b5, b6, b7⟩, fun z => ?_⟩
  · have := I.bk _ _ b4
    rw [z, atP] at this; cases this; cases b7
  · obtain ⟨o, es, ep, ho, hd, _⟩ := I.mod.glob
    have := I.bk _ _ ho
    rw [z, atP] at this; cases this; cases hd
end DS
namespace DS
end DS
namespace DS
open PySem PySem.Spec PyProof.Rows L2
/-- the table has grown by the lambda's code object -/
theorem HReal.made {K : PySem.W.Frag} {F H H2 : Hp} {μ : Mu} {P : Addr} {x q : Str} (R : HReal K F H μ) (hP : μ P = some (.tab P x q)) (m : MadeL H P q H2) : ∃ F2, HReal K F2 H2 μ ∧ Stp F H μ F2 H2 μ := by
  rcases m with rfl | ⟨ps, more, c', h1, h2, rfl, h3, h4⟩
  · exact ⟨F, R, Stp.refl _ _ _⟩
  · have hF := R.freeF h2
    have hPF := (R.mus P _ hP).1
    have Pc : P ≠ c' := fun z => by rw [z, h2] at h1; cases h1
    have ex : Ext F (upd F c' (LamX.CodeO c' q)) := Ext.new hF
    refine ⟨upd F c' (LamX.CodeO c' q), ⟨fun a o e => ?_, fun a n e => ?_⟩, ⟨ex, fun a z1 z2 z3 => ?_⟩⟩
    · by_cases ha : a = c'
      · subst ha; rw [upd_same] at e ⊢; exact e
      · rw [upd_ne ha] at e
        have aP : a ≠ P := fun z => by rw [z, hPF] at e; cases e
        rw [upd_ne ha, upd_ne aP]; exact R.sub a o e
    · obtain ⟨z, o, q1, r⟩ := R.mus a n e
      have ha : a ≠ c' := fun z => by rw [z, h2] at q1; cases q1
      refine ⟨by rw [upd_ne ha]; exact z, ?_⟩
      by_cases aP : a = P
      · subst aP
        rw [hP] at e; cases e
        rw [h1] at q1; cases q1
        refine ⟨_, by rw [upd_ne Pc, upd_same], ?_⟩
        cases r with
        | tab t1 t2 t3 =>
          refine .tab t1 h3 fun pos cv hc => ?_
          rcases h4 pos cv hc with hc | rfl
          · obtain ⟨c, e1, e2⟩ := t3 pos cv hc
            exact ⟨c, e1, ex.st _ _ rfl e2⟩
          · exact ⟨c', rfl, upd_same⟩
      · exact ⟨o, by rw [upd_ne ha, upd_ne aP]; exact q1, r.mono ex⟩
    · have ha : a ≠ c' := fun z => z1 (by rw [z]; exact h2)
      have aP : a ≠ P := fun z => by rw [z, hP] at z3; cases z3
      exact ⟨by rw [upd_ne ha, upd_ne aP], by rw [upd_ne ha]; exact z2, z3⟩
section
variable {P : Program} {w : World} {K : PySem.W.Frag} {mg : Str → Option Value} {base : Heap}
theorem def_okL {x : Str} {st : Stmt} {N ps : List Str} {k : Nat} {sp : DSp} (D : Def K mg x st ps) (S : FnScope N ps (defScope st)) (t : DTS) (len : ∀ ds μ Q E, sp ds μ Q E → ds.length = ps.length)
    (walk : ∀ (cdv : Value) (A : Around) (outer : List Env) (s : Shared) (H : Hp) (E : XK), Quiet A → Room k (A.deeper (envOfC x (defScope st) s.heap.objs.size D.f cdv)) → OwnC (cxOf CX0 P w K mg base N x (defScope st) D.f cdv A outer s H E).nox x →
      DSs (cxOf CX0 P w K mg base N x (defScope st) D.f cdv A outer s H E).nox (defBody st) t)
    (read : ∀ ds μ Q E, sp ds μ Q E → t { nx := fun _ μ' => Q .non μ', rt := Q } (begin_ N ds) μ) : FnD P w base D (k + 1) sp := by
  obtain ⟨f, fd, DF, Dm, Db⟩ := D
  obtain ⟨oc, od, kV, doc, pm, an, cdv, ct, osl, rfl, lk, hcd⟩ := DF.ex
  refine fnG_of lk hcd S (fun vs H Q E h => ?_) fun A outer s H vs Q E quiet room want => ?_
  · obtain ⟨F, μ, ds, Q', E', _, r, q, _⟩ := h
    rw [← r.length]; exact len ds μ Q' E' q
  · obtain ⟨F, μ, ds, Q', E', R, r, q, k1, _⟩ := want
    refine ⟨_, (walk cdv A outer s H E quiet room ⟨f, _, _, _, _, Dm, lk, rfl⟩).nox, F, begin_ N ds, μ, _, R, slots_begin r, read ds μ Q' E' q, ?_, k1, fun _ _ z => False.elim z, fun _ _ z => False.elim z⟩
    exact fun ρ' μ' q F' H' σ' s' R' _ => k1 .non μ' q F' H' .non s' R' .non
end
end DS
namespace DS
open PySem PySem.Spec PyProof.Rows L2
theorem lawGT {P : Program} {w : World} {K : PySem.W.Frag} {mg mb : Str → Option Value} {CX : CXT} {k : Nat} {fa a T : Addr} {fd : FuncData} {x : Str} {sp : Sp} {s₁ : Shared} {vs : List Value} {ns : List Int}
    (KX : K.In s₁.heap) (hns : s₁.heap.Ns mainGlobals mg) (hb : s₁.heap.Ns builtinsNs mb) (hbb : ∀ x : Str, x ≠ "__name__" → mb x = bootBuiltins x) (hlim : s₁.heap.NoLimit) (hgens : s₁.gens = #[])
    (tT : s₁.heap.get? T = some { cls := .none, data := .fields #[] }) (tK : K.lookup T = none) (tC : isCodeTable s₁.heap T)
    (hbm : ∃ (bm : Addr) (o : Obj), mg "__builtins__" = some (.ref bm) ∧ bm ≠ builtinsNs ∧ s₁.heap.get? bm = some o ∧ o.cls = .type "module" ∧ o.dict = some builtinsNs ∧ o.data = .plain)
    (script : s₁.heap.get? a = some { cls := .type "list", data := .seq vs.toArray }) (hi : IntsAre vs ns) (hl : ns.length ≤ sizeLine) (hr : Room k callerA)
    (F : ∀ base : Heap, K.In base → base.Ns mainGlobals mg → BM base mg → FnG P w K mg base CX k fa fd [x] sp) (hbind : ∀ (s : Shared) (u : Value), BindsTo s fd ⟨[u], []⟩ [(x, u)])
    (promise : ∀ H : Hp, H T = some (.tbl #[]) → SqL K H a (ns.map V.int) → sp [.ref a] H (fun v _ => v = .bl true) fun _ _ _ => False) (quiet : ∀ H e s', CX [] H s₁ (fun _ _ _ => False) e s' → False) :
    codeAny (model P w) callerA (.call (.ref fa) ⟨[.ref a], []⟩) (fun r s' => r = .ok (.ret (.bool true)) ∧ OldK s₁.heap s'.heap ∧ s'.os = s₁.os ∧ AllBare s'.gens) s₁ := by
  have vals := vals_ints hi
  have same := hi.length
  have aT : a ≠ T := fun z => by
    rw [z, tT] at script
    exact nomatch (congrArg Obj.data (Option.some.inj script) : Data.fields #[] = Data.seq vs.toArray _)
  have main : ∀ H : Hp, H T = some (.tbl #[]) → (∀ b, b ≠ T → H b = none ∨ ∃ ob xs, H b = some (.frz ob (.lst xs))) → SqL K H a (ns.map V.int) → HOk P w H s₁.heap → (∀ b, b ≠ T → H b ≠ none → b = a ∧ K.lookup a = none) →
      codeAny (model P w) callerA (.call (.ref fa) ⟨[.ref a], []⟩) (fun r s' => r = .ok (.ret (.bool true)) ∧ OldK s₁.heap s'.heap ∧ s'.os = s₁.os ∧ AllBare s'.gens) s₁ := by
    intro H hT only seen holds only_a
    have none_at : ∀ b, b ≠ T → (b = a → K.lookup a ≠ none) → H b = none := fun b bT hb => by
      cases q : H b with
      | none => rfl
      | some u =>
        obtain ⟨e1, e2⟩ := only_a b bT (by rw [q]; exact fun z => nomatch z)
        exact absurd e2 (hb e1)
    have other : ∀ {b : Addr} {o : Obj}, s₁.heap.get? b = some o → (∀ us n, o.data ≠ .seq us n) → o.data ≠ .fields #[] → H b = none := fun {b o} e d1 d2 => by
      have bT : b ≠ T := fun z => by
        rw [z, tT] at e
        exact d2 (congrArg Obj.data (Option.some.inj e)).symm
      cases q : H b with
      | none => rfl
      | some u =>
        obtain ⟨ea, _⟩ := only_a b bT (by rw [q]; exact fun z => nomatch z)
        rw [ea, script] at e
        exact absurd (congrArg Obj.data (Option.some.inj e)).symm (d1 _ _)
    have ns_of : ∀ {b : Addr} {m : Str → Option Value}, s₁.heap.Ns b m → (hidT s₁.heap H).Ns b m := fun ⟨o, es, ep, e, d, r⟩ =>
      ⟨o, es, ep, hidT_get e (other e (fun us n z => by rw [d] at z; cases z) fun z => by rw [d] at z; cases z), d, r⟩
    have kb : K.In (hidT s₁.heap H) := fun b o e => hidT_get (KX b o e) (none_at b (fun z => by rw [z, tK] at e; cases e) fun z => by subst z; rw [e]; exact fun q => nomatch q)
    have md : Mod K mg (hidT s₁.heap H) := ⟨kb, ns_of hns, ⟨mb, ns_of hb, hbb⟩, let ⟨mc, h1, h2⟩ := hlim; ⟨mc, ns_of h1, h2⟩⟩
    have bmd : BM (hidT s₁.heap H) mg := by
      obtain ⟨bm, o, b1, b2, b3, b4, b5, b6⟩ := hbm
      refine ⟨bm, o, b1, b2, fun z => ?_, hidT_get b3 (other b3 (fun us n z => by rw [b6] at z; cases z) fun z => by rw [b6] at z; cases z), b4, b5, b6⟩
      obtain ⟨o', es, ep, e, d, _⟩ := hns
      rw [z, e] at b3
      cases b3
      rw [d] at b6; cases b6
    have e0 : Env0 P w K mg (hidT s₁.heap H) callerA [] s₁ H := ⟨rfl, md, fun b o e => of_hidT e, Nat.le_of_eq (hidT_size _ _), trivial, fun b hb => absurd (show b ∈ ([] : List Addr) from hb) (by simp), holds, .of_eq hgens⟩
    refine codeAny_mono ((F _ kb (ns_of hns) bmd).go callerA [] s₁ H ⟨[.ref a], []⟩ [.ref a] [.ref a] _ _ rfl hr e0 (hbind s₁ (.ref a)) (.cons rfl .nil) (promise H hT seen)) fun out s' h => ?_
    match out, h with
    | .error e, h => exact (quiet H e s' h).elim
    | .ok .next, h => exact False.elim h
    | .ok .brk, h => exact False.elim h
    | .ok .cont, h => exact False.elim h
    | .ok (.ret u), h =>
      obtain ⟨v, H', os, bare, un, holds', rel, q⟩ := h
      obtain rfl : v = .bl true := q
      obtain rfl : u = Value.bool true := rel
      have stays : ∀ b o, b ≠ T → s₁.heap.get? b = some o → s'.heap.get? b = some o := fun b o bT e => by
        rcases only b bT with z | ⟨ob, xs, z⟩
        · exact un.keep b o e z (by intro z; exact absurd (show b ∈ ([] : List Addr) from z) (by simp)) (by simp)
        · have now := un.frzs b ob _ z
          obtain ⟨e1, _⟩ := holds b _ z
          obtain ⟨e2, _⟩ := holds' b _ now
          rw [e] at e1; cases e1
          exact e2
      obtain ⟨more, hm⟩ := un.tbls T #[] hT
      have grown : s'.heap.get? T = some { cls := .none, data := .fields (#[] ++ more) } := holds' T _ hm
      refine ⟨rfl, ⟨fun b o e => ?_, fun b o e => ?_⟩, os, bare⟩
      · by_cases bT : b = T
        · subst bT
          rw [tT] at e; cases e
          exact .inr (.inl ⟨tC, rfl, #[], more, rfl, grown⟩)
        · exact .inl (stays b o bT e)
      · by_cases bT : b = T
        · subst bT; exact ⟨_, grown⟩
        · exact ⟨o, stays b o bT e⟩
  by_cases hk : K.lookup a = none
  · refine main (fun b => if b = T then some (.tbl #[]) else if b = a then some (.frz { cls := .type "list", data := .seq vs.toArray } (.lst (ns.map V.int))) else none) (if_pos rfl) (fun b bT => ?_) (.inl (.inr ⟨{ cls := .type "list", data := .seq vs.toArray }, by show (if a = T then _ else _) = _; rw [if_neg aT, if_pos rfl]⟩)) (fun b u z => ?_) fun b bT z => ?_
    · by_cases hb : b = a
      · exact .inr ⟨_, _, by show (if b = T then _ else _) = _; rw [if_neg bT, if_pos hb]⟩
      · exact .inl (by show (if b = T then _ else _) = _; rw [if_neg bT, if_neg hb])
    · by_cases bT : b = T
      · have z : some (HO.tbl #[]) = some u := (if_pos bT).symm.trans z
        cases z
        subst bT
        exact tT
      · have z : (if b = a then some (HO.frz { cls := .type "list", data := .seq vs.toArray } (.lst (ns.map V.int))) else none) = some u := (if_neg bT).symm.trans z
        by_cases hb : b = a
        · cases (if_pos hb).symm.trans z
          subst hb
          exact ⟨script, by rw [List.length_map]; exact hl, vs, _, vals, script⟩
        · cases (if_neg hb).symm.trans z
    · by_cases hb : b = a
      · exact ⟨hb, hk⟩
      · exact absurd (by show (if b = T then _ else _) = _; rw [if_neg bT, if_neg hb]) z
  · obtain ⟨o, ho⟩ := Option.ne_none_iff_exists'.mp hk
    have e := KX a o ho
    rw [script] at e
    cases e
    refine main (fun b => if b = T then some (.tbl #[]) else none) (if_pos rfl) (fun b bT => .inl (if_neg bT)) (.inr ⟨_, vs.toArray, _, ho, rfl, rfl, rfl, by rw [List.size_toArray, same]; exact hl, by simpa using vals⟩) (fun b u z => ?_) fun b bT z => absurd (if_neg bT) z
    by_cases bT : b = T
    · have z : some (HO.tbl #[]) = some u := (if_pos bT).symm.trans z
      cases z
      subst bT
      exact tT
    · exact nomatch (if_neg bT).symm.trans z
/-- x0: the def that makes functions -/
theorem walkGT {l : PySem.W.OpenLaw} {n k : Nat} {q : Program} {loose : List Str} {XP : (Str → Option Value) → Heap → Prop} {YP : World → Heap → Prop} {d : DefRec} {K : Params → PySem.W.Frag} {CX : CXT} {sp : PySem.W.Frag → Sp} {x x0 : Str}
    (hn : l.most = some n) (hn2 : n ≤ sizeLine) (hdf : d.params.defaults = []) (hr : Room k callerA) (hY : ∀ (w : World) (h : Heap), YP w h → (K w.params).In h) (hrec : ((recsOf q).any fun e => e.name == x0) = true)
    (F : ∀ (w : World) (mg : Str → Option Value) (fa : Addr) (h : Heap), (K w.params).In h → h.Ns mainGlobals mg → mg d.name = some (.ref fa) →
      ∃ (T : Addr) (fd : FuncData), TabAt (K w.params) x0 T ∧ (K w.params).lookup T = none ∧ (∀ (s : Shared) (u : Value), BindsTo s fd ⟨[u], []⟩ [(x, u)]) ∧ ∀ base : Heap, (K w.params).In base → base.Ns mainGlobals mg → BM base mg → FnG l.prog w (K w.params) mg base CX k fa fd [x] (sp (K w.params)))
    (hsp : ∀ (K : PySem.W.Frag) (H : Hp) (a T : Addr) (ns : List Int), ns.length ≤ n → TabAt K x0 T → H T = some (.tbl #[]) → SqL K H a (ns.map V.int) → sp K [.ref a] H (fun v _ => v = .bl true) fun _ _ _ => False)
    (hCX : ∀ (H : Hp) (s : Shared) (e : Value) (s' : Shared), CX [] H s (fun _ _ _ => False) e s' → False) : PySem.W.WalkO q loose XP YP l.row.toRowW d [] (fun f vs => PySem.call f vs) :=
  Att.attach_call hn hdf fun w s₀ s₁ mg mb fa o pm cd doc a vs ns G Y ho hd hcd hmg hobj hints hlen hg => by
    have KX := hY w _ Y
    obtain ⟨T, fd, hT, nT, hb, hF⟩ := F w mg fa _ KX G.T.g hmg
    obtain ⟨dL, hm, hn1⟩ := List.any_eq_true.mp hrec
    have hn2' : dL.name = x0 := beq_iff_eq.mp hn1
    obtain ⟨f', o', fd', c', T', t1, t2, t3, t4, t5, t6⟩ := G.T.tab dL hm
    have hT0 := hT
    obtain ⟨f, c, oc, od, fd0, osl, g1, g2, g3, g4⟩ := hT
    rw [hn2', PySem.W.mg_of KX G.T.g g1] at t1
    cases t1
    rw [KX _ _ g2] at t2
    cases t2
    cases t3
    rw [g3] at t4
    cases t4
    have hd' := PySem.W.codeHd_of_K KX g4
    obtain ⟨o1, us, file, tf, flags, tg, inF, text, tt, e1, r1, r2, r3, _⟩ := hd'
    obtain ⟨⟨o2, us2, e2, _, q2, q3⟩, q4⟩ := id t6
    rw [e1] at e2
    cases e2
    rw [r2] at q2
    cases q2
    rw [r3] at q3
    cases q3
    exact lawGT KX G.T.g G.T.b G.T.builtins G.T.nolimit hg q4 nT t6.isCodeTable G.T.bmain hobj hints (Nat.le_trans hlen hn2) hr hF hb (fun H h1 h2 => hsp _ H a _ ns hlen hT0 h1 h2) fun H e s' => hCX H s₁ e s'
/-- the script is handed in, the table is empty -/
theorem law_startT {K : PySem.W.Frag} {H : Hp} {a T : Addr} {ns : List Int} {sp : DSp} {x q : Str} (hA : TabAt K x T) (hT : H T = some (.tbl #[])) (hS : SqL K H a (ns.map V.int)) (h : ∀ μ, μ T = some (.tab T x q) → sp [.rol (ns.map SD.int)] μ (fun d _ => d = .bl true) (fun _ _ _ => False)) : LSp K sp [.ref a] H (fun v _ => v = .bl true) fun _ _ _ => False := by
  have sq : SqL K (fun b => if b = T then none else H b) a (ns.map V.int) := by
    rcases hS with (z | ⟨o, z⟩) | z
    · refine .inl (.inl ?_)
      show (if a = T then none else H a) = _
      rw [if_neg (fun e => by rw [e, hT] at z; cases z)]; exact z
    · refine .inl (.inr ⟨o, ?_⟩)
      show (if a = T then none else H a) = _
      rw [if_neg (fun e => by rw [e, hT] at z; cases z)]; exact z
    · exact .inr z
  refine ⟨fun b => if b = T then none else H b, fun b => if b = T then some (.tab T x q) else none, [.rol (ns.map SD.int)], _, _, ⟨fun b o e => ?_, fun b m e => ?_⟩, .one (.rol sq (RepL.ofInts ns)), h _ (if_pos rfl), fun d μ' q F' H' v s R r => by subst q; cases r; rfl, fun _ _ _ q => q.elim⟩
  · by_cases hb : b = T
    · exact nomatch (if_pos hb).symm.trans e
    · exact (if_neg hb).symm.trans e
  · by_cases hb : b = T
    · cases (if_pos hb).symm.trans e
      subst hb
      exact ⟨if_pos rfl, _, hT, .tab hA trivial fun pos cv hc => by
        have z : codeAmong pos [] = some cv := hc
        simp [codeAmong] at z⟩
    · exact nomatch (if_neg hb).symm.trans e
end DS
namespace DS
open PySem PySem.Spec PyProof.Rows L2
/-- the code object of the def at f, and its table -/
def tabOf (K : PySem.W.Frag) (f : Addr) : Addr × Addr := match K.lookup f with
  | some ⟨_, _, .func fd, _⟩ => (match fd.code with
    | .ref c => (match K.lookup c with
      | some ⟨_, _, .fields vs, _⟩ => (match (vs[11]? : Option Value) with
        | some (.ref P) => (c, P)
        | _ => (0, 0))
      | _ => (0, 0))
    | _ => (0, 0))
  | _ => (0, 0)
end DS
namespace DS
end DS
namespace DS
end DS
namespace DS
end DS
namespace DS
open PySem PySem.Spec PyProof.Rows L2
def ItK (b : Bool) (h : Heap) (it a : Addr) (i : Nat) : Prop := if b = true then h.IsTupleIter it a i else h.IsListIter it a i
def itO (b : Bool) (a : Addr) : Obj := { cls := .type (if b = true then "tuple_iterator" else "list_iterator"), data := .fields #[.ref a, .int 0 0] }
theorem ItK.ob {b : Bool} {h : Heap} {it a : Addr} {i : Nat} (x : ItK b h it a i) : ∃ o, h.get? it = some o ∧ ∀ v, o.data ≠ .cell v := by
  unfold ItK at x
  cases b with
  | true =>
    obtain ⟨o, e, _, d⟩ := (show h.IsTupleIter it a i from x)
    exact ⟨o, e, fun v z => by rw [d] at z; cases z⟩
  | false =>
    obtain ⟨o, e, _, d⟩ := (show h.IsListIter it a i from x)
    exact ⟨o, e, fun v z => by rw [d] at z; cases z⟩
theorem ItK.start {b : Bool} {h : Heap} {it a : Addr} (e : h.get? it = some (itO b a)) : ItK b h it a 0 := by
  unfold ItK
  cases b with
  | true => exact ⟨_, e, rfl, rfl⟩
  | false => exact ⟨_, e, rfl, rfl⟩
end DS
namespace DS
end DS
namespace DS
end DS
namespace DS
end DS
namespace DS
open PySem PySem.Spec PyProof.Rows L2
/-- what the clause 'except c as n' wishes: behind the suite the error's object is known -/
def wTrk (K : PySem.W.Frag) (c : Value) (i : Nat) (ts : Addr → Value → Option Addr → TS) (Wout : WX) (D : Ends) : WX := fun cls d σ H =>
  ∃ b, PySem.W.exmOne K cls c = some b ∧ (b = true → ∃ C, cls = .ref C ∧ ∀ a, H a = none → ts a cls d
    { nx := fun σ' H' => D.nx (σ'.set i none) (upd H' a (exq a C d)), rt := fun v H' => D.rt v (upd H' a (exq a C d)), bk := fun σ' H' => D.bk (σ'.set i none) (upd H' a (exq a C d)), ct := fun σ' H' => D.ct (σ'.set i none) (upd H' a (exq a C d)) } (σ.set i (some (.ref a))) H) ∧
    (b = false → Wout cls d σ H)
section
variable {X : Cx} {pins : List (Addr × Obj)} {σ : L2.St} {H : Hp} {s : Shared}
theorem inv_unsuite {a : Addr} {q : Addr × Obj} {pn' : List (Addr × Obj)} (I : Inv (X.suite a (q :: (X.pn ++ pins))) pn' σ H s) (ok : X.Ok) : Inv X (q :: pins) σ H s :=
  ⟨ok, I.os, I.bare, I.base, I.loc, I.cell, I.free, I.freeC, fun p hp => I.pin p (List.mem_append_left _ (by
    rcases List.mem_append.mp hp with h | h
    · exact List.mem_cons_of_mem _ (List.mem_append_left _ h)
    · rcases List.mem_cons.mp h with h | h
      · rw [h]; exact List.mem_cons_self ..
      · exact List.mem_cons_of_mem _ (List.mem_append_right _ h))), I.hok, I.len⟩
/-- an error's object that has come since the def was entered is known from now on -/
theorem inv_track {a C : Addr} {d : Option Addr} {oe : Obj} {vs : Array Value} (I : Inv X ((a, oe) :: pins) σ H s) (fresh : X.s_0.heap.get? a = none) (hd : oe.data = .fields vs) (hz : Zc (.ref C) d oe) (np : ∀ p ∈ X.pn ++ pins, p.1 ≠ a) : Inv X pins σ (upd H a (exq a C d)) s := by
  obtain ⟨e1, e2, e3, e4, e5⟩ := I.pin (a, oe) (List.mem_append_right _ (List.mem_cons_self ..))
  have e1 : s.heap.get? a = some oe := e1
  have e2 : H a = none := e2
  have sub : ∀ {p : Addr × Obj}, p ∈ X.pn ++ pins → p ∈ X.pn ++ ((a, oe) :: pins) := fun {p} hp => by
    rcases List.mem_append.mp hp with h | h
    · exact List.mem_append_left _ h
    · exact List.mem_append_right _ (List.mem_cons_of_mem _ h)
  have nb : ∀ {b : Addr} {o : Obj}, X.s_0.heap.get? b = some o → b ≠ a := fun {b o} e z => by rw [z, fresh] at e; cases e
  have nH : ∀ {b : Addr} {u : HO}, H b = some u → b ≠ a := fun {b u} e => ne_of_none e e2
  refine ⟨I.ok, I.os, I.bare, ⟨I.base.keep, I.base.slot, fun b o e n hx => ?_, I.base.there, fun b xs e => ?_, fun b o u e => ?_, fun b ps e => ?_⟩, I.loc, I.cell, ?_, fun y c e => ?_, fun p hp => ?_, fun b u e => ?_, I.len⟩
  · rw [upd_ne (nb e)]; exact I.base.free b o e n hx
  · have := I.base.tups b xs e
    rw [upd_ne (nH this)]; exact this
  · have := I.base.frzs b o u e
    rw [upd_ne (nH this)]; exact this
  · obtain ⟨more, this⟩ := I.base.tbls b ps e
    exact ⟨more, by rw [upd_ne (nH this)]; exact this⟩
  · rw [upd_ne (fun z => e3 z.symm)]; exact I.free
  · have hc : c ≠ a := fun z => by
      obtain ⟨v, o, ho, hcd⟩ := I.cell y c e
      rw [z, e1] at ho
      cases ho
      rw [hd] at hcd; cases hcd
    rw [upd_ne hc]; exact I.freeC y c e
  · obtain ⟨f1, f2, f3, f4, f5⟩ := I.pin p (sub hp)
    exact ⟨f1, by rw [upd_ne (np p hp)]; exact f2, f3, f4, f5⟩
  · by_cases hb : b = a
    · subst hb
      rw [upd_same] at e
      cases e
      exact ⟨⟨oe, vs, e1, hz, hd⟩, ⟨oe, e1⟩, fun h1 h2 ⟨oe, vs, g1, g2, g3⟩ st => ⟨oe, vs, st _ g1, g2, g3⟩⟩
    · rw [upd_ne hb] at e
      exact (I.hok b u e).stay (fun _ _ _ q => q) (fun d q => by rw [upd_ne (nH q)]; exact q) fun d xs q => by rw [upd_ne (nH q)]; exact q
end
section
variable {X : Cx} {x n : Str} {c : Value} {i : Nat} {body suite : List Stmt} {b₀ : Stmt} {np pos pos' : Pos} {tb : WX → TS} {ts : Addr → Value → Option Addr → TS} {Wout : WX}
theorem ps_try_trk (hs : X.stack = X.env :: X.outer) (hf : X.env.frame = some X.env.locals) (hex : X.ex = []) (hN : X.N.Nodup) (hi : X.N[i]? = some n) (hln : X.env.kindOf n = some .local) (hc : Names X x c) (tk : Takes X Wout)
    (hb : ∀ (W : WX) (pn : List (Addr × Obj)) (xe : Value → Shared → Prop), Takes (X.tr pn xe) W → PassesOwn (model X.prog X.w) X.A X.env xe → PSs (X.tr pn xe) body (tb W))
    (hsu : ∀ (a : Addr) (oe : Obj) (cls : Value) (d : Option Addr) (pn : List (Addr × Obj)), Zc cls d oe → (∃ vs, oe.data = .fields vs) → PSs (X.suite a ((a, oe) :: pn)) (b₀ :: suite) (ts a cls d)) :
    PS X (.Try body [.ExceptHandler (some (.Name x np)) (some n) (b₀ :: suite) pos'] [] [] pos) (fun D σ H => tb (wTrk X.K c i ts Wout D) D σ H) := by
  refine ⟨fun pins s σ H D I h => ?_⟩
  have ok := I.ok
  have hfr : X.A.frames = some (X.env :: X.outer) := by rw [ok.frames, hs]
  have hloc : Loc X.env.scope n := .inl hln
  refine wpAny_Try_except ?_
  refine wpAny_mono ((hb (wTrk X.K c i ts Wout D) (X.pn ++ pins) (fun e s₁ => wpAny (model X.prog X.w) X.A (noteFrame e X.env) (fun _ s₂ => wpAny (model X.prog X.w) X.A (setFlight e none) (fun _ s₃ =>
    wpAny (model X.prog X.w) X.A (handleBy e X.env [.ExceptHandler (some (.Name x np)) (some n) (b₀ :: suite) pos']) (SP X pins D) X.xe s₃) X.xe s₂) X.xe s₁) (fun u s' xx => ?_) PassesOwn.looking).run [] s σ H D (I.toTry _) h) (fun f s1 hsp => ?_) (fun e s1 he => he)
  · obtain ⟨a, B, sI, pins', σ', H', cls, d, rfl, J', nb, up, sky, na, os, ag, b, hb1, hyes, hno⟩ := xx
    have J : Inv X pins σ' H' sI := J'.ofTry ok
    have sky' : Sky B (X.env :: X.outer) a (Zc cls d) X.env.locals s'.heap := by rw [← hs]; exact sky
    show wpAny (model X.prog X.w) X.A (noteFrame (.ref a) X.env) _ _ _
    refine Sky.land Zc.steady hfr hf sky' fun h3 fl3 up3 => ?_
    have J3 : Inv X pins σ' H' { s' with heap := h3 } := J.landed nb fl3.1 (up.trans up3) os ag
    obtain ⟨oe3, vs3, he3, hz3, hd3⟩ := fl3.there
    have notFr : ∀ {h : Heap} {o : Obj} {vs : Array Value}, h.FunFrames B (X.env :: X.outer) → h.get? a = some o → o.data = .fields vs → a ∉ frs (X.env :: X.outer) := fun {h o vs} ff e dd hm => by
      obtain ⟨_, o', e', hnf⟩ := ff.mem hm
      rw [e] at e'; cases e'
      exact hnf _ dd
    have nfr := notFr fl3.2.2.1 he3 hd3
    have nL : a ≠ X.env.locals := fun z => nfr (List.mem_filterMap.mpr ⟨X.env, List.mem_cons_self, by rw [hf, z]⟩)
    have nF : a ∉ X.fs := fun hm => by
      obtain ⟨e, he, q⟩ := List.mem_filterMap.mp hm
      exact nfr (List.mem_filterMap.mpr ⟨e, List.mem_cons_of_mem _ he, q⟩)
    have notI : ∀ o, sI.heap.get? a ≠ some o := fun o e => by
      have := nb a o e (by rw [hs]; exact nfr)
      rw [fl3.2.1] at this; cases this
    have fresh : X.s_0.heap.get? a = none := by
      cases q : X.s_0.heap.get? a with
      | none => rfl
      | some o =>
        obtain ⟨o', e'⟩ := J.base.there a o q (by rw [hex]; simp)
        exact (notI o' e').elim
    have npin : ∀ p ∈ X.pn ++ pins, p.1 ≠ a := fun p hp z => notI p.2 (by have := (J.pin p hp).1; rw [z] at this; exact this)
    have S3 := J3.suite he3 hd3 na nL nF
    refine wpAny_handleBy_cons (codeAny_handlers_test ?_) (by intro q; cases q)
    have LT : PySem.W.Looks (model X.prog X.w) h3 (typeOf (.ref a)) cls := fun A Q E s k q => wpAny_typeOf_ref (k _ _ he3) (by rw [hz3.1]; exact q)
    have LM := PySem.W.exm_one (M := model X.prog X.w) (J3.kIn) LT hb1
    have test : ∀ {Q : Value → Shared → Prop} {E : Value → Shared → Prop}, Q c { s' with heap := h3 } → wpAny (model X.prog X.w) (X.A.mark (some (.ref a))) (eval (.Name x np) X.env) Q E { s' with heap := h3 } := fun {Q E} q => by
      obtain ⟨hg, hdbg, hm | ⟨hm, hv, hnn⟩⟩ := hc
      · exact ld_glob (X := X.suite a ((a, oe3) :: (X.pn ++ pins))) S3 hg hm q hdbg
      · exact ld_blt (X := X.suite a ((a, oe3) :: (X.pn ++ pins))) S3 hg hm hv q hnn hdbg
    refine test (LM.here ?_)
    cases b with
    | true =>
      obtain ⟨C, eC, hyes⟩ := hyes rfl
      subst eC
      refine codeAny_handlers_suite_as ?_
      refine HandSPX.lands_againZ fl3 fun h4 fl4 up4 => ?_
      have J4 : Inv X pins σ' H' { s' with heap := h4 } := J.landed nb fl4.1 ((up.trans up3).trans up4) os ag
      obtain ⟨oe4, vs4, he4, hz4, hd4⟩ := fl4.there
      have S4 := J4.suite he4 hd4 na nL nF
      refine store_ok (X := X.suite a ((a, oe4) :: (X.pn ++ pins))) (v := .ref a) S4 hN hi hloc rfl (fun s5 S5 => ?_) (.inr hln)
      refine wpAny_mono ((hsu a oe4 (.ref C) d (X.pn ++ pins) hz4 ⟨_, hd4⟩).run [] s5 _ H' _ S5 (hyes a na)) (fun f s6 hsp => ?_) (fun _ _ z => False.elim z)
      have end_ : ∀ {σ6 : L2.St} {H6 : Hp} {Q : Shared → Prop}, Inv (X.suite a ((a, oe4) :: (X.pn ++ pins))) [] σ6 H6 s6 → (∀ s7, Inv X pins (σ6.set i none) (upd H6 a (exq a C d)) s7 → Q s7) →
          wpAny (model X.prog X.w) X.A (do bindName X.env n .none; unbindBehindTheSuite X.env n pos') (fun _ s7 => Q s7) X.xe s6 := fun {σ6 H6 Q} S6 hq => gone_ok (inv_unsuite S6 ok) hN hi hln fun s7 J7 => hq s7 (inv_track J7 fresh hd4 hz4 npin)
      cases f with
      | next =>
        obtain ⟨σ6, H6, S6, q6⟩ := hsp
        exact end_ S6 fun s7 J7 => ⟨_, _, J7, q6⟩
      | brk =>
        obtain ⟨σ6, H6, S6, q6⟩ := hsp
        exact end_ S6 fun s7 J7 => ⟨_, _, J7, q6⟩
      | cont =>
        obtain ⟨σ6, H6, S6, q6⟩ := hsp
        exact end_ S6 fun s7 J7 => ⟨_, _, J7, q6⟩
      | ret u =>
        obtain ⟨v6, σ6, H6, S6, r6, q6⟩ := hsp
        exact end_ S6 fun s7 J7 => ⟨_, _, _, J7, r6, q6⟩
    | false =>
      show wpAny _ X.A (handleBy (.ref a) X.env []) _ _ _
      refine wpAny_handleBy_nil ?_
      obtain ⟨k1, k2, k3, oe, vs, T, oT, ts', he, hz, hd, h1, hr⟩ := id fl3
      unfold PySem.passOn
      refine wpAny_bind (wpAny_field he hd h1 ?_)
      rw [if_neg (show ¬ ((Value.ref T == Value.none) = true) from by simp)]
      have fin : wpAny (model X.prog X.w) X.A (setFlight (.ref a) X.env.frame) (fun _ s4 => wpAny (model X.prog X.w) X.A (throw (.ref a) : Sem Flow) (SP X pins D) X.xe s4) X.xe { s' with heap := h3 } := by
        rw [hf]
        refine HandSPX.setFlight_upZ fl3 fun h4 hh4 up4 => wpAny_throw (tk _ _ ?_)
        exact ⟨a, B, sI, pins, σ', H', cls, d, rfl, J, nb, (up.trans up3).trans up4, .inr (.inr (by rw [hs]; exact hh4)), na, os, ag, hno rfl⟩
      first
        | exact wpAny_bind (wpAny_pure (wpAny_bind fin))
        | exact wpAny_bind fin
  · cases f with
    | next =>
      obtain ⟨σ', H', J', q⟩ := hsp
      exact wpAny_execs_nil ⟨σ', H', J'.ofTry ok, q⟩
    | brk =>
      obtain ⟨σ', H', J', q⟩ := hsp
      exact ⟨σ', H', J'.ofTry ok, q⟩
    | cont =>
      obtain ⟨σ', H', J', q⟩ := hsp
      exact ⟨σ', H', J'.ofTry ok, q⟩
    | ret u =>
      obtain ⟨v, σ', H', J', r, q⟩ := hsp
      exact ⟨v, σ', H', J'.ofTry ok, r, q⟩
end
end DS
namespace DS
open PySem PySem.Spec PyProof.Rows L2 LamX
section
variable {X : Cx} {pins : List (Addr × Obj)} {σ : L2.St} {H HZ : Hp} {s s1 : Shared}
/-- x(), in the def that got the lambda -/
theorem pe_actS {CXg : CXT} {Eg : XK} {Ng : List Str} {qg : Str} {sg : Scope} {g f c' : Addr} {cdg pm ctv : Value} {params : Arguments} {body : Expr} {scope : Scope} {k i : Nat} {a : Str} {pn : List (Addr × Obj)} {xe : Value → Shared → Prop} {W : WX} {tb : XK → TE} {p1 p2 : Pos}
    (I : Inv X pins σ H s) (L : LamS X.env.scope scope) (hf : s.heap.get? f = some (PySem.W.kla_obj "<lambda>" (X.env.qual ++ "<lambda>") params body scope (cloFrom X.env.cells scope.names []) pm c' ctv)) (hfn : H f = none) (hfr : f ∉ frs X.stack)
    (hbind : bindArgs (PySem.W.kla_fn "<lambda>" (X.env.qual ++ "<lambda>") params body scope (cloFrom X.env.cells scope.names []) pm (.ref c') ctv) ⟨[], []⟩ = pure [])
    (tk : Takes ((cxOf CXg X.prog X.w X.K X.mg X.base Ng qg sg g cdg X.A X.stack s H Eg).tr pn xe) W) (hr : Room (k + 1) (X.A.deeper (envOfC qg sg s.heap.objs.size g cdg)))
    (hbody : ∀ (A : Around) (outer : List Env) (s : Shared) (H : Hp) (E : XK), A.guards = X.A.guards → Room k (A.deeper (lamEnv X scope s.heap.objs.size f c')) → PE (lamCx X A outer s H E scope f c') body (tb E))
    (hN : Ng[i]? = some a) (hv : Vis sg a) (hd : (a == ("__debug__" : Str)) = false := by decide) (hcd : (a == ("__classdict__" : Str)) = false := by decide) :
    PE ((cxOf CXg X.prog X.w X.K X.mg X.base Ng qg sg g cdg X.A X.stack s H Eg).tr pn xe) (.Call (.Name a p1) [] [] p2)
      (fun σZ HZ Q => σZ[i]? = some (some (.ref f)) ∧ HZ c' = some (CodeO c' (X.env.qual ++ "<lambda>")) ∧ ∃ E : XK, (∀ cls d H', E cls d H' → W cls d σZ H') ∧ tb E σ HZ Q) := by
  refine ⟨fun pinsZ sZ σZ HZ Q IZ h => ?_⟩
  obtain ⟨hs, hc, E, hW, ht⟩ := h
  refine wpAny_Call_Name_kw (thn ((pe_var (pos := p1) (i := i) hN hv hd hcd).run pinsZ sZ σZ HZ (fun v H1 => v = .ref f ∧ H1 = HZ) IZ ⟨.ref f, hs, rfl, rfl⟩) fun u s1 ⟨v, H1, I1, r1, q1⟩ => ?_)
  obtain ⟨ev, eH⟩ := q1
  subst ev
  rw [eH] at I1
  obtain rfl : u = Value.ref f := r1
  have of1 : s1.heap.get? f = some (PySem.W.kla_obj "<lambda>" (X.env.qual ++ "<lambda>") params body scope (cloFrom X.env.cells scope.names []) pm c' ctv) := I1.base.keep f _ hf hfn hfr (fun z => nomatch (show f ∈ ([] : List Addr) from z))
  refine PySem.W.callWith_F0 ⟨_, _, _, _, of1⟩ ?_
  have un : Un (frs X.stack) [] H HZ s.heap s1.heap := I1.base
  obtain ⟨⟨oc, vs, t, hoc, hdc, hvc⟩, _, _⟩ := I1.hok c' _ hc
  have rc : codeAny (model X.prog X.w) (X.A.deeper (envOfC qg sg s.heap.objs.size g cdg)) (.call (.ref f) ⟨[], []⟩) (CR (L2.CX X.prog X.w) (envOfC qg sg s.heap.objs.size g cdg :: X.stack) X.prog X.w HZ s1 Q E) s1 := by
    refine PySem.W.kla_callFunE hr.depth of1 rfl L.co L.gen rfl ⟨c', oc, vs, t, rfl, hoc, hdc, hvc⟩ ?_
    rw [hbind]
    refine wpAny_pure (wpAny_newFunctionEnv (fun y hy => (L.own y hy).2) (fun y hy => absurd hy (by simp)) (fun h₁ hns hsb => ⟨I1.nolimit.fresh _ hsb, ?_⟩) L.kind)
    show codeAny _ _ (.expr body (lamEnv X scope s1.heap.objs.size f c')) _ _
    have kp : ∀ b o, s1.heap.get? b = some o → h₁.get? b = some o := fun b o e => hsb.extBut b o (Nat.ne_of_lt (Heap.lt_size e)) (Heap.get?_push_of_some _ e)
    have J : Inv (lamCx X (X.A.deeper (envOfC qg sg s.heap.objs.size g cdg)) (envOfC qg sg s.heap.objs.size g cdg :: X.stack) s1 HZ E scope f c') [] σ HZ { s1 with heap := h₁, toks := s1.toks + ([] : List (Str × Value)).length } :=
      lam_start2 I L I1.env0 hr.hd un hns kp
    refine PySem.W.kla_codeExpr (wpAny_mono ((hbody (X.A.deeper (envOfC qg sg s.heap.objs.size g cdg)) _ s1 HZ E rfl (hr.deeper _)).run [] _ _ HZ Q J ht) (fun v s' hq => ?_) fun e s' hq => hq)
    obtain ⟨w', H', J', rv, q⟩ := hq
    exact ⟨w', H', J'.os, J'.bare, J'.base, J'.hok, rv, q⟩
  refine wpAny_call (codeAny_mono rc fun r s' hq => ?_)
  cases r with
  | error e => exact tk e s' (XE.of_call I1 hW hq)
  | ok fl =>
    cases fl with
    | ret u => exact I1.after hq
    | next => exact False.elim hq
    | brk => exact False.elim hq
    | cont => exact False.elim hq
/-- the lambda's code object at c' is the table's, or new and now in the table -/
def MadeC (H : Hp) (P : Addr) (q : Str) (c' : Addr) (H1 : Hp) : Prop := (H1 = H ∧ ∃ (ps : Array Value) (pos : Pos), H P = some (.tbl ps) ∧ codeAmong pos ps.toList = some (.ref c')) ∨
  ∃ ps more, H P = some (.tbl ps) ∧ H c' = none ∧ H1 = upd (upd H P (.tbl (ps ++ more))) c' (CodeO c' q) ∧ TriplesOk (ps ++ more).toList ∧ ∀ (pos : Pos) (cv : Value), codeAmong pos (ps ++ more).toList = some cv → codeAmong pos ps.toList = some cv ∨ cv = .ref c'
/-- the lambda is made; its address is new -/
theorem lam_make4 {c P : Addr} {q : Str} {params : Arguments} {body : Expr} {scope : Scope} {pos : Pos} {ps : Array Value} {E : Value → Shared → Prop} {Q : Value → Shared → Prop} (I : Inv X pins σ H s) (TB : LamX.TabB X.base X.mg c P) (hcode : X.env.code = .ref c)
    (hq : q = X.env.qual ++ "<lambda>") (hP : H P = some (.tbl ps)) (ht : TriplesOk ps.toList) (ha : ∀ (pos : Pos) (cv : Value), codeAmong pos ps.toList = some cv → ∃ c, cv = .ref c ∧ H c = some (LamX.CodeO c q))
    (hdef : defaultsOf params X.env = ([], [])) (hfree : ∀ y ∈ scope.names, y.2 = .free → ∃ c, X.env.cells.lookup y.1 = some c)
    (h : ∀ (f c' : Addr) (pm ctv : Value) (H1 : Hp) (s' : Shared), Inv X pins σ H1 s' → MadeC H P q c' H1 → H1 f = none → f ∉ frs X.stack →
      s'.heap.get? f = some (PySem.W.kla_obj "<lambda>" q params body scope (cloFrom X.env.cells scope.names []) pm c' ctv) → H1 c' = some (LamX.CodeO c' q) → Q (.ref f) s') :
    wpAny (model X.prog X.w) X.A (eval (.Lambda params body scope pos) X.env) Q E s := by
  subst hq
  refine PySem.W.kla_eval hdef ?_
  have bP : s.heap.BuiltinsAt X.mg P := TB.bm.keeps I.bk
  have hP' : s.heap.get? P = some { cls := .none, data := .fields ps } := I.hok P _ hP
  have nofr : ∀ f, s.heap.objs.size ≤ f → f ∉ frs X.stack := fun f hf z => by
    rcases List.mem_cons.mp (I.stkSub _ z) with e | e
    · have h1 := I.lt
      rw [← e] at h1
      exact Nat.lt_irrefl _ (Nat.lt_of_lt_of_le h1 hf)
    · exact I.nofs hf e
  cases hc : codeAmong pos ps.toList with
  | none =>
    refine PySem.W.kla_makeFunction (mg := X.mg) (c := c) (P := P) (ps := ps) (closure_ok hfree) I.ok.glob (I.mod.glob.keeps I.bk) hcode (TB.code.keeps I.bk) hP' ht hc TB.gP bP fun c' ctv h' tk hx hge hlt hrec htb => ?_
    obtain ⟨c2, oc, vs, t, e2, hoc, hd, hv⟩ := hrec
    cases e2
    have nC : H c' = none := I.hok.fresh hge
    have hsz : s.heap.objs.size ≤ h'.objs.size := Nat.le_trans hge (Nat.le_of_lt hlt)
    have I1 := LamX.inv_table (t' := tk) (more := #[rawInt pos.line, rawInt pos.col, .ref c']) (h' := h'.push (PySem.W.kla_obj "<lambda>" (X.env.qual ++ "<lambda>") params body scope (cloFrom X.env.cells scope.names []) ((X.mg "__name__").getD .none) c' ctv)) I hP
      (fun b o hb e => Heap.get?_push_of_some _ (hx b o hb e)) (Heap.get?_push_of_some _ htb) hge ⟨oc, vs, t, Heap.get?_push_of_some _ hoc, hd, hv⟩
    have eL : (ps ++ #[rawInt pos.line, rawInt pos.col, .ref c']).toList = ps.toList ++ [rawInt pos.line, rawInt pos.col, .ref c'] := by simp
    refine h h'.objs.size c' ((X.mg "__name__").getD .none) ctv _ _ I1 (.inr ⟨ps, _, hP, nC, rfl, by rw [eL]; exact PySem.TriplesOk_snoc _ _ _ _ ht, fun p' cv hcv => ?_⟩) ?_ (nofr _ hsz) (Heap.get?_push_size _ rfl) upd_same
    · rw [eL] at hcv
      exact LamX.among_app _ ht hcv
    · have n1 : h'.objs.size ≠ c' := Nat.ne_of_gt hlt
      have n2 : h'.objs.size ≠ P := Nat.ne_of_gt (Nat.lt_of_lt_of_le (Heap.lt_size hP') hsz)
      rw [upd_ne n1, upd_ne n2]
      exact I.hok.fresh hsz
  | some cv =>
    obtain ⟨c', e, hco⟩ := ha pos cv hc
    subst e
    refine PySem.W.kla_makeFunctionHit (mg := X.mg) (c := c) (P := P) (ps := ps) (closure_ok hfree) I.ok.glob (I.mod.glob.keeps I.bk) hcode (TB.code.keeps I.bk) hP' ht hc bP fun ctv h' tk hx hsz => ?_
    have I1 : Inv X pins σ H { s with heap := h'.push (PySem.W.kla_obj "<lambda>" (X.env.qual ++ "<lambda>") params body scope (cloFrom X.env.cells scope.names []) ((X.mg "__name__").getD .none) c' ctv), toks := tk } := I.kept fun b o e => Heap.get?_push_of_some _ (hx b o e)
    exact h h'.objs.size c' ((X.mg "__name__").getD .none) ctv H _ I1 (.inl ⟨rfl, ps, pos, hP, hc⟩) (I.hok.fresh hsz) (nofr _ hsz) (Heap.get?_push_size _ rfl) hco
end
/-- the def g that calls what it got (its first parameter a): TT: what it makes of the lambda's reading -/
def GivesS (X : Cx) (Ng : List Str) (x : Str) (sg : Scope) (g : Addr) (cdg : Value) (bg : List Stmt) (a : Str) (q : Str) (TT : Addr → Addr → (XK → Hp → VK → Prop) → Hp → VK → Prop) : Prop :=
  ∀ (f c' : Addr) (s : Shared) (H : Hp) (Q : VK) (tl : XK → Hp → VK → Prop),
    (∀ (W : WX) (pn : List (Addr × Obj)) (xe : Value → Shared → Prop) (p1 p2 : Pos), Takes ((cxOf C8.CX0 X.prog X.w X.K X.mg X.base Ng x sg g cdg X.A X.stack s H C8.E0).tr pn xe) W →
      PE ((cxOf C8.CX0 X.prog X.w X.K X.mg X.base Ng x sg g cdg X.A X.stack s H C8.E0).tr pn xe) (.Call (.Name a p1) [] [] p2) (fun σZ HZ Q => σZ[0]? = some (some (.ref f)) ∧ HZ c' = some (CodeO c' q) ∧ ∃ E : XK, (∀ cls d H', E cls d H' → W cls d σZ H') ∧ tl E HZ Q)) →
    H c' = some (CodeO c' q) → TT f c' tl H Q →
    ∃ t, PSs (cxOf C8.CX0 X.prog X.w X.K X.mg X.base Ng x sg g cdg X.A X.stack s H C8.E0).nox bg t ∧ t { nx := fun _ H' => Q .non H', rt := Q } (L2.start Ng [.ref f]) H
def tLamS (K : PySem.W.Frag) (y q : Str) (TT : Addr → Addr → (XK → Hp → VK → Prop) → Hp → VK → Prop) (t : XK → TE) : TE := fun σ H Q => ∃ (P : Addr) (ps : Array Value), TabAt K y P ∧ H P = some (.tbl ps) ∧ TriplesOk ps.toList ∧
  (∀ (pos : Pos) (cv : Value), codeAmong pos ps.toList = some cv → ∃ c, cv = .ref c ∧ H c = some (LamX.CodeO c q)) ∧
  ∀ (f c' : Addr) (H1 : Hp), MadeC H P q c' H1 → H1 f = none → H1 c' = some (LamX.CodeO c' q) → TT f c' (fun E H' Q' => t E σ H' Q') H1 Q
section
variable {X : Cx}
/-- x(lambda: body), in the def named y -/
theorem pe_lamcallS {TT : Addr → Addr → (XK → Hp → VK → Prop) → Hp → VK → Prop} {x a y q : Str} {g : Addr} {k : Nat} {pg : Arguments} {bg : List Stmt} {sg : Scope} {dV kV doc pm cdv ct oc : Value} {an od : Option Addr} {osl : Array (Option Value)} {Ng : List Str}
    {params : Arguments} {body : Expr} {scope : Scope} {t : XK → TE} {p lpos pos : Pos} (hbm : BM X.base X.mg) (hw : OwnC X y) (hq : q = X.env.qual ++ "<lambda>") (hg : Gl X x) (hm : X.mg x = some (.ref g)) (hk : PySem.W.keepIn X.K (.ref g) = true)
    (lk : X.K.lookup g = some ⟨oc, od, .func (PySem.W.fnOf x x pg bg sg dV kV doc pm an cdv ct), osl⟩) (hcg : PySem.W.codeIn X.K cdv x = true) (hb : L2.Binds X.K (PySem.W.fnOf x x pg bg sg dV kV doc pm an cdv ct) [a] []) (Sg : FnScope Ng [a] sg) (hNg : Ng[0]? = some a) (hva : Vis sg a)
    (hG : GivesS X Ng x sg g cdv bg a q TT)
    (hr : Room (k + 2) X.A) (L : LamS X.env.scope scope) (hdef : defaultsOf params X.env = ([], []))
    (hbind : ∀ (q : Str) (cl : List (Str × Addr)) (pm cv ctv : Value), bindArgs (PySem.W.kla_fn "<lambda>" q params body scope cl pm cv ctv) ⟨[], []⟩ = pure [])
    (hbody : ∀ (A : Around) (outer : List Env) (s : Shared) (H : Hp) (E : XK) (f c' : Addr), A.guards = X.A.guards → Room k (A.deeper (lamEnv X scope s.heap.objs.size f c')) → PE (lamCx X A outer s H E scope f c') body (t E))
    (hdb : (x == ("__debug__" : Str)) = false := by decide) (hd : (a == ("__debug__" : Str)) = false := by decide) (hcd : (a == ("__classdict__" : Str)) = false := by decide) :
    PE X (.Call (.Name x p) [.Lambda params body scope lpos] [] pos) (tLamS X.K y q TT t) := by
  refine ⟨fun pins s σ H Q I h => ?_⟩
  obtain ⟨P, ps, hTA, hP, ht, ha, h⟩ := h
  obtain ⟨c, hcode, TB⟩ := tabB_of I hbm hw hTA hP
  refine wpAny_Call_Name_kw (ld_glob I hg hm ?_ hdb)
  refine PySem.W.callWith_K (h₀ := X.base) I.ok.mod.kin hk ?_ (by rfl) (by rfl)
  show wpAny _ _ (spliced ((false, eval (.Lambda params body scope lpos) X.env) :: backTo pos (starEach [] X.env))) _ _ s
  refine Calls.spliced_cons (lam_make4 I TB hcode hq hP ht ha hdef (L.has I.ok) fun f c' pm' ctv H1 s' I1 made hfn hfr hf hco => ?_)
  refine Calls.spliced_nil ⟨I1.kIn, ?_⟩
  subst hq
  have rc : codeAny (model X.prog X.w) X.A (.call (.ref g) ⟨[.ref f], []⟩) (CR C8.CX0 X.stack X.prog X.w H1 s' Q C8.E0) s' := by
    refine run_ofS (N := Ng) (ps := [a]) (us := [.ref f]) (vs := [.ref f]) lk hcg Sg hr I1.env0 (hb s' [.ref f] I1.kIn rfl) (.cons rfl .nil) rfl fun hr' => ?_
    obtain ⟨t', ht', hq'⟩ := hG f c' s' H1 Q (fun E H' Q' => t E σ H' Q') (fun W pn xe p1 p2 tk => pe_actS (i := 0) I1 L hf hfn hfr (hbind _ _ _ _ _) tk hr' (fun A outer s H E hgd hr2 => hbody A outer s H E f c' hgd hr2) hNg hva hd hcd) hco (h f c' H1 made hfn hco)
    exact ⟨t', ht'.nox, hq'⟩
  refine wpAny_call (codeAny_mono rc fun r s2 hq => ?_)
  cases r with
  | error e => exact (show False from hq).elim
  | ok fl =>
    cases fl with
    | ret u => exact I1.after hq
    | next => exact False.elim hq
    | brk => exact False.elim hq
    | cont => exact False.elim hq
end
end DS
namespace DS
open PySem PySem.Spec PyProof.Rows L2
/-- the wish for errors: the class by its name, the fields -/
abbrev DXX := Str → List (Str × SD) → Mu → Prop
abbrev DSpX := List SD → Mu → (SD → Mu → Prop) → DXX → Prop
abbrev HInv := Hp → Hp → Mu → Prop
def Grows (An : HInv) : Prop := ∀ F H μ F' H' μ', An F H μ → Stp F H μ F' H' μ' → An F' H' μ'
theorem grows_stp (F H : Hp) (μ : Mu) : Grows (Stp F H μ) := fun _ _ _ _ _ _ a b => a.trans b
/-- the own dict of an error, known for good -/
def XRepF (K : PySem.W.Frag) (F : Hp) (od : Option Addr) (fs : List (Str × SD)) : Prop :=
  (od = none ∧ fs = []) ∨ ∃ d vs, od = some d ∧ F d = some (.xd vs) ∧ vs.map (·.1) = fs.map (·.1) ∧ RepL K F (fs.map (·.2)) (vs.map (·.2))
/-- an error in the air, told in data -/
def EX (K : PySem.W.Frag) (An : HInv) (Ex : DXX) : XK := fun cls od H => ∃ F μ C x fs, cls = .ref C ∧ An F H μ ∧ HReal K F H μ ∧ XcK K x C (fs.map (·.1)) ∧ XRepF K F od fs ∧ Ex x fs μ
def LSpX (K : PySem.W.Frag) (sp : DSpX) : Sp := fun vs H Q E => ∃ F μ ds Q' E', HReal K F H μ ∧ RepL K F ds vs ∧ sp ds μ Q' E' ∧
  (∀ d μ', Q' d μ' → ∀ F' H' v, Stp F H μ F' H' μ' → HReal K F' H' μ' → RepS K F' d v → Q v H') ∧ ∀ cls od H', EX K (Stp F H μ) E' cls od H' → E cls od H'
theorem EX.mono {K : PySem.W.Frag} {An An' : HInv} {Ex : DXX} {cls : Value} {od : Option Addr} {H : Hp} (h : EX K An Ex cls od H) (k : ∀ F H μ, An F H μ → An' F H μ) : EX K An' Ex cls od H := by
  obtain ⟨F, μ, C, x, fs, e, a, r⟩ := h
  exact ⟨F, μ, C, x, fs, e, k _ _ _ a, r⟩
def LEA (K : PySem.W.Frag) (An : HInv) (t : DTE) : TE := fun σ H Q => ∃ F ρ μ Q', HReal K F H μ ∧ Slots K F σ ρ ∧ An F H μ ∧ t ρ μ Q' ∧
  ∀ d μ', Q' d μ' → ∀ F' H' v, Stp F H μ F' H' μ' → HReal K F' H' μ' → RepS K F' d v → Q v H'
def LTA (K : PySem.W.Frag) (An : HInv) (t : DTT) : TT := fun σ H Q => ∃ F ρ μ Q', HReal K F H μ ∧ Slots K F σ ρ ∧ An F H μ ∧ t ρ μ Q' ∧
  ∀ b μ', Q' b μ' → ∀ F' H', Stp F H μ F' H' μ' → HReal K F' H' μ' → Q b H'
def LAA (K : PySem.W.Frag) (An : HInv) (t : DTA) : TA := fun σ H Q => ∃ F ρ μ Q', HReal K F H μ ∧ Slots K F σ ρ ∧ An F H μ ∧ t ρ μ Q' ∧
  ∀ ds μ', Q' ds μ' → ∀ F' H' vs, Stp F H μ F' H' μ' → HReal K F' H' μ' → RepL K F' ds vs → Q vs H'
def LSA (K : PySem.W.Frag) (An : HInv) (t : DTS) : TS := fun D σ H => ∃ F ρ μ D', HReal K F H μ ∧ Slots K F σ ρ ∧ An F H μ ∧ t D' ρ μ ∧
  (∀ ρ' μ', D'.nx ρ' μ' → ∀ F' H' σ', Stp F H μ F' H' μ' → HReal K F' H' μ' → Slots K F' σ' ρ' → D.nx σ' H') ∧
  (∀ d μ', D'.rt d μ' → ∀ F' H' v, Stp F H μ F' H' μ' → HReal K F' H' μ' → RepS K F' d v → D.rt v H') ∧
  (∀ ρ' μ', D'.bk ρ' μ' → ∀ F' H' σ', Stp F H μ F' H' μ' → HReal K F' H' μ' → Slots K F' σ' ρ' → D.bk σ' H') ∧
  (∀ ρ' μ', D'.ct ρ' μ' → ∀ F' H' σ', Stp F H μ F' H' μ' → HReal K F' H' μ' → Slots K F' σ' ρ' → D.ct σ' H')
abbrev EA (An : HInv) (X : Cx) (e : Expr) (t : DTE) : Prop := PE X e (LEA X.K An t)
abbrev TA_ (An : HInv) (X : Cx) (e : Expr) (t : DTT) : Prop := PT X e (LTA X.K An t)
abbrev AA (An : HInv) (X : Cx) (es : List Expr) (t : DTA) : Prop := PA X es (LAA X.K An t)
abbrev SA (An : HInv) (X : Cx) (s : Stmt) (t : DTS) : Prop := PS X s (LSA X.K An t)
abbrev SAs (An : HInv) (X : Cx) (s : List Stmt) (t : DTS) : Prop := PSs X s (LSA X.K An t)
section
variable {An : HInv} {X : Cx} {pos p : Pos} {a b c e o iter tg : Expr} {es : List Expr} {x : Str} {st : Stmt} {rest body ss uu : List Stmt} {te ta tb : DTE} {tt : DTT} {t u : DTS} {ts : DTA}
/-- what raises nothing -/
theorem ea (h : DE X e te) : EA An X e te := weakE h fun _ _ _ ⟨F, ρ, μ, Q', R, S, _, t, k⟩ => ⟨F, ρ, μ, Q', R, S, t, k⟩
theorem ta_ (h : DT X e tt) : TA_ An X e tt := weakT h fun _ _ _ ⟨F, ρ, μ, Q', R, S, _, t, k⟩ => ⟨F, ρ, μ, Q', R, S, t, k⟩
theorem aa (h : DA X es ts) : AA An X es ts := weakA h fun _ _ _ ⟨F, ρ, μ, Q', R, S, _, t, k⟩ => ⟨F, ρ, μ, Q', R, S, t, k⟩
theorem sa (h : DS_ X st t) : SA An X st t := weakS h fun _ _ _ ⟨F, ρ, μ, D', R, S, _, t, k⟩ => ⟨F, ρ, μ, D', R, S, t, k⟩
theorem sas (h : DSs X body t) : SAs An X body t := weakSs h fun _ _ _ ⟨F, ρ, μ, D', R, S, _, t, k⟩ => ⟨F, ρ, μ, D', R, S, t, k⟩
theorem sas_cons (hA : Grows An) (h1 : SA An X st t) (h2 : SAs An X rest u) : SAs An X (st :: rest) (dSeq t u) := weakSs (pss_cons h1 h2) fun D σ H h => by
  obtain ⟨F, ρ, μ, D', R, S, an, t, k, k2, k3, k4⟩ := h
  exact ⟨F, ρ, μ, _, R, S, an, t, fun ρ1 μ1 t1 F1 H1 σ1 s1 R1 S1 => ⟨F1, ρ1, μ1, D', R1, S1, hA _ _ _ _ _ _ an s1, t1, fun ρ' μ' q F' H' σ' s => k ρ' μ' q F' H' σ' (s1.trans s), fun d μ' q F' H' v s => k2 d μ' q F' H' v (s1.trans s),
    fun ρ' μ' q F' H' σ' s => k3 ρ' μ' q F' H' σ' (s1.trans s), fun ρ' μ' q F' H' σ' s => k4 ρ' μ' q F' H' σ' (s1.trans s)⟩, k2, k3, k4⟩
theorem sas_one (h1 : SA An X st t) : SAs An X [st] t := pss_one h1
theorem sa_if (hA : Grows An) (hc : TA_ An X c tt) (ha : SAs An X ss t) (hb : SAs An X uu u) : SA An X (.If c ss uu pos) (dIfS tt t u) := weakS (ps_if hc ha hb) fun D σ H h => by
  obtain ⟨F, ρ, μ, D', R, S, an, t, k, k2, k3, k4⟩ := h
  refine ⟨F, ρ, μ, _, R, S, an, t, fun d μ1 t1 F1 H1 s1 R1 => ?_⟩
  cases d with
  | true => exact ⟨F1, ρ, μ1, D', R1, S.mono s1.ext, hA _ _ _ _ _ _ an s1, t1, fun ρ' μ' q F' H' σ' s => k ρ' μ' q F' H' σ' (s1.trans s), fun d μ' q F' H' v s => k2 d μ' q F' H' v (s1.trans s),
    fun ρ' μ' q F' H' σ' s => k3 ρ' μ' q F' H' σ' (s1.trans s), fun ρ' μ' q F' H' σ' s => k4 ρ' μ' q F' H' σ' (s1.trans s)⟩
  | false => exact ⟨F1, ρ, μ1, D', R1, S.mono s1.ext, hA _ _ _ _ _ _ an s1, t1, fun ρ' μ' q F' H' σ' s => k ρ' μ' q F' H' σ' (s1.trans s), fun d μ' q F' H' v s => k2 d μ' q F' H' v (s1.trans s),
    fun ρ' μ' q F' H' σ' s => k3 ρ' μ' q F' H' σ' (s1.trans s), fun ρ' μ' q F' H' σ' s => k4 ρ' μ' q F' H' σ' (s1.trans s)⟩
theorem sa_ret (he : EA An X e te) : SA An X (.Return (some e) pos) (dRet te) := weakS (ps_ret he) fun D σ H h => by
  obtain ⟨F, ρ, μ, D', R, S, an, t, _, k, _⟩ := h
  exact ⟨F, ρ, μ, _, R, S, an, t, k⟩
theorem sa_for {wi : DTI} {g : DTG} (hA : Grows An) (hp : PassesOwn (model X.prog X.w) X.A X.env X.xe) (hc : X.calm = true) (hi : DI X tg iter wi) (hg : DG X tg g) (hb : SAs An X body t)
    (hs : ∀ x, foldedSetIterable iter X.env x = pure x := by intro _; rfl) : SA An X (.For tg iter body [] pos) (dFor wi g t) := weakS (ps_for hp hc hi hg hb hs) fun D σ H h => by
  obtain ⟨F0, ρ0, μ0, D', R0, S0, an, t, k, k2, k3, k4⟩ := h
  refine ⟨F0, ρ0, μ0, _, R0, S0, t, fun ds ok μ1 t1 F1 H1 J s1 R1 src => ?_⟩
  obtain ⟨W, w0, hok, turn, fin⟩ := t1
  refine ⟨fun i m σ' H' => i + m = ds.length ∧ ∃ F ρ μ, Stp F1 H1 μ1 F H' μ ∧ HReal X.K F H' μ ∧ Slots X.K F σ' ρ ∧ W i ρ μ, ⟨ds.length, by omega, F1, ρ0, μ1, Stp.refl _ _ _, R1, S0.mono s1.ext, w0⟩, ?_⟩
  rintro i m σ' H' ⟨him, F, ρ, μ, s, R, S, w⟩
  have hle : i ≤ ds.length := by omega
  by_cases hi : i < ds.length
  · refine .inr ⟨src.go i F H' μ s R (hok i ρ μ hle w) hi, fun σ2 H2 => ∃ F ρ μ, Stp F1 H1 μ1 F H2 μ ∧ HReal X.K F H2 μ ∧ Slots X.K F σ2 ρ ∧ W (i + 1) ρ μ, ?_, ?_⟩
    · rintro σ2 H2 ⟨F', ρ', μ', s', R', S', w'⟩
      exact ⟨ds.length - (i + 1), by omega, by omega, F', ρ', μ', s', R', S', w'⟩
    · intro x H2 y
      obtain ⟨F', s', R', r'⟩ := src.yld i F H' μ x H2 s R (hok i ρ μ hle w) y _ (List.getElem?_eq_getElem hi)
      refine ⟨F', ρ, μ, _, _, R', S.mono s'.ext, r', turn i _ ρ μ (List.getElem?_eq_getElem hi) w, fun ρ2 μ2 t2 F2 H3 σ2 s2 R2 S2 => ?_⟩
      refine ⟨F2, ρ2, μ2, _, R2, S2, hA _ _ _ _ _ _ an (s1.trans ((s.trans s').trans s2)), t2, ?_, ?_, ?_, ?_⟩
      · exact fun ρ' μ' q F'' H'' σ'' s'' R'' S'' => ⟨F'', ρ', μ', ((s.trans s').trans s2).trans s'', R'', S'', q⟩
      · exact fun d μ' q F'' H'' v s'' R'' r'' => k2 d μ' q F'' H'' v (s1.trans (((s.trans s').trans s2).trans s'')) R'' r''
      · exact fun ρ' μ' q F'' H'' σ'' s'' R'' S'' => k ρ' μ' q F'' H'' σ'' (s1.trans (((s.trans s').trans s2).trans s'')) R'' S''
      · exact fun ρ' μ' q F'' H'' σ'' s'' R'' S'' => ⟨F'', ρ', μ', ((s.trans s').trans s2).trans s'', R'', S'', q⟩
  · have e : i = ds.length := by omega
    subst e
    exact .inl ⟨src.stop F H' μ s R (hok _ ρ μ hle w), k ρ μ (fin ρ μ w) F H' σ' (s1.trans s) R S⟩
end
/-- C(e), about to be raised: the error is not known, its dict is -/
def tMkX (C : Addr) (f : Str) (te : TE) : L2.St → Hp → XK → Prop := fun σ H Q => te σ H fun y H1 => ∀ dx, H1 dx = none → Q (.ref C) (some dx) (upd H1 dx (.xd [(f, y)]))
section
variable {X : Cx} {x f q qual : Str} {st : Stmt} {k n : Nat} {e : Expr} {te : TE} {p pos : Pos}
theorem pmk_x {D : XDef X.K X.mg x f q qual st} (F : XIni X.prog X.w X.base D k) (hq : Quiet X.A) (hr : Room n X.A) (ha : PE X e te) (hk : k + 1 ≤ n := by omega) (hg : Gl X x := by rfl) (hdb : (x == ("__debug__" : Str)) = false := by decide)
    (he : starEach [e] X.env = (false, eval e X.env) :: starEach [] X.env := by rfl) : PMk X (.Call (.Name x p) [e] [] pos) (tMkX D.C f te) := by
  intro pins s σ H Q I h
  refine wpAny_Call_Name_kw (ld_glob I hg D.m ?_ hdb)
  refine PySem.W.callWith_K (h₀ := X.base) I.ok.mod.kin D.o.kC (thn ((pa_cons ha pa_nil he).run pos pins s σ H (fun vs H1 => match vs with | [y] => ∀ dx, H1 dx = none → Q (.ref D.C) (some dx) (upd H1 dx (.xd [(f, y)])) | _ => False) I h) fun us s1 z => ?_) he (by rfl)
  obtain ⟨vs, H1, I1, r1, q1⟩ := z
  match vs, us, r1, q1 with
  | [y], [u], .cons r0 .nil, q1 =>
    refine ⟨I1.kIn, ?_⟩
    have hr := hr.mono hk
    obtain ⟨nm, qn, N, bs, bm, sn, sub, ab, col, dd, k0, k1, k2, k3, k5, hC, hbm⟩ := D.o.cls
    obtain ⟨hp, g, dr, tk, os⟩ := s1
    have old : ∀ b o, hp.get? b = some o → ((hp.push (PySem.W.kdv_tup [u])).push (PySem.HandSPX.excO D.C hp.objs.size)).get? b = some o := fun b o e => Heap.get?_push_of_some _ (Heap.get?_push_of_some _ e)
    have new : ((hp.push (PySem.W.kdv_tup [u])).push (PySem.HandSPX.excO D.C hp.objs.size)).get? (hp.objs.size + 1) = some (PySem.HandSPX.excO D.C hp.objs.size) := by heap_get
    have na : H1 (hp.objs.size + 1) = none := I1.hok.fresh (Nat.le_succ _)
    have J := I1.laid (t' := tk) (a := hp.objs.size + 1) (o := exo (hp.objs.size + 1) D.C none) (h' := (hp.push (PySem.W.kdv_tup [u])).push (PySem.HandSPX.excO D.C hp.objs.size)) old (Nat.le_succ _) (exo_ok new)
    have want : spI D.C f [.ref (hp.objs.size + 1), y] (upd H1 (hp.objs.size + 1) (exo (hp.objs.size + 1) D.C none))
        (fun v H2 => v = .non ∧ ∃ dx, H1 dx = none ∧ dx ≠ hp.objs.size + 1 ∧ H2 = upd (upd (upd H1 (hp.objs.size + 1) (exo (hp.objs.size + 1) D.C none)) dx (exd dx [(f, y)])) (hp.objs.size + 1) (exo (hp.objs.size + 1) D.C (some dx))) E0 :=
      ⟨_, y, rfl, upd_same, fun dx n ne => ⟨rfl, dx, by rw [upd_ne ne] at n; exact n, ne, rfl⟩⟩
    have vals : Vals [V.ref (hp.objs.size + 1), y] [Value.ref (hp.objs.size + 1), u] := .cons rfl (.cons r0 .nil)
    have binds : BindsTo ⟨(hp.push (PySem.W.kdv_tup [u])).push (PySem.HandSPX.excO D.C hp.objs.size), g, dr, tk, os⟩ D.fd ⟨.ref (hp.objs.size + 1) :: [u], []⟩ ((["self", q] : List Str).zip [.ref (hp.objs.size + 1), u]) := D.b _ [_, _] J.kIn rfl
    have go := F.go (X.A.under (.builtin "type.__call__" ⟨.ref D.C :: [u], []⟩)) X.stack _ _ _ _ _ _ E0 (quiet_make hq D.C [u] []) (hr.make D.C [u] []) (J.env0.make D.C [u] []) binds vals want
    show wpAny _ _ (call (.ref D.C) [u]) _ _ _
    refine wpAny_call (PySem.HandSPX.call_own PySem.F.excBase_ValueError (fun Y => PySem.HandSPX.refsVE_contains Y bm hbm) (I1.kIn _ _ hC) (PySem.W.looks_findIn I1.kIn D.ini) (fun self => PySem.W.bind_fn I1.kIn self D.fn) (by show 1 ≤ sizeLine; decide)
      (codeAny_mono go fun r s' hq' => ?_))
    match r, hq' with
    | .error _, z => exact False.elim z
    | .ok .next, z => exact False.elim z
    | .ok .brk, z => exact False.elim z
    | .ok .cont, z => exact False.elim z
    | .ok (.ret w), z =>
      obtain ⟨v, H2, os2, bare2, un2, hok2, rv, ev, dx, nx, nex, eH⟩ := z
      subst ev
      obtain ⟨h2, g2, d2, t2, os'⟩ := s'
      have e1 : H2 (hp.objs.size + 1) = some (exo (hp.objs.size + 1) D.C (some dx)) := by rw [eH, upd_same]
      have e2 : H2 dx = some (exd dx [(f, y)]) := by rw [eH, upd_ne nex, upd_same]
      have e3 : upd (del H2 (hp.objs.size + 1)) dx (.xd [(f, y)]) = upd H1 dx (.xd [(f, y)]) := by
        funext b
        by_cases h1 : b = dx
        · rw [h1, upd_same, upd_same]
        · rw [upd_ne h1, upd_ne h1]
          by_cases h2 : b = hp.objs.size + 1
          · rw [h2, del_same, na]
          · rw [del_ne h2, eH, upd_ne h2, upd_ne h1, upd_ne h2]
      exact ⟨rv, mk_end (raises_own D.o.exC D.o.tyC) I1 (Nat.le_succ _) old un2 hok2 os2 bare2 e1 e2 nx (by rw [e3]; exact q1 dx nx)⟩
  | [], _, _, q1 => exact q1.elim
  | _ :: _ :: _, _, _, q1 => exact q1.elim
end
/-- where errors may leave: what is wished of them -/
structure Rz (An : HInv) (Ex : DXX) (X : Cx) : Prop where
  gr : Grows An
  tk : Takes X fun cls od _ H => EX X.K An Ex cls od H
theorem takes_mono {X : Cx} {W W' : WX} (t : Takes X W) (h : ∀ cls d σ H, W' cls d σ H → W cls d σ H) : Takes X W' := fun u s' z => t u s' (by
  obtain ⟨a, B, sI, pins, σ, H, cls, d, e1, e2, e3, e4, e5, e6, e7, e8, w⟩ := z
  exact ⟨a, B, sI, pins, σ, H, cls, d, e1, e2, e3, e4, e5, e6, e7, e8, h _ _ _ _ w⟩)
theorem Rz.mono {An : HInv} {Ex Ex' : DXX} {X : Cx} (R : Rz An Ex X) (h : ∀ x fs μ, Ex' x fs μ → Ex x fs μ) : Rz An Ex' X := ⟨R.gr, takes_mono R.tk fun cls d σ H z => by
  obtain ⟨F, μ, C, x, fs, e, a, r, c, o, q⟩ := z
  exact ⟨F, μ, C, x, fs, e, a, r, c, o, h _ _ _ q⟩⟩
abbrev dRaise (x f : Str) (Ex : DXX) (te : DTE) : DTS := fun _ ρ μ => te ρ μ fun d μ1 => Ex x [(f, d)] μ1
section
variable {An : HInv} {Ex : DXX} {X : Cx} {x f q qual : Str} {st : Stmt} {k n : Nat} {e : Expr} {es : List Expr} {te : DTE} {ta : DTA} {p pos cpos : Pos} {ps ks : List Str} {sp : DSpX}
theorem sa_raise {D : XDef X.K X.mg x f q qual st} (F : XIni X.prog X.w X.base D k) (hq : Quiet X.A) (hr : Room n X.A) (z : Rz An Ex X) (ha : EA An X e te) (hk : k + 1 ≤ n := by omega) (hg : Gl X x := by rfl) (hc : X.calm = true := by rfl) (hdb : (x == ("__debug__" : Str)) = false := by decide)
    (he : starEach [e] X.env = (false, eval e X.env) :: starEach [] X.env := by rfl) : SA An X (.Raise (some (.Call (.Name x p) [e] [] cpos)) none pos) (dRaise x f Ex te) := weakS (ps_raise hc z.tk (pmk_x F hq hr ha hk hg hdb he)) fun D' σ H h => by
  obtain ⟨F, ρ, μ, _, R, S, an, t, _⟩ := h
  refine ⟨F, ρ, μ, _, R, S, an, t, fun d μ1 t1 F1 H1 v s1 R1 r1 dx hdx => ?_⟩
  exact ⟨_, μ1, D.C, x, [(f, d)], rfl, z.gr _ _ _ _ _ _ an (s1.trans (Stp.newS R1 hdx)), R1.newS hdx, D.xk, .inr ⟨dx, [(f, v)], rfl, upd_same, rfl, RepL.one (r1.mono (Ext.new (R1.freeF hdx)))⟩, t1⟩
abbrev FnX (P : Program) (w : World) (base : Heap) {K : PySem.W.Frag} {mg : Str → Option Value} {x : Str} {st : Stmt} {ps : List Str} (D : Def K mg x st ps) (k : Nat) (sp : DSpX) : Prop := FnG P w K mg base (L2.CX P w) k D.f D.fd ps (LSpX K sp)
abbrev dCallX (sp : DSpX) (dvs : List SD) (Ex : DXX) (t : DTA) : DTE := fun ρ μ Q => t ρ μ fun ds μ1 => sp (ds ++ dvs) μ1 Q Ex
theorem LSpX_E {K : PySem.W.Frag} {F1 H1 : Hp} {μ1 : Mu} {E' : DXX} {E : XK} (gr : Grows An) (an : An F1 H1 μ1) (h : ∀ cls od H', EX K An E' cls od H' → E cls od H') : ∀ cls od H', EX K (Stp F1 H1 μ1) E' cls od H' → E cls od H' := fun _ _ _ z => h _ _ _ (z.mono fun _ _ _ s => gr _ _ _ _ _ _ an s)
theorem ea_call {dvs : List SD} {dvV : List V} {dv : List Value} {f : Addr} {fd : FuncData} (F : FnG X.prog X.w X.K X.mg X.base (L2.CX X.prog X.w) k f fd ps (LSpX X.K sp)) (hq : Quiet X.A) (hr : Room k X.A) (z : Rz An Ex X) (hg : Gl X x) (hm : X.mg x = some (.ref f)) (hk : PySem.W.keepIn X.K (.ref f) = true)
    (hb : Binds X.K fd ps dv) (hd : Vals dvV dv) (hp : Paired (fun d v => plain d = some v) dvs dvV) (ha : AA An X (e :: es) ta) (hdb : (x == ("__debug__" : Str)) = false := by decide) (he : starEach (e :: es) X.env = (false, eval e X.env) :: starEach es X.env := by rfl) (hpl : (backTo pos (starEach es X.env)).any (·.1) = false := by rfl) :
    EA An X (.Call (.Name x p) (e :: es) [] pos) (dCallX sp dvs Ex ta) := weakE (pe_g (E := EX X.K An Ex) F hq hr hg hm hk hb hd (passes_call z.tk fun _ _ _ _ h => h) ha hdb he hpl) fun σ H Q h => by
  obtain ⟨F, ρ, μ, Q', R, S, an, t, k⟩ := h
  refine ⟨F, ρ, μ, _, R, S, an, t, fun ds μ1 t1 F1 H1 vs s1 R1 r1 => ?_⟩
  exact ⟨F1, μ1, ds ++ dvs, Q', Ex, R1, r1.append (RepL.plain hp), t1, fun d μ' q F' H' v s R' r' => k d μ' q F' H' v (s1.trans s) R' r', LSpX_E z.gr (z.gr _ _ _ _ _ _ an s1) fun _ _ _ h => h⟩
theorem ea_def {D : Def X.K X.mg x st ps} (F : FnX X.prog X.w X.base D k sp) (hq : Quiet X.A) (hr : Room n X.A) (z : Rz An Ex X) (ha : AA An X (e :: es) ta) (hk : k ≤ n := by omega) (hg : Gl X x := by rfl)
    (hdb : (x == ("__debug__" : Str)) = false := by decide) (he : starEach (e :: es) X.env = (false, eval e X.env) :: starEach es X.env := by rfl) (hpl : (backTo pos (starEach es X.env)).any (·.1) = false := by rfl) :
    EA An X (.Call (.Name x p) (e :: es) [] pos) (dCallX sp [] Ex ta) := ea_call F hq (hr.mono hk) z hg D.m D.F.kp D.b .nil .nil ha hdb he hpl
end
section
variable {P : Program} {w : World} {K : PySem.W.Frag} {mg : Str → Option Value} {base : Heap}
/-- a def that may raise -/
theorem def_okR {x : Str} {st : Stmt} {N ps : List Str} {k : Nat} {sp : DSpX} {f : Addr} {fd : FuncData} (F : Fun K x x st f fd) (S : FnScope N ps (defScope st)) (t : DXX → DTS) (len : ∀ ds μ Q E, sp ds μ Q E → ds.length = ps.length)
    (walk : ∀ (cdv : Value) (A : Around) (outer : List Env) (s : Shared) (H : Hp) (E : XK) (Ex : DXX) (An : HInv), Quiet A → Room k (A.deeper (envOfC x (defScope st) s.heap.objs.size f cdv)) → Rz An Ex (cxOf (L2.CX P w) P w K mg base N x (defScope st) f cdv A outer s H E) →
      SAs An (cxOf (L2.CX P w) P w K mg base N x (defScope st) f cdv A outer s H E) (defBody st) (t Ex))
    (read : ∀ ds μ Q E, sp ds μ Q E → t E { nx := fun _ μ' => Q .non μ', rt := Q } (begin_ N ds) μ) : FnG P w K mg base (L2.CX P w) (k + 1) f fd ps (LSpX K sp) := by
  obtain ⟨oc, od, kV, doc, pm, an, cdv, ct, osl, rfl, lk, hcd⟩ := F.ex
  refine fnG_of lk hcd S (fun vs H Q E h => ?_) fun A outer s H vs Q E quiet room want => ?_
  · obtain ⟨F, μ, ds, Q', E', _, r, q, _⟩ := h
    rw [← r.length]; exact len ds μ Q' E' q
  · obtain ⟨F, μ, ds, Q', E', R, r, q, k1, k2⟩ := want
    refine ⟨_, walk cdv A outer s H E E' (Stp F H μ) quiet room ⟨grows_stp _ _ _, takes_mono (takes_of rfl rfl rfl rfl) fun cls d σ H' z => k2 cls d H' z⟩, F, begin_ N ds, μ, _, R, slots_begin r, Stp.refl _ _ _, read ds μ Q' E' q, ?_, k1, fun _ _ z => False.elim z, fun _ _ z => False.elim z⟩
    exact fun ρ' μ' q F' H' σ' s' R' _ => k1 .non μ' q F' H' .non s' R' .non
end
end DS
namespace DS
open PySem PySem.Spec PyProof.Rows L2 LamX
/-- what a function without parameters does, over data -/
abbrev DTH := Mu → (SD → Mu → Prop) → DXX → Prop
theorem HReal.madeC {K : PySem.W.Frag} {F H H2 : Hp} {μ : Mu} {P c' : Addr} {x q : Str} (R : HReal K F H μ) (hP : μ P = some (.tab P x q)) (m : MadeC H P q c' H2) : ∃ F2, HReal K F2 H2 μ ∧ Stp F H μ F2 H2 μ ∧ F2 c' = some (CodeO c' q) := by
  rcases m with ⟨rfl, ps, pos, h1, h2⟩ | ⟨ps, more, h1, h2, rfl, h3, h4⟩
  · obtain ⟨_, o, hPH, ro⟩ := R.mus P _ hP
    rw [h1] at hPH; cases hPH
    cases ro with
    | tab t1 t2 t3 =>
      obtain ⟨c, e1, e2⟩ := t3 pos _ h2
      cases e1
      exact ⟨F, R, Stp.refl _ _ _, e2⟩
  · have hF := R.freeF h2
    have hPF := (R.mus P _ hP).1
    have Pc : P ≠ c' := fun z => by rw [z, h2] at h1; cases h1
    have ex : Ext F (upd F c' (LamX.CodeO c' q)) := Ext.new hF
    refine ⟨upd F c' (LamX.CodeO c' q), ⟨fun a o e => ?_, fun a n e => ?_⟩, ⟨ex, fun a z1 z2 z3 => ?_⟩, upd_same⟩
    · by_cases ha : a = c'
      · subst ha; rw [upd_same] at e ⊢; exact e
      · rw [upd_ne ha] at e
        have aP : a ≠ P := fun z => by rw [z, hPF] at e; cases e
        rw [upd_ne ha, upd_ne aP]; exact R.sub a o e
    · obtain ⟨z, o, q1, r⟩ := R.mus a n e
      have ha : a ≠ c' := fun z => by rw [z, h2] at q1; cases q1
      refine ⟨by rw [upd_ne ha]; exact z, ?_⟩
      by_cases aP : a = P
      · subst aP
        rw [hP] at e; cases e
        rw [h1] at q1; cases q1
        refine ⟨_, by rw [upd_ne Pc, upd_same], ?_⟩
        cases r with
        | tab t1 t2 t3 =>
          refine .tab t1 h3 fun pos cv hc => ?_
          rcases h4 pos cv hc with hc | rfl
          · obtain ⟨c, e1, e2⟩ := t3 pos cv hc
            exact ⟨c, e1, ex.st _ _ rfl e2⟩
          · exact ⟨c', rfl, upd_same⟩
      · exact ⟨o, by rw [upd_ne ha, upd_ne aP]; exact q1, r.mono ex⟩
    · have ha : a ≠ c' := fun z => z1 (by rw [z]; exact h2)
      have aP : a ≠ P := fun z => by rw [z, hP] at z3; cases z3
      exact ⟨by rw [upd_ne ha, upd_ne aP], by rw [upd_ne ha]; exact z2, z3⟩
/-- the function's reading at the heap is th -/
def Lnk (K : PySem.W.Frag) (F H : Hp) (μ : Mu) (th : DTH) (tl : XK → Hp → VK → Prop) : Prop := ∀ (F1 H1 : Hp) (μ1 : Mu) (Q1 : VK) (Q1' : SD → Mu → Prop) (Ex : DXX), Stp F H μ F1 H1 μ1 → HReal K F1 H1 μ1 → th μ1 Q1' Ex →
  (∀ d μ', Q1' d μ' → ∀ F' H' v, Stp F1 H1 μ1 F' H' μ' → HReal K F' H' μ' → RepS K F' d v → Q1 v H') → tl (EX K (Stp F1 H1 μ1) Ex) H1 Q1
/-- what the def that got it makes of it -/
def TTd (K : PySem.W.Frag) (q : Str) (ttd : DTH → Mu → (SD → Mu → Prop) → Prop) : Addr → Addr → (XK → Hp → VK → Prop) → Hp → VK → Prop := fun _ c' tl H Q => ∃ F μ th Q', HReal K F H μ ∧ F c' = some (CodeO c' q) ∧ Lnk K F H μ th tl ∧ ttd th μ Q' ∧
  ∀ d μ', Q' d μ' → ∀ F' H' v, Stp F H μ F' H' μ' → HReal K F' H' μ' → RepS K F' d v → Q v H'
/-- in the def that got it: its parameter a, called -/
def AskOk (X : Cx) (An : HInv) (a : Str) (f : Addr) (th : DTH) : Prop := ∀ (W : WX) (pn : List (Addr × Obj)) (xe : Value → Shared → Prop) (p1 p2 : Pos), Takes (X.tr pn xe) W → PE (X.tr pn xe) (.Call (.Name a p1) [] [] p2) fun σ H Q =>
  ∃ F ρ μ Q' Ex, HReal X.K F H μ ∧ Slots X.K F σ ρ ∧ An F H μ ∧ ρ[0]? = some (some (.ref f)) ∧ th μ Q' Ex ∧
    (∀ d μ', Q' d μ' → ∀ F' H' v, Stp F H μ F' H' μ' → HReal X.K F' H' μ' → RepS X.K F' d v → Q v H') ∧ ∀ cls d H', EX X.K (Stp F H μ) Ex cls d H' → W cls d σ H'
theorem gives_d {X : Cx} {Ng : List Str} {x a q : Str} {sg : Scope} {g : Addr} {cdg : Value} {bg : List Stmt} {ttd : DTH → Mu → (SD → Mu → Prop) → Prop} (t : Addr → DTH → DTS)
    (walk : ∀ (s : Shared) (H : Hp) (f : Addr) (An : HInv) (th : DTH), Grows An → AskOk (cxOf C8.CX0 X.prog X.w X.K X.mg X.base Ng x sg g cdg X.A X.stack s H C8.E0).nox An a f th → SAs An (cxOf C8.CX0 X.prog X.w X.K X.mg X.base Ng x sg g cdg X.A X.stack s H C8.E0).nox bg (t f th))
    (read : ∀ f th μ Q, ttd th μ Q → t f th { nx := fun _ μ' => Q .non μ', rt := Q } (begin_ Ng [.ref f]) μ) : GivesS X Ng x sg g cdg bg a q (TTd X.K q ttd) := by
  intro f c' s H Q tl hcall hco h
  obtain ⟨F, μ, th, Q', R, hc', lnk, tt, k⟩ := h
  refine ⟨_, walk s H f (Stp F H μ) th (grows_stp _ _ _) (fun W pn xe p1 p2 tk => weakE (hcall W pn xe p1 p2 tk) fun σ HZ Q1 z => ?_), F, begin_ Ng [.ref f], μ, _, R, slots_begin (.cons (.ref f) .nil), Stp.refl _ _ _, read f th μ Q' tt, ?_, k, fun _ _ z => False.elim z, fun _ _ z => False.elim z⟩
  · obtain ⟨F1, ρ1, μ1, Q1', Ex, R1, S1, an, h0, th1, lift, hW⟩ := z
    obtain ⟨v, e1, e2⟩ := S1.at_ 0 _ h0
    cases e2
    exact ⟨e1, R1.sub _ _ (an.ext.st _ _ rfl hc'), EX X.K (Stp F1 HZ μ1) Ex, hW, lnk F1 HZ μ1 Q1 Q1' Ex an R1 th1 lift⟩
  · exact fun ρ' μ' q F' H' σ' s' R' _ => k .non μ' q F' H' .non s' R' .non
/-- x(lambda: body), in the def named y -/
def dLam (y q : Str) (ttd : DTH → Mu → (SD → Mu → Prop) → Prop) (tb : DXX → DTE) : DTE := fun ρ μ Q => ∃ P, μ P = some (.tab P y q) ∧ ttd (fun μ' Q' Ex => tb Ex ρ μ' Q') μ Q
section
variable {X : Cx} {ttd : DTH → Mu → (SD → Mu → Prop) → Prop} {tb : DXX → DTE} {x a y q : Str} {st : Stmt} {k n : Nat} {Ng : List Str} {params : Arguments} {body : Expr} {scope : Scope} {p lpos pos : Pos}
theorem de_lam {D : Def X.K X.mg x st [a]} (hbm : BM X.base X.mg) (hw : OwnC X y) (hquiet : Quiet X.A) (hr : Room n X.A) (hG : ∀ cdv : Value, GivesS X Ng x (defScope st) D.f cdv (defBody st) a q (TTd X.K q ttd)) (Sg : FnScope Ng [a] (defScope st)) (L : LamS X.env.scope scope)
    (hbody : ∀ (A : Around) (outer : List Env) (s : Shared) (H : Hp) (E : XK) (f c' : Addr) (An : HInv) (Ex : DXX), Quiet A → Room k (A.deeper (lamEnv X scope s.heap.objs.size f c')) → Rz An Ex (lamCx X A outer s H E scope f c') → EA An (lamCx X A outer s H E scope f c') body (tb Ex))
    (hk : k + 2 ≤ n := by omega) (hq : q = X.env.qual ++ "<lambda>" := by rfl) (hg : Gl X x := by rfl) (hNg : Ng[0]? = some a := by rfl) (hva : Vis (defScope st) a := by first | exact Or.inl rfl | exact Or.inr (Or.inl rfl) | exact Or.inr (Or.inr rfl))
    (hdef : defaultsOf params X.env = ([], []) := by rfl)
    (hbind : ∀ (q : Str) (cl : List (Str × Addr)) (pm cv ctv : Value), bindArgs (PySem.W.kla_fn "<lambda>" q params body scope cl pm cv ctv) ⟨[], []⟩ = pure [] := by intros; rfl)
    (hdb : (x == ("__debug__" : Str)) = false := by decide) (hd : (a == ("__debug__" : Str)) = false := by decide) (hcd : (a == ("__classdict__" : Str)) = false := by decide) :
    DE X (.Call (.Name x p) [.Lambda params body scope lpos] [] pos) (dLam y q ttd tb) := by
  obtain ⟨f, fd, DF, Dm, Db⟩ := D
  obtain ⟨oc, od, kV, doc, pm, an, cdv, ct, osl, rfl, lk, hcc⟩ := id DF.ex
  refine weakE (pe_lamcallS (TT := TTd X.K q ttd) (a := a) (k := k) (Ng := Ng) (t := fun E σ H Q => ∃ An Ex, Grows An ∧ (∀ cls od H', EX X.K An Ex cls od H' → E cls od H') ∧ LEA X.K An (tb Ex) σ H Q)
    hbm hw hq hg Dm DF.kp lk hcc Db Sg hNg hva (hG cdv) (hr.mono hk) L hdef hbind (fun A outer s H E f c' hgd hr2 => ⟨fun pins s' σ H' Q I z => ?_⟩) hdb hd hcd) fun σ H Q h => ?_
  · obtain ⟨An, Ex, gr, hE, h⟩ := z
    exact (hbody A outer s H E f c' An Ex (hgd.trans hquiet) hr2 ⟨gr, takes_mono (takes_of rfl rfl rfl rfl) fun cls d σ H z => hE cls d H z⟩).run pins s' σ H' Q I h
  · obtain ⟨F, ρ, μ, Q', R, S, ⟨P, hP, tt⟩, k⟩ := h
    obtain ⟨hPF, o, hPH, ro⟩ := R.mus P _ hP
    cases ro with
    | tab ta tt' tc =>
      refine ⟨P, _, ta, hPH, tt', fun pos cv hcv => ?_, fun f c' H1 made hf hco => ?_⟩
      · obtain ⟨c, e1, e2⟩ := tc pos cv hcv
        exact ⟨c, e1, R.sub _ _ e2⟩
      · obtain ⟨F2, R2, s2, hc'⟩ := R.madeC hP made
        refine ⟨F2, μ, _, Q', R2, hc', fun F1 H1' μ1 Q1 Q1' Ex s R1 th1 lift => ?_, tt, fun d μ' q F' H' v s R' r' => k d μ' q F' H' v (s2.trans s) R' r'⟩
        exact ⟨Stp F1 H1' μ1, Ex, grows_stp _ _ _, fun _ _ _ z => z, F1, ρ, μ1, Q1', R1, S.mono (s2.trans s).ext, Stp.refl _ _ _, th1, lift⟩
end
theorem rep_err {K : PySem.W.Frag} {F H : Hp} {μ : Mu} {x : Str} {C a : Addr} {od : Option Addr} {fs : List (Str × SD)} (R : HReal K F H μ) (c : XcK K x C (fs.map (·.1))) (r : XRepF K F od fs) (n : H a = none) : RepS K (upd F a (exq a C od)) (.exc x fs) (.ref a) := by
  have ex : Ext F (upd F a (exq a C od)) := Ext.new (R.freeF n)
  rcases r with ⟨rfl, rfl⟩ | ⟨d, vs, rfl, e, hm, rl⟩
  · exact .exc0 c upd_same
  · exact .exc c upd_same (ex.st _ _ rfl e) hm (rl.mono ex)
end DS
namespace DS
open PySem PySem.Spec PyProof.Rows L2
theorem exm_row {K : PySem.W.Frag} {D : Addr} {r : Str × Addr × List Value} (h : XRow K r) (hD : (PySem.W.clsIn K D).isSome = true) (tD : PySem.W.typeIn K (.ref D) = some (.type "type")) (sD : PySem.W.subIn K (.ref D) (.type "BaseException") = some true) : PySem.W.exmOne K (.ref r.2.1) (.ref D) = some (r.2.1 == D || r.2.2.contains (.ref D)) := by
  unfold PySem.W.exmOne
  rw [if_pos (by rw [sD]; rfl)]
  unfold PySem.W.kitCls
  dsimp only
  rw [hD, tD]
  show PySem.W.mroIn K r.2.1 (.ref D) = _
  rw [xrow_mro h, List.contains_cons]
  have : (Value.ref D == Value.ref r.2.1) = (r.2.1 == D) := by
    by_cases e : r.2.1 = D
    · rw [e]; simp
    · rw [beq_eq_false_iff_ne.mpr e, beq_eq_false_iff_ne]
      intro z
      exact e (Value.ref.inj z).symm
  rw [this]
theorem exm_ok {K : PySem.W.Frag} {D : Addr} {rows : List (Str × Addr × List Value)} {c : Str} (q : kitQ rows c D = true) (h : ∀ r ∈ rows, XRow K r) (hD : (PySem.W.clsIn K D).isSome = true) (tD : PySem.W.typeIn K (.ref D) = some (.type "type")) (sD : PySem.W.subIn K (.ref D) (.type "BaseException") = some true) (y : Str) (b : Bool) (C : Addr) (e : kX (rows.map (·.1)) c y = some b)
    (a : PySem.W.nsIn K mainGlobals y = some (some (.ref C))) : PySem.W.exmOne K (.ref C) (.ref D) = some b := by
  unfold kX at e
  split at e
  · rename_i hm
    obtain ⟨r, hr, rfl⟩ := List.mem_map.mp hm
    have hx := h r hr
    obtain rfl : r.2.1 = C := by
      have z := hx.1.symm.trans a
      cases z; rfl
    rw [exm_row hx hD tD sD]
    have z := List.all_eq_true.mp q r hr
    rw [beq_iff_eq.mp z, e]
  · cases e
end DS
namespace DS
end DS
namespace DS
open PySem PySem.Spec PyProof.Rows L2
section
variable {An : HInv} {X : Cx} {pos : Pos} {a b : Expr} {ta tb : DTE}
theorem ea_ix (hA : Grows An) (ha : EA An X a ta) (hb : EA An X b tb) (hs : PlainIx b) : EA An X (.Subscript a b pos) (dOp dIx ta tb) := weakE (pe_ix ix_seq ha hb hs) fun σ H Q h => by
  obtain ⟨F, ρ, μ, Q', R, S, an, t, k⟩ := h
  refine ⟨F, ρ, μ, _, R, S, an, t, fun d1 μ1 t1 F1 H1 v1 s1 R1 r1 => ?_⟩
  refine ⟨F1, ρ, μ1, _, R1, S.mono s1.ext, hA _ _ _ _ _ _ an s1, t1, fun d2 μ2 t2 F2 H2 v2 s2 R2 r2 => ?_⟩
  exact lr_ix F2 H2 μ2 v1 v2 d1 d2 Q' Q R2 (r1.mono s2.ext) r2 t2 fun d μ' q F' H' v s R' r' => k d μ' q F' H' v ((s1.trans s2).trans s) R' r'
end
def anyX : List (Str → Option Bool) → Str → Option Bool
  | [], _ => some false
  | k :: r, x => match k x with
    | some true => some true
    | some false => anyX r x
    | none => none
def KitsX (K : PySem.W.Frag) (kxs : List (Str → Option Bool)) (cs : List Addr) : Prop := ∀ y b C, anyX kxs y = some b → PySem.W.nsIn K mainGlobals y = some (some (.ref C)) → PySem.W.kitAny K (.ref C) (cs.map Value.ref) = some b
theorem KitsX.nil {K : PySem.W.Frag} : KitsX K [] [] := fun _ _ _ e _ => e
theorem KitsX.cons {K : PySem.W.Frag} {kx : Str → Option Bool} {kxs : List (Str → Option Bool)} {D : Addr} {cs : List Addr} (h : ∀ y b C, kx y = some b → PySem.W.nsIn K mainGlobals y = some (some (.ref C)) → PySem.W.kitOne K (.ref C) (.ref D) = some b) (r : KitsX K kxs cs) : KitsX K (kx :: kxs) (D :: cs) := fun y b C e n => by
  unfold anyX at e
  rw [List.map_cons]
  unfold PySem.W.kitAny
  cases q : kx y with
  | none => rw [q] at e; cases e
  | some v =>
    rw [q] at e
    rw [h y v C q n]
    cases v with
    | true => exact e
    | false => exact r y b C e n
end DS
namespace DS
open PySem PySem.Spec PyProof.Rows L2 LamX
def dTryE (f : Addr) (th : DTH) (kx : Str → Option Bool) (i j : Nat) : DTS := fun D ρ μ => (ρ[0]? = some (some (.ref f)) ∧ i < ρ.length) ∧ th μ (fun _ μ1 => D.nx ρ μ1) fun x fs μ1 => kx x = some true ∧
  D.nx (((ρ.set i (some (.exc x fs))).set j (some (.exc x fs))).set i none) μ1
section
variable {An : HInv} {X : Cx} {c a n cn : Str} {cv : Value} {f : Addr} {th : DTH} {i j : Nat} {kx : Str → Option Bool} {np p1 p2 p4 p5 p6 p7 pos' pos : Pos}
theorem sa_tryE (hA : Grows An) (ask : AskOk X An a f th) (hs : X.stack = X.env :: X.outer) (hf : X.env.frame = some X.env.locals) (hex : X.ex = []) (hN : X.N.Nodup) (hc : Names X c cv)
    (hkx : ∀ x b C, kx x = some b → PySem.W.nsIn X.K mainGlobals x = some (some (.ref C)) → PySem.W.exmOne X.K (.ref C) cv = some b)
    (hi : X.N[i]? = some n) (hj : X.N[j]? = some cn) (hln : X.env.kindOf n = some .local) (hlj : Loc X.env.scope cn) (hlvn : Vis X.env.scope n)
    (hfj : X.fn cn = true ∨ X.env.scope.names.lookup cn = some .local := by first | exact .inl rfl | exact .inr rfl)
    (hsw : swapsWith (.Call (.Name a p1) [] [] p2) none p4.line X.env = pure false := by rfl) (hsw2 : swapsWith (.Name n p5) (some (.Name cn p6)) p7.line X.env = pure false := by rfl)
    (hnd : (n == ("__debug__" : Str)) = false := by decide) (hncd : (n == ("__classdict__" : Str)) = false := by decide) :
    SA An X (.Try [.Expr (.Call (.Name a p1) [] [] p2) p4] [.ExceptHandler (some (.Name c np)) (some n) [.Assign [.Name cn p6] (.Name n p5) p7] pos'] [] [] pos) (dTryE f th kx i j) := by
  refine weakS (ps_try_trk (c := cv) (i := i) (Wout := fun _ _ _ _ => False) (ts := fun _ _ _ D σ H => tVar i σ H fun w H' => D.nx (σ.set j (some w)) H')
    (tb := fun W D σ H => ∃ F ρ μ Q' Ex, HReal X.K F H μ ∧ Slots X.K F σ ρ ∧ An F H μ ∧ ρ[0]? = some (some (.ref f)) ∧ th μ Q' Ex ∧
      (∀ d μ', Q' d μ' → ∀ F' H' w, Stp F H μ F' H' μ' → HReal X.K F' H' μ' → RepS X.K F' d w → D.nx σ H') ∧ ∀ cls d H', EX X.K (Stp F H μ) Ex cls d H' → W cls d σ H')
    hs hf hex hN hi hln hc L2.takes0 (fun W pn xe tk _ => ?_) (fun ea oe cls d pn _ _ => ?_)) fun D σ H h => ?_
  · exact pss_one (ps_expr (X := X.tr pn xe) (ask W pn xe p1 p2 tk) hsw)
  · exact pss_one (ps_set (X := X.suite ea ((ea, oe) :: pn)) hN hj hlj (pe_var (X := X.suite ea ((ea, oe) :: pn)) hi hlvn hnd hncd) hsw2 hfj)
  · obtain ⟨F, ρ, μ, D', R, S, an, ⟨⟨h0, hl⟩, t⟩, kn, _⟩ := h
    refine ⟨F, ρ, μ, _, _, R, S, an, h0, t, fun d μ' q F' H' w s R' r' => kn _ μ' q F' H' _ s R' (S.mono s.ext), fun cls od H' z => ?_⟩
    obtain ⟨F', μ', C, x, fs, rfl, s, R', xc, xr, e, q⟩ := z
    refine ⟨true, hkx x true C e xc.at_, fun _ => ⟨C, rfl, fun a' na => ?_⟩, fun z => by cases z⟩
    have SA' := Stp.newS R' (o := exq a' C od) na
    have RA := R'.newS (o := exq a' C od) na
    have rr := rep_err R' xc xr na
    refine ⟨.ref a', List.getElem?_set_self (by rw [S.len]; exact hl), ?_⟩
    exact kn _ μ' q _ _ _ (s.trans SA') RA ((((S.mono (s.trans SA').ext).set i rr).set j rr).setN i)
end
end DS
namespace MA
open PySem PySem.Spec PyProof.Rows L2 DS
structure Good (d : SD) (p : PyData) (D B : Nat) : Prop where
  e : pdS d = some p
  cl : p.canLay0 = true
  dp : p.depth ≤ D
  sh : p.showable = true
  ls : p.leavesShort 13 = true
  bk : p.bulk ≤ B
structure GoodL (ds : List SD) (ps : List PyData) (D B : Nat) : Prop where
  e : pdL ds = some ps
  cl : PyData.canLayAll0 ps = true
  dp : PyData.depthAll ps ≤ D
  sh : PyData.showableAll ps = true
  ls : PyData.leavesShortAll 13 ps = true
  bk : PyData.bulkAll ps ≤ B
theorem Good.mono {d p D B D' B'} (g : Good d p D B) (h1 : D ≤ D') (h2 : B ≤ B') : Good d p D' B' := ⟨g.e, g.cl, Nat.le_trans g.dp h1, g.sh, g.ls, Nat.le_trans g.bk h2⟩
theorem GoodL.mono {d p D B D' B'} (g : GoodL d p D B) (h1 : D ≤ D') (h2 : B ≤ B') : GoodL d p D' B' := ⟨g.e, g.cl, Nat.le_trans g.dp h1, g.sh, g.ls, Nat.le_trans g.bk h2⟩
theorem Good.non : Good .non .none 0 0 := ⟨rfl, by simp [PyData.canLay0], by simp [PyData.depth], by simp [PyData.showable], by simp [PyData.leavesShort], by simp [PyData.bulk]⟩
theorem Good.bl (b : Bool) : Good (.bl b) (.bool b) 0 0 := ⟨rfl, by simp [PyData.canLay0], by simp [PyData.depth], by simp [PyData.showable], by simp [PyData.leavesShort], by simp [PyData.bulk]⟩
theorem Good.str {x : Str} (h : PyData.strOk x = true) : Good (.str x) (.str x) 0 x.cps.size := by
  refine ⟨rfl, by simp [PyData.canLay0, h], by simp [PyData.depth], by simp [PyData.showable], ?_, by simp [PyData.bulk]⟩
  unfold PyData.leavesShort
  rw [List.all_eq_true]
  intro c hc
  have := (Array.all_eq_true_iff_forall_mem.mp h) c (by simpa using hc)
  simp at this ⊢
  omega
theorem GoodL.nil : GoodL [] [] 0 0 := ⟨rfl, by simp [PyData.canLayAll0], by simp [PyData.depthAll], by simp [PyData.showableAll], by simp [PyData.leavesShortAll], by simp [PyData.bulkAll]⟩
theorem GoodL.cons {d ds p ps D B C} (g : Good d p D B) (h : GoodL ds ps D C) : GoodL (d :: ds) (p :: ps) D (B + 1 + C) := by
  refine ⟨by rw [pdL, g.e, h.e], by simp [PyData.canLayAll0, g.cl, h.cl], ?_, by simp [PyData.showableAll, g.sh, h.sh], by simp [PyData.leavesShortAll, g.ls, h.ls], ?_⟩
  · have := g.dp; have := h.dp; rw [PyData.depthAll]; omega
  · have := g.bk; have := h.bk; rw [PyData.bulkAll]; omega
theorem Good.tup {ds ps D B} (h : GoodL ds ps D B) : Good (.tup ds) (.tuple ps) (D + 1) B :=
  ⟨by rw [pdS, h.e], by simp [PyData.canLay0, h.cl], by rw [PyData.depth]; exact Nat.succ_le_succ h.dp, by simp [PyData.showable, h.sh], by simp [PyData.leavesShort, h.ls], by rw [PyData.bulk]; exact h.bk⟩
theorem Good.lst {ds ps D B} (h : GoodL ds ps D B) : Good (.lst ds) (.list ps) (D + 1) B :=
  ⟨by rw [pdS, h.e], by simp [PyData.canLay0, h.cl], by rw [PyData.depth]; exact Nat.succ_le_succ h.dp, by simp [PyData.showable, h.sh], by simp [PyData.leavesShort, h.ls], by rw [PyData.bulk]; exact h.bk⟩
theorem GoodL.append {D B C} : ∀ {ds ps es qs}, GoodL ds ps D B → GoodL es qs D C → GoodL (ds ++ es) (ps ++ qs) D (B + C)
  | [], _, _, _, g, h => by
    have e := g.e; rw [pdL] at e; cases e
    exact h.mono (Nat.le_refl _) (by omega)
  | d :: ds, ps0, es, qs, g, h => by
    have e := g.e
    rw [pdL] at e
    split at e
    · rename_i p ps e1 e2
      cases e
      have cl := g.cl; have sh := g.sh; have ls := g.ls; have dp := g.dp; have bk := g.bk
      simp only [PyData.canLayAll0, Bool.and_eq_true] at cl
      simp only [PyData.showableAll, Bool.and_eq_true] at sh
      simp only [PyData.leavesShortAll, Bool.and_eq_true] at ls
      rw [PyData.depthAll] at dp
      rw [PyData.bulkAll] at bk
      have g1 : Good d p D p.bulk := ⟨e1, cl.1, by omega, sh.1, ls.1, Nat.le_refl _⟩
      have g2 : GoodL ds ps D (PyData.bulkAll ps) := ⟨e2, cl.2, by omega, sh.2, ls.2, Nat.le_refl _⟩
      exact (GoodL.cons g1 (GoodL.append g2 h)).mono (Nat.le_refl _) (by omega)
    · cases e
/-- each of so many good ones -/
theorem GoodL.of {D B} : ∀ {ds : List SD}, (∀ d ∈ ds, ∃ p, Good d p D B) → ∃ ps, GoodL ds ps D (ds.length * (B + 1))
  | [], _ => ⟨[], GoodL.nil.mono (Nat.zero_le _) (Nat.zero_le _)⟩
  | d :: ds, h => by
    obtain ⟨p, g⟩ := h d (List.mem_cons_self ..)
    obtain ⟨ps, gs⟩ := GoodL.of fun x hx => h x (List.mem_cons_of_mem _ hx)
    exact ⟨p :: ps, (GoodL.cons g gs).mono (Nat.le_refl _) (by rw [List.length_cons, Nat.add_mul]; omega)⟩
theorem Good.shaped {d p D B} (g : Good d p D B) (h : D ≤ 64) : SeqAt.shaped p = true := by
  unfold SeqAt.shaped
  rw [g.cl, Bool.true_and, decide_eq_true_eq]
  exact Nat.le_trans g.dp h
theorem Good.notref {d p D B} (g : Good d p D B) (μ : Mu) : pd μ d = some p := by
  have e := g.e
  cases d <;> first | exact e | (simp [pdS] at e)
theorem Good.repr {d p D B μ} {Q : SD → Mu → Prop} (g : Good d p D B) (h1 : D ≤ 64) (h2 : B ≤ 2 ^ 20) (q : Q (.str p.shown) μ) : drRepr [d] μ Q := by
  unfold drRepr
  simp only [g.notref μ]
  exact ⟨⟨g.sh, PyData.shown_fits_bulk (B := 13) (by decide) (by decide) g.ls (Nat.le_trans g.bk h2), Nat.le_trans g.dp h1⟩, q⟩
theorem eq_nil {μ : Mu} {a : Addr} {xs ps D B} (h : μ a = some (.lst xs)) (g : GoodL xs ps D B) (hD : D < 64) : eqD μ (.ref a) (.lst []) = some (decide (xs = [])) := by
  have e1 : pd μ (.ref a) = some (.list ps) := by simp [pd, h, g.e]
  have e2 : pd μ (.lst []) = some (.list []) := by simp [pd, pdS, pdL]
  have s1 : SeqAt.shaped (.list ps) = true := by
    unfold SeqAt.shaped
    rw [PyData.depth, PyData.canLay0, g.cl, Bool.true_and, decide_eq_true_eq]
    have := g.dp; omega
  have s2 : SeqAt.shaped (.list []) = true := by decide
  show (match pd μ (.ref a), pd μ (.lst []) with
    | some p, some q => if SeqAt.shaped p = true ∧ SeqAt.shaped q = true then some (PyData.eqv p q) else none
    | _, _ => none) = _
  rw [e1, e2]
  show (if SeqAt.shaped (.list ps) = true ∧ SeqAt.shaped (.list []) = true then some (PyData.eqv (.list ps) (.list [])) else none) = _
  rw [if_pos ⟨s1, s2⟩, PyData.eqv]
  have e := g.e
  cases xs with
  | nil => rw [pdL] at e; cases e; rfl
  | cons x xs =>
    rw [pdL] at e
    split at e
    · cases e; rfl
    · cases e
section
variable {α : Type} {k k' : Key} {v : α}
theorem valD_nil : valD ([] : List (Key × α)) k = none := rfl
theorem valD_cons {kv : Key × α} {r : List (Key × α)} : valD (kv :: r) k = if kv.1 = k then some kv.2 else valD r k := by
  unfold valD
  rw [List.find?_cons]
  by_cases h : kv.1 = k
  · simp [h]
  · simp [h]
theorem valD_append {xs ys : List (Key × α)} : valD (xs ++ ys) k = (valD xs k).or (valD ys k) := by
  induction xs with
  | nil => simp [valD_nil]
  | cons x r ih => rw [List.cons_append, valD_cons, valD_cons, ih]; split <;> simp
theorem valD_map {kvs : List (Key × α)} (h : (kvs.any fun kv => decide (kv.1 = k)) = true) : valD (kvs.map fun kv => if kv.1 = k then (kv.1, v) else kv) k' = if k = k' then some v else valD kvs k' := by
  induction kvs with
  | nil => simp at h
  | cons x r ih =>
    rw [List.map_cons, valD_cons, valD_cons]
    by_cases h1 : x.1 = k
    · rw [if_pos h1]
      by_cases h2 : k = k'
      · subst h2; simp [h1]
      · have h3 : x.1 ≠ k' := fun e => h2 (h1.symm.trans e)
        rw [if_neg h3, if_neg h3, if_neg h2]
        by_cases h4 : (r.any fun kv => decide (kv.1 = k)) = true
        · rw [ih h4, if_neg h2]
        · have : (r.map fun kv => if kv.1 = k then (kv.1, v) else kv) = r := by
            refine (List.map_congr_left fun y hy => ?_).trans (List.map_id _)
            rw [if_neg, id]
            intro e; exact h4 (List.any_eq_true.mpr ⟨y, hy, by simpa using e⟩)
          rw [this]
    · rw [if_neg h1]
      have h4 : (r.any fun kv => decide (kv.1 = k)) = true := by simpa [h1] using h
      rw [ih h4]
      by_cases h2 : k = k'
      · subst h2; simp [h1]
      · simp [h2]
theorem valD_put {kvs : List (Key × α)} : valD (putD kvs k v) k' = if k = k' then some v else valD kvs k' := by
  unfold putD
  split
  · rename_i h; exact valD_map h
  · rename_i h
    rw [valD_append, valD_cons, valD_nil]
    by_cases e : k = k'
    · subst e
      have : valD kvs k = none := by
        unfold valD
        rw [List.find?_eq_none.mpr, Option.map_none]
        intro x hx e; exact h (List.any_eq_true.mpr ⟨x, hx, e⟩)
      simp [this]
    · simp [e]
theorem putD_length {kvs : List (Key × α)} : (putD kvs k v).length ≤ kvs.length + 1 := by
  unfold putD
  split
  · simp
  · simp
end
def Le (μ μ' : Mu) : Prop := ∀ a m, μ a = some m → μ' a = some m
theorem Le.refl (μ : Mu) : Le μ μ := fun _ _ h => h
theorem Le.trans {μ μ1 μ2 : Mu} (h : Le μ μ1) (k : Le μ1 μ2) : Le μ μ2 := fun a m e => k a m (h a m e)
theorem Le.up {μ0 μ : Mu} {p : Addr} {m : MO} (h : Le μ0 μ) (hp : μ0 p = none) : Le μ0 (up μ p m) := fun a n e => by
  have : a ≠ p := fun z => by subst z; rw [hp] at e; cases e
  rw [up_ne this]; exact h a n e
theorem Le.rm {μ0 μ : Mu} {p : Addr} (h : Le μ0 μ) (hp : μ0 p = none) : Le μ0 (rm μ p) := fun a n e => by
  have : a ≠ p := fun z => by subst z; rw [hp] at e; cases e
  rw [rm_ne this]; exact h a n e
theorem Le.none {μ0 μ : Mu} {p : Addr} (h : Le μ0 μ) (hp : μ p = none) : μ0 p = none := by
  cases e : μ0 p with
  | none => rfl
  | some m => rw [h p m e] at hp; cases hp
/-- all but what stands at h stays -/
def LeX (h : Addr) (μ μ' : Mu) : Prop := ∀ a m, a ≠ h → μ a = some m → μ' a = some m
theorem LeX.refl (h : Addr) (μ : Mu) : LeX h μ μ := fun _ _ _ e => e
theorem Le.x {μ μ' : Mu} (h : Addr) (l : Le μ μ') : LeX h μ μ' := fun a m _ e => l a m e
theorem LeX.trans {h : Addr} {μ μ1 μ2 : Mu} (a : LeX h μ μ1) (b : LeX h μ1 μ2) : LeX h μ μ2 := fun x m n e => b x m n (a x m n e)
theorem LeX.put {h : Addr} {μ0 μ : Mu} {m : MO} (l : LeX h μ0 μ) : LeX h μ0 (up μ h m) := fun a n z e => by rw [up_ne z]; exact l a n z e
theorem LeX.up {h p : Addr} {μ0 μ : Mu} {m : MO} (l : LeX h μ0 μ) (hp : μ0 p = none) : LeX h μ0 (up μ p m) := fun a n z e => by
  have : a ≠ p := fun z => by subst z; rw [hp] at e; cases e
  rw [up_ne this]; exact l a n z e
theorem LeX.rm {h p : Addr} {μ0 μ : Mu} (l : LeX h μ0 μ) (hp : μ0 p = none) : LeX h μ0 (rm μ p) := fun a n z e => by
  have : a ≠ p := fun z => by subst z; rw [hp] at e; cases e
  rw [rm_ne this]; exact l a n z e
end MA
namespace MA
open PySem PySem.Spec PyProof.Rows L2 DS
inductive T where
  | node (k : Str) (cs : List T)
def T.key : T → Str
  | .node k _ => k
def T.kids : T → List T
  | .node _ cs => cs
mutual
def enc : T → SD
  | .node k cs => .tup [.str k, .tup (encL cs)]
def encL : List T → List SD
  | [] => []
  | t :: r => enc t :: encL r
end
mutual
def pre : T → List Str
  | .node k cs => k :: preL cs
def preL : List T → List Str
  | [] => []
  | t :: r => pre t ++ preL r
end
mutual
def dep : T → Nat
  | .node _ cs => depL cs + 1
def depL : List T → Nat
  | [] => 0
  | t :: r => max (dep t) (depL r)
end
theorem encL_map : ∀ ts : List T, encL ts = ts.map enc
  | [] => by rw [encL]; rfl
  | t :: r => by rw [encL, encL_map r]; rfl
theorem encL_append (a b : List T) : encL (a ++ b) = encL a ++ encL b := by simp [encL_map]
theorem encL_length (a : List T) : (encL a).length = a.length := by simp [encL_map]
theorem preL_append : ∀ a b : List T, preL (a ++ b) = preL a ++ preL b
  | [], b => by rw [List.nil_append, preL]; rfl
  | t :: r, b => by rw [List.cons_append, preL, preL, preL_append r b, List.append_assoc]
theorem preL_mem {ts : List T} {k : Str} : k ∈ preL ts ↔ ∃ t ∈ ts, k ∈ pre t := by
  induction ts with
  | nil => simp [preL]
  | cons t r ih => rw [preL, List.mem_append, ih]; simp
theorem depL_mem {ts : List T} {t : T} (h : t ∈ ts) : dep t ≤ depL ts := by
  induction ts with
  | nil => cases h
  | cons u r ih =>
    rw [depL]
    rcases List.mem_cons.mp h with rfl | h
    · exact Nat.le_max_left _ _
    · exact Nat.le_trans (ih h) (Nat.le_max_right _ _)
theorem depL_le {ts : List T} {n : Nat} (h : ∀ t ∈ ts, dep t ≤ n) : depL ts ≤ n := by
  induction ts with
  | nil => rw [depL]; exact Nat.zero_le _
  | cons u r ih => rw [depL]; exact Nat.max_le.mpr ⟨h u (List.mem_cons_self ..), ih fun t ht => h t (List.mem_cons_of_mem _ ht)⟩
theorem key_mem (t : T) : t.key ∈ pre t := by cases t; rw [pre]; exact List.mem_cons_self ..
theorem preL_sub {ts : List T} {t : T} (h : t ∈ ts) : ∀ k ∈ pre t, k ∈ preL ts := fun k hk => preL_mem.mpr ⟨t, h, hk⟩
theorem preL_len {ts : List T} {t : T} (h : t ∈ ts) : (pre t).length ≤ (preL ts).length := by
  induction ts with
  | nil => cases h
  | cons u r ih =>
    rw [preL, List.length_append]
    rcases List.mem_cons.mp h with rfl | h
    · omega
    · have := ih h; omega
theorem pre_pos (t : T) : 0 < (pre t).length := by cases t; rw [pre]; simp
theorem len_le_preL : ∀ ts : List T, ts.length ≤ (preL ts).length
  | [] => by simp
  | t :: r => by have := pre_pos t; have := len_le_preL r; rw [preL, List.length_append, List.length_cons]; omega
def KeyOk (k : Str) : Prop := PyData.strOk k = true ∧ k.cps.size ≤ 61
structure TOk (t : T) : Prop where
  len : (pre t).length ≤ 1000
  dep : dep t ≤ 30
  keys : ∀ k ∈ pre t, KeyOk k
mutual
theorem enc_good : ∀ t : T, (∀ k ∈ pre t, KeyOk k) → ∃ p, Good (enc t) p (2 * dep t) (64 * (pre t).length - 1)
  | .node k cs, h => by
    rw [pre] at h
    obtain ⟨ps, gs⟩ := encL_good cs fun x hx => h x (List.mem_cons_of_mem _ hx)
    obtain ⟨k1, k2⟩ := h k (List.mem_cons_self ..)
    rw [enc, dep, pre]
    have g1 := Good.tup gs
    have g2 := GoodL.cons (g1.mono (Nat.le_refl _) (Nat.le_refl _)) (GoodL.nil.mono (Nat.zero_le _) (Nat.le_refl _))
    have g3 := GoodL.cons ((Good.str k1).mono (Nat.zero_le _) (Nat.le_refl _)) g2
    refine ⟨_, (Good.tup g3).mono (by omega) ?_⟩
    rw [List.length_cons]; omega
theorem encL_good : ∀ ts : List T, (∀ k ∈ preL ts, KeyOk k) → ∃ ps, GoodL (encL ts) ps (2 * depL ts) (64 * (preL ts).length)
  | [], _ => ⟨[], GoodL.nil.mono (Nat.zero_le _) (Nat.zero_le _)⟩
  | t :: r, h => by
    rw [preL] at h
    obtain ⟨p, g⟩ := enc_good t fun x hx => h x (List.mem_append_left _ hx)
    obtain ⟨ps, gs⟩ := encL_good r fun x hx => h x (List.mem_append_right _ hx)
    have := pre_pos t
    refine ⟨p :: ps, ?_⟩
    rw [encL, depL, preL]
    refine (GoodL.cons (g.mono (by omega) (Nat.le_refl _)) (gs.mono (by omega) (Nat.le_refl _))).mono (Nat.le_refl _) ?_
    rw [List.length_append]; omega
end
theorem TOk.good {t : T} (h : TOk t) : ∃ p, Good (enc t) p 60 64000 := by
  obtain ⟨p, g⟩ := enc_good t h.keys
  have := h.len; have := h.dep
  exact ⟨p, g.mono (by omega) (by omega)⟩
mutual
def Fits (f : Str → List Str) : T → Prop
  | .node k cs => f k = cs.map T.key ∧ FitsL f cs
def FitsL (f : Str → List Str) : List T → Prop
  | [] => True
  | t :: r => Fits f t ∧ FitsL f r
end
theorem FitsL_mem {f : Str → List Str} {ts : List T} : FitsL f ts ↔ ∀ t ∈ ts, Fits f t := by
  induction ts with
  | nil => simp [FitsL]
  | cons u r ih => rw [FitsL, ih]; simp
/-- par is the parent by f, wherever t has a key -/
structure Par (f : Str → List Str) (par : Str → Option Str) (t : T) : Prop where
  fits : Fits f t
  kid : ∀ k ∈ pre t, ∀ c ∈ f k, par c = some k
  root : par t.key = none
def optS : Option Str → SD
  | none => .non
  | some k => .str k
end MA
namespace MA
open PySem PySem.Spec PyProof.Rows L2 DS
section
variable {ρ : Rho} {μ : Mu} {i : Nat} {a : Addr} {d x y : SD} {xs ys : List SD} {Q : SD → Mu → Prop} {te ti tb : DTE}
theorem r_var (h : ρ[i]? = some (some d)) (q : Q d μ) : dVar i ρ μ Q := by unfold dVar; rw [h]; exact q
theorem isSome_ref (m : μ a = some (.lst xs)) : (lstD μ (.ref a)).isSome = true := by simp [lstD, m]
theorem dm_pop (m : μ a = some (.lst (xs ++ [y]))) (q : Q y (up μ a (.lst xs))) : dmPop (.ref a) [] μ Q := by
  unfold dmPop
  have e : mlst μ (.ref a) = some (a, xs ++ [y]) := by simp [mlst, m]
  have e2 : (xs ++ [y])[(xs ++ [y]).length - 1]? = some y := by simp
  simp only [e, e2, List.dropLast_concat]
  exact ⟨trivial, q⟩
theorem dm_append (m : μ a = some (.lst xs)) (l : xs.length < sizeLine) (q : Q .non (up μ a (.lst (xs ++ [y])))) : dmAppend (.ref a) [y] μ Q := by
  unfold dmAppend
  have e : mlst μ (.ref a) = some (a, xs) := by simp [mlst, m]
  simp only [e]
  exact ⟨l, q⟩
theorem dm_extendT (m : μ a = some (.lst xs)) (l : xs.length + ys.length ≤ sizeLine) (q : Q .non (up μ a (.lst (xs ++ ys)))) : dmExtend (.ref a) [.tup ys] μ Q := by
  unfold dmExtend
  have e : mlst μ (.ref a) = some (a, xs) := by simp [mlst, m]
  simp only [e]
  exact ⟨l, q⟩
theorem dm_extendR {b : Addr} (m : μ a = some (.lst xs)) (mb : μ b = some (.lst ys)) (l : xs.length + ys.length ≤ sizeLine) (q : Q .non (up μ a (.lst (xs ++ ys)))) : dmExtend (.ref a) [.ref b] μ Q := by
  unfold dmExtend
  have e : mlst μ (.ref a) = some (a, xs) := by simp [mlst, m]
  simp only [e]
  simp only [lstD, mb]
  exact ⟨l, q⟩
theorem dm_insert {k : Int} (m : μ a = some (.lst xs)) (l : xs.length < sizeLine) (h0 : 0 ≤ k) (h1 : k < 2 ^ 63) (q : Q .non (up μ a (.lst (xs.take k.toNat ++ [y] ++ xs.drop k.toNat)))) : dmInsert (.ref a) [.int k, y] μ Q := by
  unfold dmInsert
  have e : mlst μ (.ref a) = some (a, xs) := by simp [mlst, m]
  simp only [e]
  exact ⟨⟨l, h0, h1⟩, q⟩
theorem eq_nilR {ps D B neg} (m : μ a = some (.lst xs)) (g : GoodL xs ps D B) (hD : D < 64) (k : Q (.bl (neg != decide (xs = []))) μ) : dEq neg (.ref a) (.lst []) μ Q := by
  unfold dEq
  simp only [eq_nil m g hD]
  exact k
theorem dr_tupleL (q : Q (.tup xs) μ) : drTuple [.lst xs] μ Q := q
theorem dr_tupleR (m : μ a = some (.lst xs)) (q : Q (.tup xs) μ) : drTuple [.ref a] μ Q := by
  unfold drTuple; simp only [seqD, m]; exact q
theorem ix_at {k : Int} (e : seqD μ x = some xs) (hs : ∀ z, x ≠ .str z) (h : atI xs k = some d) (q : Q d μ) : dIx x (.int k) μ Q := by
  unfold dIx
  cases x with
  | str z => exact (hs z rfl).elim
  | _ => simp only [e, h]; exact q
theorem ix_tup {k : Int} (h : atI xs k = some d) (q : Q d μ) : dIx (.tup xs) (.int k) μ Q := ix_at rfl (fun _ z => by cases z) h q
theorem ix_lst {k : Int} (h : atI xs k = some d) (q : Q d μ) : dIx (.lst xs) (.int k) μ Q := ix_at rfl (fun _ z => by cases z) h q
theorem ix_rol {k : Int} (h : atI xs k = some d) (q : Q d μ) : dIx (.rol xs) (.int k) μ Q := ix_at rfl (fun _ z => by cases z) h q
theorem ix_ref {k : Int} (m : μ a = some (.lst xs)) (h : atI xs k = some d) (q : Q d μ) : dIx (.ref a) (.int k) μ Q := ix_at (by simp [seqD, m]) (fun _ z => by cases z) h q
theorem put_ok {kvs : List (Key × SD)} {k : Key} {v : SD} {R : Mu → Prop} (m : μ a = some (.dic kvs)) (hk : keyD y = some k) (l : kvs.length < sizeLine) (q : R (up μ a (.dic (putD kvs k v)))) : drPut (.ref a) y v μ R := by
  unfold drPut
  have e : mdic μ (.ref a) = some (a, kvs) := by simp [mdic, m]
  simp only [e, hk]
  exact ⟨l, q⟩
theorem get_ok {kvs : List (Key × SD)} {k : Key} {v : SD} (m : dicD μ x = some kvs) (hk : keyD y = some k) (h : valD kvs k = some v) (q : Q v μ) : drGet x y μ Q := by
  unfold drGet; simp only [m, hk, h]; exact q
theorem get2_ok {kvs : List (Key × SD)} {k : Key} {z : SD} (m : dicD μ x = some kvs) (hk : keyD y = some k) (q : Q ((valD kvs k).getD z) μ) : drGet2 x y z μ Q := by
  unfold drGet2; simp only [m, hk]; exact q
theorem din_ok {kvs : List (Key × SD)} {k : Key} {neg : Bool} (m : dicD μ x = some kvs) (hk : keyD y = some k) (q : Q (.bl (neg != (valD kvs k).isSome)) μ) : drDIn neg x y μ Q := by
  unfold drDIn; simp only [m, hk]; exact q
theorem dicD_ref {kvs : List (Key × SD)} (m : μ a = some (.dic kvs)) : dicD μ (.ref a) = some kvs := by simp [dicD, m]
/-- for x in t, t a tuple -/
theorem for_T {g : DTG} {tb : DTS} {D : DEnds} (h : ρ[i]? = some (some (.tup xs))) (k : ∃ W : Nat → Rho → Mu → Prop, W 0 ρ μ ∧ (∀ i d ρ μ, xs[i]? = some d → W i ρ μ → g d ρ μ fun ρ2 μ2 => tb { D with nx := W (i + 1), ct := W (i + 1), bk := D.nx } ρ2 μ2) ∧ ∀ ρ μ, W xs.length ρ μ → D.nx ρ μ) : dFor (jSeq (dVar i)) g tb D ρ μ := by
  obtain ⟨W, h0, hs, hf⟩ := k
  unfold dFor
  refine r_var h ?_
  exact ⟨W, h0, fun _ _ _ _ _ => rfl, hs, hf⟩
theorem ifT {c : Bool} {A B : Prop} (hc : c = true) (h : A) : if c = true then A else B := by rw [if_pos hc]; exact h
theorem ifF {c : Bool} {A B : Prop} (hc : c = false) (h : B) : if c = true then A else B := by rw [if_neg (by rw [hc]; exact Bool.false_ne_true)]; exact h
theorem lt_line {n m : Nat} (h : n ≤ m) (h2 : m ≤ 1000000) : n < sizeLine := by rw [sizeLine_eq]; omega
theorem le_line {n m : Nat} (h : n ≤ m) (h2 : m ≤ 1000000) : n ≤ sizeLine := by rw [sizeLine_eq]; omega
/-- a comprehension that changes nothing -/
theorem lc_pure {ds zs : List SD} {ok : Mu → Prop} {j : Nat} {R : List SD → Mu → Prop} (hok : ok μ) (hl : ds.length ≤ 1000000) (hy : zs.length = ds.length) (el : ∀ (i : Nat) (d y : SD), ds[i]? = some d → zs[i]? = some y → ∀ R : SD → Mu → Prop, R y μ → te ((wipeR ρ [j]).set j (some d)) μ R) (q : R zs μ) :
    ds.length ≤ sizeLine ∧ ∃ W : Nat → List SD → Mu → Prop, W 0 [] μ ∧ (∀ i acc μ', i ≤ ds.length → W i acc μ' → ok μ') ∧ (∀ i d acc μ', ds[i]? = some d → W i acc μ' → hName j d (wipeR ρ [j]) μ' fun ρ2 μ2 => dYes ρ2 μ2 fun b μ3 => if b = true then te ρ2 μ3 fun y μ4 => W (i+1) (acc ++ [y]) μ4 else W (i+1) acc μ3) ∧ ∀ acc μ', W ds.length acc μ' → R acc μ' := by
  refine ⟨le_line hl (Nat.le_refl _), fun i acc μ' => acc = zs.take i ∧ μ' = μ, ⟨rfl, rfl⟩, ?_, ?_, ?_⟩
  · rintro i acc μ' _ ⟨_, rfl⟩; exact hok
  · rintro i d acc μ' hd ⟨rfl, rfl⟩
    have hi := (List.getElem?_eq_some_iff.mp hd).1
    have hz : zs[i]? = some zs[i] := List.getElem?_eq_getElem (by omega)
    refine ifT rfl (el i d _ hd hz _ ⟨?_, rfl⟩)
    rw [List.take_succ, hz]; rfl
  · rintro acc μ' ⟨rfl, rfl⟩
    rw [List.take_of_length_le (by omega)]; exact q
theorem isi_of {n t : String} {b : Bool} (ht : tyD μ d = some t) (hb : kitB t n = some b) (q : Q (.bl b) μ) : drIsi [d, .ty n] μ Q := by
  unfold drIsi
  have : isiB μ d n = some b := by unfold isiB; simp only [ht, hb]
  simp only [this]; exact q
theorem inS_sts {o : Str} {l : List Str} : inS (.str o) (l.map SD.str) = decide (o ∈ l) := by
  unfold inS
  rw [Bool.eq_iff_iff, List.any_eq_true, decide_eq_true_eq]
  constructor
  · rintro ⟨x, hx, e⟩
    obtain ⟨y, hy, rfl⟩ := List.mem_map.mp hx
    have : y = o := by simpa [eqA, DS.plain, eqV] using e
    subst this; exact hy
  · intro h
    exact ⟨.str o, List.mem_map.mpr ⟨o, h, rfl⟩, by simp [eqA, DS.plain, eqV]⟩
theorem flat_sts {l : List Str} : (l.map SD.str).all flatD = true := by
  rw [List.all_eq_true]
  intro x hx
  obtain ⟨y, hy, rfl⟩ := List.mem_map.mp hx
  rfl
theorem in_sts {neg : Bool} {o : Str} {l : List Str} (e : seqD μ y = some (l.map SD.str)) (hs : ∀ z, y ≠ .str z) (q : Q (.bl (neg != decide (o ∈ l))) μ) : dIn neg (.str o) y μ Q := by
  unfold dIn
  cases y with
  | str z => exact (hs z rfl).elim
  | _ => simp only [e]; exact ⟨⟨rfl, flat_sts⟩, by rw [inS_sts]; exact q⟩
variable {m n : Int}
theorem i_add (q : Q (.int (m + n)) μ) : dAdd (.int m) (.int n) μ Q := q
theorem i_sub (q : Q (.int (m - n)) μ) : dSub (.int m) (.int n) μ Q := q
theorem i_mul (h : IntMulOk m n) (q : Q (.int (m * n)) μ) : dMul (.int m) (.int n) μ Q := ⟨h, q⟩
theorem i_mod (h : 0 < n) (q : Q (.int (m % n)) μ) : dMod (.int m) (.int n) μ Q := ⟨h, q⟩
theorem i_div (h : CDivW m n) (q : Q (.int (m / n)) μ) : dDiv (.int m) (.int n) μ Q := ⟨h, q⟩
theorem i_pow (h : CPowW m n) (q : Q (.int (m ^ n.toNat)) μ) : dPow (.int m) (.int n) μ Q := ⟨h, q⟩
theorem i_lt (q : Q (.bl (decide (m < n))) μ) : dLt (.int m) (.int n) μ Q := q
theorem i_gt (q : Q (.bl (decide (n < m))) μ) : dGt (.int m) (.int n) μ Q := q
theorem i_le (q : Q (.bl (decide (m ≤ n))) μ) : dLe (.int m) (.int n) μ Q := q
theorem i_ge (q : Q (.bl (decide (n ≤ m))) μ) : dGe (.int m) (.int n) μ Q := q
theorem s_add {u v : Str} (h : u.length + v.length ≤ sizeLine) (q : Q (.str (u ++ v)) μ) : dAdd (.str u) (.str v) μ Q := ⟨h, q⟩
theorem s_mul {u : Str} (h : (0 ≤ n ∧ n ≤ 1000000 ∧ u.length * n.toNat ≤ sizeLine)) (q : Q (.str (repS u n.toNat)) μ) : dMul (.str u) (.int n) μ Q := ⟨h, q⟩
theorem l_add (h : xs.length + ys.length ≤ sizeLine) (q : Q (.lst (xs ++ ys)) μ) : dAdd (.lst xs) (.lst ys) μ Q := by
  unfold dAdd; exact ⟨h, q⟩
theorem l_mul (h : (-(2 ^ 63) ≤ n ∧ n < 2 ^ 63 ∧ xs.length * n.toNat ≤ sizeLine)) (q : Q (.lst (List.replicate n.toNat xs).flatten) μ) : dMul (.lst xs) (.int n) μ Q := by
  unfold dMul; exact ⟨h, q⟩
theorem l_len (q : Q (.int xs.length) μ) : drLen [.lst xs] μ Q := q
theorem l_lenR (hm : μ a = some (.lst xs)) (q : Q (.int xs.length) μ) : drLen [.ref a] μ Q := by
  unfold drLen; simp only [seqD, hm]; exact q
theorem l_lenT (q : Q (.int xs.length) μ) : drLen [.tup xs] μ Q := q
theorem l_lenO (q : Q (.int xs.length) μ) : drLen [.rol xs] μ Q := q
theorem l_lenS {u : Str} (h : u.length ≤ sizeLine) (q : Q (.int u.length) μ) : drLen [.str u] μ Q := ⟨h, q⟩
theorem ix_str {u : Str} {k : Int} {c : Nat} (h : u.length ≤ sizeLine) (e : atI u.cps.toList k = some c) (q : Q (.str ⟨#[c]⟩) μ) : dIx (.str u) (.int k) μ Q := by
  unfold dIx; simp only [e]; exact ⟨h, q⟩
/-- for i in range(n) -/
theorem for_R {n : Nat} {g : DTG} {tb : DTS} {D : DEnds} (h : ρ[i]? = some (some (.int n))) (hn : n ≤ 1000000) (k : ∃ W : Nat → Rho → Mu → Prop, W 0 ρ μ ∧ (∀ (j : Nat) ρ μ, j < n → W j ρ μ → g (.int j) ρ μ fun ρ2 μ2 => tb { D with nx := W (j + 1), ct := W (j + 1), bk := D.nx } ρ2 μ2) ∧ ∀ ρ μ, W n ρ μ → D.nx ρ μ) : dFor (jRng1 (dCons (dVar i) dNil)) g tb D ρ μ := by
  obtain ⟨W, h0, hs, hf⟩ := k
  unfold dFor
  refine r_var h ?_
  refine ⟨⟨by omega, by omega⟩, W, h0, fun _ _ _ _ _ => trivial, ?_, ?_⟩
  · intro j d ρ μ hd w
    simp only [Int.toNat_natCast] at hd
    rw [List.getElem?_map] at hd
    cases e : (List.range n)[j]? with
    | none => rw [e] at hd; cases hd
    | some x =>
      rw [e] at hd; cases hd
      obtain ⟨h1, h2⟩ := List.getElem?_eq_some_iff.mp e
      rw [List.getElem_range] at h2; subst h2
      exact hs j ρ μ (by simpa using h1) w
  · intro ρ μ w
    exact hf ρ μ (by simpa using w)
theorem sl_T {l u : Option Int} (q : Q (.tup (cutL xs l u)) μ) : drSl (.tup xs) l u μ Q := q
theorem cutL_from {α : Type} (xs : List α) (k : Nat) : cutL xs (some k) none = xs.drop k := by
  unfold cutL
  rw [HT.sIx_nat, HT.sIx_none]
  by_cases h : k ≤ xs.length
  · rw [Nat.min_eq_left h, List.take_of_length_le (by simp)]
  · rw [Nat.min_eq_right (by omega), List.drop_of_length_le (Nat.le_refl _), List.drop_of_length_le (by omega)]; simp
theorem cutL_to {α : Type} (xs : List α) (k : Nat) : cutL xs none (some k) = xs.take k := by
  unfold cutL
  rw [HT.sIx_nat, HT.sIx_none]
  simp
theorem valD_mapk {α : Type} {ks : List Str} {g : Str → α} {k : Str} : valD (ks.map fun k => ((Sum.inr k : Key), g k)) (.inr k) = if k ∈ ks then some (g k) else none := by
  induction ks with
  | nil => simp [valD_nil]
  | cons x r ih =>
    rw [List.map_cons, valD_cons, ih]
    by_cases h : x = k
    · subst h; simp
    · have : ¬ ((Sum.inr x : Key) = Sum.inr k) := fun z => h (by cases z; rfl)
      rw [if_neg this]
      by_cases h2 : k ∈ r
      · rw [if_pos h2, if_pos (List.mem_cons_of_mem _ h2)]
      · rw [if_neg h2, if_neg (by simp [Ne.symm h, h2])]
theorem putD_mapk {α : Type} {ks : List Str} {g : Str → α} {x : Str} {v : α} (h : x ∉ ks) : putD (ks.map fun k => ((Sum.inr k : Key), g k)) (.inr x) v = (ks.map fun k => ((Sum.inr k : Key), g k)) ++ [(.inr x, v)] := by
  unfold putD
  rw [if_neg]
  intro z
  rw [List.any_map] at z
  obtain ⟨k, hk, e⟩ := List.any_eq_true.mp z
  simp at e
  exact h (e ▸ hk)
theorem up_none {p : Addr} {o : MO} (h : up μ a o p = none) : p ≠ a ∧ μ p = none := by
  by_cases e : p = a
  · subst e; rw [up_same] at h; cases h
  · rw [up_ne e] at h; exact ⟨e, h⟩
theorem enums_at {k : Nat} {d : SD} (h : (enums xs)[k]? = some d) : ∃ y, xs[k]? = some y ∧ d = .tup [.int k, y] := by
  unfold enums at h
  rw [List.getElem?_mapIdx] at h
  cases e : xs[k]? with
  | none => rw [e] at h; cases h
  | some y => rw [e] at h; cases h; exact ⟨y, rfl, rfl⟩
theorem mul_okS {m n : Int} (h : -1000000 ≤ m ∧ m ≤ 1000000) (h2 : -1000000 ≤ n ∧ n ≤ 1000000) : IntMulOk m n := CMulW.ok (by
  have a : ∀ i : Int, -1000000 ≤ i ∧ i ≤ 1000000 → i.natAbs.log2 < 20 := fun i hi => by
    by_cases e : i.natAbs = 0
    · rw [e]; decide
    · exact (Nat.log2_lt e).mpr (by omega)
  have := a m h; have := a n h2; unfold CMulW; omega)
end
end MA
namespace LK
open PySem PySem.Spec PyProof.Rows L2 DS MA
def sts (ks : List Str) : List SD := ks.map SD.str
end LK
namespace LK
open PySem PySem.Spec PyProof.Rows L2 DS MA
/-- from k upwards -/
inductive Up (par : Str → Option Str) : Str → List Str → Prop where
  | root {k : Str} (h : par k = none) : Up par k [k]
  | step {k p : Str} {l : List Str} (h : par k = some p) (r : Up par p l) : Up par k (k :: l)
theorem Up.head {par : Str → Option Str} {k : Str} {l : List Str} (h : Up par k l) : ∃ r, l = k :: r := by cases h <;> exact ⟨_, rfl⟩
theorem Up.uniq {par : Str → Option Str} {k : Str} {l l' : List Str} (h : Up par k l) : Up par k l' → l = l' := by
  induction h generalizing l' with
  | root h => intro q; cases q with
    | root => rfl
    | step h2 _ => rw [h] at h2; cases h2
  | step h r ih => intro q; cases q with
    | root h2 => rw [h] at h2; cases h2
    | step h2 r2 => rw [h] at h2; cases h2; rw [ih r2]
/-- s is t, or inside it -/
inductive Sub : T → T → Prop where
  | refl (t : T) : Sub t t
  | kid {s c : T} {k : Str} {cs : List T} (h : c ∈ cs) (r : Sub s c) : Sub s (.node k cs)
theorem Sub.pre {s t : T} (h : Sub s t) : ∀ k ∈ pre s, k ∈ MA.pre t := by
  induction h with
  | refl => exact fun _ h => h
  | kid h r ih => intro k hk; rw [MA.pre]; exact List.mem_cons_of_mem _ (preL_sub h _ (ih k hk))
theorem Sub.len {s t : T} (h : Sub s t) : (MA.pre s).length ≤ (MA.pre t).length := by
  induction h with
  | refl => exact Nat.le_refl _
  | kid h r ih => rw [MA.pre, List.length_cons]; have := preL_len h; omega
theorem Sub.dep {s t : T} (h : Sub s t) : MA.dep s ≤ MA.dep t := by
  induction h with
  | refl => exact Nat.le_refl _
  | kid h r ih => rw [MA.dep]; have := depL_mem h; omega
theorem Sub.fits {f : Str → List Str} {s t : T} (h : Sub s t) : Fits f t → Fits f s := by
  induction h with
  | refl => exact fun h => h
  | kid h r ih => intro q; rw [Fits] at q; exact ih (FitsL_mem.mp q.2 _ h)
end LK
namespace LK
open PySem PySem.Spec PyProof.Rows L2 DS MA
theorem log2_lt {i : Int} {k : Nat} (hk : 0 < k) (h : i.natAbs < 2 ^ k) : i.natAbs.log2 < k := by
  by_cases e : i.natAbs = 0
  · rw [e]; simpa using hk
  · exact (Nat.log2_lt e).mpr h
theorem mul_ok {i j : Int} (hi : i.natAbs < 2 ^ 2000) (hj : j.natAbs < 2 ^ 2000) : IntMulOk i j := CMulW.ok (by
  have := log2_lt (by decide) hi; have := log2_lt (by decide) hj; unfold CMulW; omega)
theorem pow_ok {i : Int} {n : Nat} (hi : i.natAbs < 2 ^ 2000) (hn : n ≤ 60) : CPowW i n := by
  refine ⟨by omega, ?_⟩
  have h1 := log2_lt (by decide) hi
  have h2 : Builtin.Int.intBits i ≤ 2001 := by unfold Builtin.Int.intBits; split <;> omega
  have h3 : (Builtin.Int.intBits i : Int) * (n : Int) ≤ 2001 * 60 := by
    exact_mod_cast Nat.mul_le_mul h2 hn
  omega
theorem div_ok {i j : Int} (h0 : 0 < j) (h : j.natAbs < 2 ^ 2000) : CDivW i j := ⟨h0, by have := log2_lt (by decide) h; omega⟩
theorem abs_lt {i : Int} {a b : Nat} (h0 : 0 ≤ i) (h : i < (2 : Int) ^ a) (hab : a ≤ b) : i.natAbs < 2 ^ b := by
  have h1 : i.natAbs < 2 ^ a := by
    have : ((i.natAbs : Nat) : Int) = i := Int.natAbs_of_nonneg h0
    have h2 : ((2 ^ a : Nat) : Int) = (2 : Int) ^ a := by norm_cast
    omega
  exact Nat.lt_of_lt_of_le h1 (Nat.pow_le_pow_right (by decide) hab)
/-- the hand: a great number, a number to mix, the turn -/
structure HandAt (μ : Mu) (h : Addr) (T : Nat) : Prop where
  ex : ∃ g m t : Int, μ h = some (.lst [.int g, .int m, .int t]) ∧ 0 ≤ g ∧ 0 ≤ m ∧ m < 2305843009213693921 ∧ 0 ≤ t ∧ t ≤ T
theorem HandAt.mono {μ : Mu} {h : Addr} {T T' : Nat} (H : HandAt μ h T) (l : T ≤ T') : HandAt μ h T' := by
  obtain ⟨g, m, t, e, a, b, c, d, f⟩ := H.ex
  exact ⟨g, m, t, e, a, b, c, d, by omega⟩
theorem HandAt.le {μ μ' : Mu} {h : Addr} {T : Nat} (H : HandAt μ h T) (l : Le μ μ') : HandAt μ' h T := by
  obtain ⟨g, m, t, e, r⟩ := H.ex
  exact ⟨g, m, t, l _ _ e, r⟩
theorem HandAt.ne {μ : Mu} {h p : Addr} {T : Nat} (H : HandAt μ h T) (hp : μ p = none) : h ≠ p := by
  obtain ⟨g, m, t, e, r⟩ := H.ex
  intro z; subst z; rw [hp] at e; cases e
theorem HandAt.up {μ : Mu} {h p : Addr} {T : Nat} {m : MO} (H : HandAt μ h T) (hp : h ≠ p) : HandAt (up μ p m) h T := by
  obtain ⟨g, m, t, e, r⟩ := H.ex
  exact ⟨g, m, t, by rw [up_ne hp]; exact e, r⟩
theorem HandAt.rm {μ : Mu} {h p : Addr} {T : Nat} (H : HandAt μ h T) (hp : h ≠ p) : HandAt (rm μ p) h T := by
  obtain ⟨g, m, t, e, r⟩ := H.ex
  exact ⟨g, m, t, by rw [rm_ne hp]; exact e, r⟩
def sp__law_take : DSp := fun ds μ Q _ => ∃ h many T, ds = [.ref h, .int many] ∧ 0 < many ∧ many ≤ 10000000000000000000000000000000000000000 ∧ T ≤ 1000000000 ∧ HandAt μ h T ∧ ∀ (d : Int) μ', 0 ≤ d → d < many → HandAt μ' h (T + 1) → LeX h μ μ' → Q (.int d) μ'
theorem len__law_take : ∀ ds μ Q E, sp__law_take ds μ Q E → ds.length = 2 := by rintro ds μ Q E ⟨h, many, T, rfl, _⟩; rfl
def t__law_take : DTS := (dSeq (dIfS (dTest (dOp dGt (dOp dIx (dVar 0) (dC (.int 0))) (dC (.int 0)))) (dSeq (dSet (dOp dMod (dOp dIx (dVar 0) (dC (.int 0))) (dVar 1)) 5)
    (dSeq (dAsg (dOp dDiv (dOp dIx (dVar 0) (dC (.int 0))) (dVar 1)) (hSub (dVar 0) (dC (.int 0)) dsetL))
    (dRet (dVar 5)))) dNext)
    (dSeq (dSet (dOp dAdd (dOp dIx (dVar 0) (dC (.int 2))) (dC (.int 1))) 2)
    (dSeq (dAsg (dVar 2) (hSub (dVar 0) (dC (.int 2)) dsetL))
    (dSeq (dSet (dOp dIx (dLst (dCons (dC (.int 2147483647)) (dCons (dC (.int 2147483629)) (dCons (dC (.int 2147483587)) (dCons (dC (.int 2147483579)) (dCons (dC (.int 2147483563)) (dCons (dC (.int 2147483549)) dNil))))))) (dOp dMod (dVar 2) (dC (.int 6)))) 3)
    (dSeq (dSet (dOp dMod (dOp dPow (dOp dAdd (dOp dAdd (dOp dIx (dVar 0) (dC (.int 1))) (dOp dMul (dOp dMul (dC (.int 65537)) (dVar 2)) (dVar 2))) (dOp dMul (dC (.int 31)) (dVar 2))) (dC (.int 3))) (dVar 3)) 4)
    (dRet (dOp dMod (dOp dDiv (dOp dMod (dOp dMul (dVar 4) (dOp dAdd (dOp dMod (dVar 4) (dC (.int 10007))) (dOp dMul (dC (.int 13)) (dVar 2)))) (dC (.int 2305843009213693907))) (dC (.int 97))) (dVar 1))))))))
theorem setL_ok {μ : Mu} {a : Addr} {xs : List SD} {k : Int} {j : Nat} {v : SD} {R : Mu → Prop} (m : μ a = some (.lst xs)) (h : ixN xs.length k = some j) (q : R (up μ a (.lst (xs.set j v)))) : dsetL (.ref a) (.int k) v μ R := by
  unfold dsetL
  have e : mlst μ (.ref a) = some (a, xs) := by simp [mlst, m]
  simp only [e, h]; exact q
theorem read__law_take : ∀ ds μ Q E, sp__law_take ds μ Q E → t__law_take { nx := fun _ μ' => Q .non μ', rt := Q } (begin_ ["_law_hand_here", "_law_many", "_law_turn", "_law_prime", "_law_mixed", "_law_digit"] ds) μ := by
  rintro ds μ Q E ⟨h, many, T, rfl, hm0, hm1, hT, H, q⟩
  unfold t__law_take
  obtain ⟨g, m, t, e, g0, m0, m1, t0, t1⟩ := H.ex
  refine r_var rfl ?_
  refine ix_ref (d := .int g) e rfl ?_
  by_cases hg : 0 < g
  · refine ifT (decide_eq_true hg) ?_
    refine r_var rfl ?_
    refine ix_ref (d := .int g) e rfl ?_
    refine r_var rfl ?_
    refine ⟨hm0, ?_⟩
    dsimp only
    refine r_var rfl ?_
    refine ix_ref (d := .int g) e rfl ?_
    refine r_var rfl ?_
    refine ⟨div_ok hm0 (abs_lt (a := 140) (by omega) (by omega) (by decide)), ?_⟩
    refine r_var rfl ?_
    refine setL_ok (j := 0) e rfl ?_
    dsimp only
    refine r_var rfl ?_
    refine q _ _ (Int.emod_nonneg _ (by omega)) (Int.emod_lt_of_pos _ hm0) ⟨g / many, m, t, by rw [up_same]; rfl, Int.ediv_nonneg g0 (by omega), m0, m1, t0, by omega⟩ ((LeX.refl h μ).put)
  · refine ifF (decide_eq_false hg) ?_
    simp only [dNext]
    refine r_var rfl ?_
    refine ix_ref (d := .int t) e rfl ?_
    refine i_add ?_
    dsimp only
    refine r_var rfl ?_
    refine r_var rfl ?_
    refine setL_ok (j := 2) e rfl ?_
    dsimp only
    refine ⟨(by show 6 ≤ sizeLine; decide), ?_⟩
    refine r_var rfl ?_
    refine i_mod (by decide) ?_
    have hp : ∃ p : Int, atI [SD.int 2147483647, .int 2147483629, .int 2147483587, .int 2147483579, .int 2147483563, .int 2147483549] ((t + 1) % 6) = some (.int p) ∧ 0 < p ∧ p ≤ 2147483647 := by
      have h0 := Int.emod_nonneg (t + 1) (show (6 : Int) ≠ 0 by decide)
      have h1 := Int.emod_lt_of_pos (t + 1) (show (0 : Int) < 6 by decide)
      generalize (t + 1) % 6 = r at h0 h1
      have : r = 0 ∨ r = 1 ∨ r = 2 ∨ r = 3 ∨ r = 4 ∨ r = 5 := by omega
      rcases this with rfl | rfl | rfl | rfl | rfl | rfl <;> exact ⟨_, rfl, by decide, by decide⟩
    obtain ⟨p, hat, p0, p1⟩ := hp
    refine ix_lst hat ?_
    dsimp only
    have e2 : up μ h (.lst (([SD.int g, .int m, .int t] : List SD).set 2 (.int (t + 1)))) h = some (.lst [.int g, .int m, .int (t + 1)]) := by rw [up_same]; rfl
    refine r_var rfl ?_
    refine ix_ref (d := .int m) e2 rfl ?_
    have T1 : (t + 1).natAbs < 2 ^ 2000 := abs_lt (a := 40) (by omega) (by omega) (by decide)
    refine r_var rfl ?_
    refine i_mul (mul_ok (by decide) T1) ?_
    refine r_var rfl ?_
    have T2 : (65537 * (t + 1)).natAbs < 2 ^ 2000 := abs_lt (a := 60) (by omega) (by omega) (by decide)
    refine i_mul (mul_ok T2 T1) ?_
    refine i_add ?_
    refine r_var rfl ?_
    refine i_mul (mul_ok (by decide) T1) ?_
    refine i_add ?_
    have sq : 0 ≤ 65537 * (t + 1) * (t + 1) ∧ 65537 * (t + 1) * (t + 1) ≤ 65537 * 1000000001 * 1000000001 := by
      have a1 : 0 ≤ 65537 * (t + 1) := by omega
      have a2 : 65537 * (t + 1) ≤ 65537 * 1000000001 := by omega
      exact ⟨Int.mul_nonneg a1 (by omega), Int.mul_le_mul a2 (by omega) (by omega) (by decide)⟩
    refine i_pow (n := 3) (pow_ok (n := 3) (abs_lt (a := 100) (by omega) (by omega) (by decide)) (by decide)) ?_
    refine r_var rfl ?_
    refine i_mod p0 ?_
    dsimp only
    refine r_var rfl ?_
    refine r_var rfl ?_
    refine i_mod (by decide) ?_
    refine r_var rfl ?_
    refine i_mul (mul_ok (by decide) T1) ?_
    refine i_add ?_
    generalize hx : (m + 65537 * (t + 1) * (t + 1) + 31 * (t + 1)) ^ (Int.toNat 3) % p = x
    have x0 : 0 ≤ x := by rw [← hx]; exact Int.emod_nonneg _ (by omega)
    have x1 : x < p := by rw [← hx]; exact Int.emod_lt_of_pos _ p0
    have y0 := Int.emod_nonneg x (show (10007 : Int) ≠ 0 by decide)
    have y1 := Int.emod_lt_of_pos x (show (0 : Int) < 10007 by decide)
    refine i_mul (mul_ok (abs_lt (a := 40) x0 (by omega) (by decide)) (abs_lt (a := 60) (by omega) (by omega) (by decide))) ?_
    refine i_mod (by decide) ?_
    refine i_div (div_ok (by decide) (abs_lt (a := 40) (by omega) (by omega) (by decide))) ?_
    refine r_var rfl ?_
    refine i_mod hm0 ?_
    exact q _ _ (Int.emod_nonneg _ (by omega)) (Int.emod_lt_of_pos _ hm0) ⟨g, m, t + 1, e2, g0, m0, m1, by omega, by omega⟩ ((LeX.refl h μ).put)
end LK
namespace LK
open PySem PySem.Spec PyProof.Rows L2 DS MA
def sp__law_hand : DSp := fun ds μ Q _ => ∃ (ns : List Int) (k : Nat), ds = [.rol (ns.map SD.int), .int k] ∧ k ≤ 1000000 ∧ ∀ p μ', μ p = none → Le μ μ' → HandAt μ' p 0 → Q (.ref p) μ'
theorem len__law_hand : ∀ ds μ Q E, sp__law_hand ds μ Q E → ds.length = 2 := by rintro ds μ Q E ⟨ns, k, rfl, _⟩; rfl
def t__law_hand : DTS := (dSeq (dSet (dIf (dTest (dOp dLt (dVar 1) (dCB drLen (dCons (dVar 0) dNil)))) (dOp dIx (dVar 0) (dVar 1)) (dOp dAdd (dOp dMul (dC (.int 11)) (dVar 1)) (dC (.int 5)))) 2)
    (dSeq (dSet (dOp dMul (dOp dMod (dCB (drI1 fun i => if i < 0 then -i else i) (dCons (dVar 2) dNil)) (dOp dPow (dOp dPow (dC (.int 10)) (dC (.int 60))) (dC (.int 5)))) (dCB drInt (dCons (dOp dGe (dCB (drI1 fun i => if i < 0 then -i else i) (dCons (dVar 2) dNil)) (dOp dPow (dC (.int 10)) (dC (.int 18)))) dNil))) 3)
    (dRet (dLstM (dCons (dVar 3) (dCons (dOp dMod (dOp dMul (dOp dAdd (dOp dAdd (dOp dMod (dVar 2) (dC (.int 2305843009213693951))) (dOp dMul (dOp dMul (dC (.int 104729)) (dVar 1)) (dVar 1))) (dC (.int 41))) (dC (.int 48271))) (dC (.int 2305843009213693921))) (dCons (dC (.int 0)) dNil)))))))
theorem i_abs {μ : Mu} {Q : SD → Mu → Prop} {i : Int} (q : ∀ j : Int, 0 ≤ j → Q (.int j) μ) : drI1 (fun i => if i < 0 then -i else i) [.int i] μ Q := by
  refine q _ ?_
  dsimp only
  split <;> omega
theorem i_bool {μ : Mu} {Q : SD → Mu → Prop} {b : Bool} (q : Q (.int (if b then 1 else 0)) μ) : drInt [.bl b] μ Q := q
theorem ten_pow : (0 : Int) < (10 ^ Int.toNat 60) ^ Int.toNat 5 ∧ ((10 : Int) ^ Int.toNat 60) ^ Int.toNat 5 < 2 ^ 1000 := by decide +kernel
theorem ten60 : ((10 : Int) ^ Int.toNat 60).natAbs < 2 ^ 2000 := by decide +kernel
theorem read__law_hand : ∀ ds μ Q E, sp__law_hand ds μ Q E → t__law_hand { nx := fun _ μ' => Q .non μ', rt := Q } (begin_ ["_law_script", "_law_k", "_law_cell", "_law_great"] ds) μ := by
  rintro ds μ Q E ⟨ns, k, rfl, hk, q⟩
  unfold t__law_hand
  have cell : ∀ (D : DEnds), (∀ c : Int, D.nx ((begin_ ["_law_script", "_law_k", "_law_cell", "_law_great"] [.rol (ns.map SD.int), .int k]).set 2 (some (.int c))) μ) → dSet (dIf (dTest (dOp dLt (dVar 1) (dCB drLen (dCons (dVar 0) dNil)))) (dOp dIx (dVar 0) (dVar 1)) (dOp dAdd (dOp dMul (dC (.int 11)) (dVar 1)) (dC (.int 5)))) 2 D (begin_ ["_law_script", "_law_k", "_law_cell", "_law_great"] [.rol (ns.map SD.int), .int k]) μ := fun D h => by
    refine r_var rfl ?_
    refine r_var rfl ?_
    refine l_lenO ?_
    refine i_lt ?_
    by_cases hc : k < ns.length
    · refine ifT (by simpa using hc) ?_
      refine r_var rfl ?_
      refine r_var rfl ?_
      refine ix_rol (d := .int ns[k]) (atI_nat (by simp [hc])) (h _)
    · refine ifF (by simpa using hc) ?_
      refine r_var rfl ?_
      refine i_mul (mul_ok (by decide) (abs_lt (a := 40) (by omega) (by omega) (by decide))) ?_
      exact i_add (h _)
  refine cell _ fun c => ?_
  dsimp only
  refine r_var rfl ?_
  refine i_abs fun A hA => ?_
  refine i_pow (n := 60) (pow_ok (n := 60) (by decide) (by decide)) ?_
  refine i_pow (n := 5) (pow_ok (n := 5) ten60 (by decide)) ?_
  refine i_mod ten_pow.1 ?_
  refine r_var rfl ?_
  refine i_abs fun B hB => ?_
  refine i_pow (n := 18) (pow_ok (n := 18) (by decide) (by decide)) ?_
  refine i_ge ?_
  refine i_bool ?_
  have g0 := Int.emod_nonneg A (show ((10 : Int) ^ Int.toNat 60) ^ Int.toNat 5 ≠ 0 from Int.ne_of_gt ten_pow.1)
  have g1 := Int.lt_trans (Int.emod_lt_of_pos A ten_pow.1) ten_pow.2
  have b0 : ∀ b : Bool, (if b = true then (1 : Int) else 0).natAbs < 2 ^ 2000 ∧ 0 ≤ (if b = true then (1 : Int) else 0) := by decide
  refine i_mul (mul_ok (abs_lt (a := 1000) g0 g1 (by decide)) (b0 _).1) ?_
  dsimp only
  refine r_var rfl ?_
  refine r_var rfl ?_
  refine i_mod (by decide) ?_
  refine r_var rfl ?_
  refine i_mul (mul_ok (by decide) (abs_lt (a := 40) (by omega) (by omega) (by decide))) ?_
  refine r_var rfl ?_
  have k1 : 0 ≤ 104729 * (k : Int) * (k : Int) ∧ 104729 * (k : Int) * (k : Int) ≤ 104729 * 1000000 * 1000000 := ⟨Int.mul_nonneg (by omega) (by omega), Int.mul_le_mul (by omega) (by omega) (by omega) (by decide)⟩
  refine i_mul (mul_ok (abs_lt (a := 60) (by omega) (by omega) (by decide)) (abs_lt (a := 40) (by omega) (by omega) (by decide))) ?_
  refine i_add ?_
  refine i_add ?_
  have c0 := Int.emod_nonneg c (show (2305843009213693951 : Int) ≠ 0 by decide)
  have c1 := Int.emod_lt_of_pos c (show (0 : Int) < 2305843009213693951 by decide)
  refine i_mul (mul_ok (abs_lt (a := 100) (by omega) (by omega) (by decide)) (by decide)) ?_
  refine i_mod (by decide) ?_
  refine ⟨(by show 3 ≤ sizeLine; decide), fun p hp => ?_⟩
  exact q p _ hp ((Le.refl μ).up hp) ⟨_, _, _, up_same, Int.mul_nonneg g0 (b0 _).2, Int.emod_nonneg _ (by decide), Int.emod_lt_of_pos _ (by decide), Int.le_refl 0, Int.le_refl 0⟩
def sp__law_of : DSp := fun ds μ Q _ => ∃ h x xs T, ds = [.ref h, x] ∧ (x = .lst xs ∨ ∃ u : Str, x = .str u ∧ xs = u.cps.toList.map fun c => .str ⟨#[c]⟩) ∧ xs ≠ [] ∧ xs.length ≤ 1000000 ∧ T ≤ 1000000000 ∧ HandAt μ h T ∧ ∀ (i : Nat) d μ', xs[i]? = some d → HandAt μ' h (T + 1) → LeX h μ μ' → Q d μ'
theorem len__law_of : ∀ ds μ Q E, sp__law_of ds μ Q E → ds.length = 2 := by rintro ds μ Q E ⟨h, x, xs, T, rfl, _⟩; rfl
def t__law_of : DTS := (dRet (dOp dIx (dVar 1) (dCall sp__law_take [] (dCons (dVar 0) (dCons (dCB drLen (dCons (dVar 1) dNil)) dNil)))))
theorem read__law_of : ∀ ds μ Q E, sp__law_of ds μ Q E → t__law_of { nx := fun _ μ' => Q .non μ', rt := Q } (begin_ ["_law_hand_here", "_law_items"] ds) μ := by
  rintro ds μ Q E ⟨h, x, xs, T, rfl, hx, hne, hl, hT, H, q⟩
  unfold t__law_of
  refine r_var rfl ?_
  refine r_var rfl ?_
  refine r_var rfl ?_
  have hpos : 0 < xs.length := List.length_pos_iff.mpr hne
  rcases hx with rfl | ⟨u, rfl, rfl⟩
  · refine l_len ?_
    refine ⟨h, xs.length, T, rfl, by omega, by omega, hT, H, fun d μ' d0 d1 H' l => ?_⟩
    obtain ⟨i, rfl⟩ := Int.eq_ofNat_of_zero_le d0
    have hi : i < xs.length := by omega
    have e : xs[i]? = some xs[i] := List.getElem?_eq_getElem hi
    exact ix_lst (atI_nat e) (q i _ μ' e H' l)
  · rw [List.length_map] at hpos hl
    have hu : u.length = u.cps.toList.length := rfl
    refine l_lenS (le_line (by rw [hu]; exact hl) (by omega)) ?_
    refine ⟨h, u.length, T, rfl, by omega, by omega, hT, H, fun d μ' d0 d1 H' l => ?_⟩
    obtain ⟨i, rfl⟩ := Int.eq_ofNat_of_zero_le d0
    have hi : i < u.cps.toList.length := by omega
    have e : u.cps.toList[i]? = some u.cps.toList[i] := List.getElem?_eq_getElem hi
    refine ix_str (le_line (by rw [hu]; exact hl) (by omega)) (atI_nat e) (q i _ μ' ?_ H' l)
    rw [List.getElem?_map, e]; rfl
end LK
namespace LK
open PySem PySem.Spec PyProof.Rows L2 DS MA
theorem lex_none {h p : Addr} {μ μ' : Mu} {T : Nat} (l : LeX h μ μ') (H : HandAt μ' h T) (hp : μ' p = none) : μ p = none ∧ h ≠ p := by
  have hne := H.ne hp
  refine ⟨?_, hne⟩
  cases e : μ p with
  | none => rfl
  | some m => rw [l p m (Ne.symm hne) e] at hp; cases hp
theorem abc : ("abcdefghijklmnopqrstuvwxyz" : Str).cps.toList = (List.range 26).map (97 + ·) := by decide +kernel
theorem abc_at {x : Int} (h0 : 0 ≤ x) (h1 : x < 26) : atI ("abcdefghijklmnopqrstuvwxyz" : Str).cps.toList x = some (97 + x.toNat) := by
  obtain ⟨i, rfl⟩ := Int.eq_ofNat_of_zero_le h0
  rw [abc]
  have hi : i < 26 := by omega
  exact atI_nat (by rw [List.getElem?_map, List.getElem?_range hi]; rfl)
def keyN (f l : Int) (stem : Str) (i : Nat) : Str := stem ++ (⟨#[97 + ((f + l * i) % 26).toNat]⟩ : Str) ++ (if 25 < i then (⟨#[97 + ((i : Int) / 26 - 1).toNat]⟩ : Str) else "")
theorem keyN_cps (f l : Int) (stem : Str) (i : Nat) : (keyN f l stem i).cps.toList = stem.cps.toList ++ ([97 + ((f + l * i) % 26).toNat] ++ (if 25 < i then [97 + ((i : Int) / 26 - 1).toNat] else [])) := by
  have app : ∀ u v : Str, (u ++ v).cps.toList = u.cps.toList ++ v.cps.toList := fun u v => by
    show (u.cps ++ v.cps).toList = _
    simp
  unfold keyN
  rw [app, app]
  by_cases h : 25 < i
  · rw [if_pos h, if_pos h, List.append_assoc]
  · rw [if_neg h, if_neg h, List.append_assoc]; rfl
theorem keyN_inj {f l : Int} {stem : Str} {i j : Nat} (hl : l = 1 ∨ l = 3 ∨ l = 5 ∨ l = 7 ∨ l = 9 ∨ l = 11) (e : keyN f l stem i = keyN f l stem j) : i = j := by
  have e1 : (keyN f l stem i).cps.toList = (keyN f l stem j).cps.toList := by rw [e]
  rw [keyN_cps, keyN_cps] at e1
  have e2 := List.append_cancel_left e1
  rw [List.cons_append, List.cons_append, List.nil_append, List.nil_append, List.cons.injEq] at e2
  obtain ⟨e3, e4⟩ := e2
  have e5 : (i : Int) / 26 = (j : Int) / 26 := by
    by_cases h1 : 25 < i <;> by_cases h2 : 25 < j
    · rw [if_pos h1, if_pos h2] at e4; simp at e4; omega
    · rw [if_pos h1, if_neg h2] at e4; cases e4
    · rw [if_neg h1, if_pos h2] at e4; cases e4
    · omega
  have e6 : (f + l * i) % 26 = (f + l * j) % 26 := by
    have a := Int.emod_nonneg (f + l * i) (show (26 : Int) ≠ 0 by decide)
    have b := Int.emod_nonneg (f + l * j) (show (26 : Int) ≠ 0 by decide)
    omega
  rcases hl with rfl | rfl | rfl | rfl | rfl | rfl <;> omega
theorem q_setC {d : SD} {i : Nat} {rest : DTS} {D : DEnds} {ρ : Rho} {μ : Mu} (h : rest D (ρ.set i (some d)) μ) : dSeq (dSet (dC d) i) rest D ρ μ := h
end LK
namespace LK
open PySem PySem.Spec PyProof.Rows L2 DS MA
/-- 1 to 8 small letters -/
def LowK (k : Str) : Prop := 1 ≤ k.cps.size ∧ k.cps.size ≤ 8 ∧ ∀ c ∈ k.cps.toList, 97 ≤ c ∧ c < 123
def sp__law_keys : DSp := fun ds μ Q _ => ∃ h many T, ds = [.ref h, .int (many : Nat)] ∧ many ≤ 600 ∧ T ≤ 900000000 ∧ HandAt μ h T ∧ ∀ names μ', names.Nodup → names.length = many → (∀ k ∈ names, KeyOk k ∧ LowK k) → HandAt μ' h (T + 4) → LeX h μ μ' → Q (.lst (sts names)) μ'
theorem len__law_keys : ∀ ds μ Q E, sp__law_keys ds μ Q E → ds.length = 2 := by rintro ds μ Q E ⟨h, many, T, rfl, _⟩; rfl
def t__law_keys : DTS := (dSeq (dSet (dC (.str "abcdefghijklmnopqrstuvwxyz")) 2)
    (dSeq (dPar 3 4 (dCons (dCall sp__law_take [] (dCons (dVar 0) (dCons (dC (.int 26)) dNil))) (dCons (dCall sp__law_of [] (dCons (dVar 0) (dCons (dLst (dCons (dC (.int 1)) (dCons (dC (.int 3)) (dCons (dC (.int 5)) (dCons (dC (.int 7)) (dCons (dC (.int 9)) (dCons (dC (.int 11)) dNil))))))) dNil))) dNil)))
    (dSeq (dSet (dOp dMul (dCall sp__law_of [] (dCons (dVar 0) (dCons (dVar 2) dNil))) (dCall sp__law_of [] (dCons (dVar 0) (dCons (dLst (dCons (dC (.int 0)) (dCons (dC (.int 0)) (dCons (dC (.int 1)) (dCons (dC (.int 3)) (dCons (dC (.int 6)) dNil)))))) dNil)))) 5)
    (dSeq (dSet (dLstM dNil) 6)
    (dSeq (dFor (jRng1 (dCons (dVar 1) dNil)) (hName 7) (dSeq (dSet (dIf (dTest (dOp dGt (dVar 7) (dC (.int 25)))) (dOp dIx (dVar 2) (dOp dSub (dOp dDiv (dVar 7) (dC (.int 26))) (dC (.int 1)))) (dC (.str ""))) 8)
    (dDrop (dLM dmAppend (dVar 6) (dCons (dOp dAdd (dOp dAdd (dVar 5) (dOp dIx (dVar 2) (dOp dMod (dOp dAdd (dVar 3) (dOp dMul (dVar 4) (dVar 7))) (dC (.int 26))))) (dVar 8)) dNil)))))
    (dRetF (dVar 6)))))))
theorem read__law_keys : ∀ ds μ Q E, sp__law_keys ds μ Q E → t__law_keys { nx := fun _ μ' => Q .non μ', rt := Q } (begin_ ["_law_hand_here", "_law_many", "_law_letters", "_law_first", "_law_leap", "_law_stem", "_law_found", "_law_nth", "_law_tail"] ds) μ := by
  rintro ds μ Q E ⟨h, many, T, rfl, hm, hT, H, q⟩
  unfold t__law_keys
  refine q_setC ?_
  refine r_var rfl ?_
  refine ⟨h, 26, T, rfl, by decide, by decide, by omega, H, fun f μ1 f0 f1 H1 l1 => ?_⟩
  refine r_var rfl ?_
  refine ⟨(by show 6 ≤ sizeLine; decide), ?_⟩
  refine ⟨h, _, _, T + 1, rfl, .inl rfl, by simp, by simp, by omega, H1, fun i d μ2 hd H2 l2 => ?_⟩
  have hl : ∃ l : Int, d = .int l ∧ (l = 1 ∨ l = 3 ∨ l = 5 ∨ l = 7 ∨ l = 9 ∨ l = 11) := by
    have := List.mem_of_getElem? hd
    simp at this
    rcases this with rfl | rfl | rfl | rfl | rfl | rfl <;> exact ⟨_, rfl, by decide⟩
  obtain ⟨l, rfl, hl⟩ := hl
  dsimp only
  refine r_var rfl ?_
  refine r_var rfl ?_
  have hal : ("abcdefghijklmnopqrstuvwxyz" : Str).cps.toList.length = 26 := by rw [abc]; simp
  refine ⟨h, _, _, T + 2, rfl, .inr ⟨_, rfl, rfl⟩, by intro z; have := congrArg List.length z; rw [List.length_map, hal] at this; simp at this, by rw [List.length_map, hal]; omega, by omega, H2, fun i d μ3 hd H3 l3 => ?_⟩
  obtain ⟨c, hc, rfl⟩ := List.mem_map.mp (List.mem_of_getElem? hd)
  have hc2 : 97 ≤ c ∧ c < 123 := by
    rw [abc] at hc; obtain ⟨j, hj, rfl⟩ := List.mem_map.mp hc; have := List.mem_range.mp hj; omega
  refine r_var rfl ?_
  refine ⟨(by show 5 ≤ sizeLine; decide), ?_⟩
  refine ⟨h, _, _, T + 3, rfl, .inl rfl, by simp, by simp, by omega, H3, fun i d μ4 hd H4 l4 => ?_⟩
  have hn : ∃ n : Nat, d = .int n ∧ n ≤ 6 := by
    have := List.mem_of_getElem? hd
    simp at this
    rcases this with rfl | rfl | rfl | rfl
    · exact ⟨0, rfl, by decide⟩
    · exact ⟨1, rfl, by decide⟩
    · exact ⟨3, rfl, by decide⟩
    · exact ⟨6, rfl, by decide⟩
  obtain ⟨n, rfl, hn⟩ := hn
  refine s_mul ⟨by omega, by omega, by show 1 * _ ≤ _; rw [sizeLine_eq]; omega⟩ ?_
  rw [Int.toNat_natCast]
  have hs : (repS (⟨#[c]⟩ : Str) n).cps.toList = List.replicate n c := by
    show ((List.replicate n [c]).flatten.toArray).toList = _
    simp
  generalize hst : repS (⟨#[c]⟩ : Str) n = stem at hs
  dsimp only
  refine ⟨by decide, fun p hp => ?_⟩
  dsimp only
  obtain ⟨hp0, hne⟩ := lex_none (((l1.trans l2).trans l3).trans l4) H4 hp
  have kl : ∀ i, (keyN f l stem i).cps.toList.length ≤ 8 := fun i => by
    rw [keyN_cps, hs]; split <;> simp <;> omega
  refine for_R rfl (by omega) ⟨fun i ρ μ' => ∃ a b : Option SD, ρ = [some (.ref h), some (.int many), some (.str "abcdefghijklmnopqrstuvwxyz"), some (.int f), some (.int l), some (.str stem), some (.ref p), a, b] ∧ μ' p = some (.lst (sts ((List.range i).map (keyN f l stem)))) ∧ LeX h μ μ' ∧ HandAt μ' h (T + 4), ?_, ?_, ?_⟩
  · exact ⟨_, _, rfl, by rw [up_same]; rfl, (((l1.trans l2).trans l3).trans l4).up hp0, H4.up hne⟩
  · rintro i ρ μ' hi ⟨a, b, rfl, hp', lx, HH⟩
    have tail : ∀ (D : DEnds) (ρ : Rho), ρ[7]? = some (some (.int i)) → ρ[2]? = some (some (.str "abcdefghijklmnopqrstuvwxyz")) → D.nx (ρ.set 8 (some (.str (if 25 < i then (⟨#[97 + ((i : Int) / 26 - 1).toNat]⟩ : Str) else "")))) μ' → dSet (dIf (dTest (dOp dGt (dVar 7) (dC (.int 25)))) (dOp dIx (dVar 2) (dOp dSub (dOp dDiv (dVar 7) (dC (.int 26))) (dC (.int 1)))) (dC (.str ""))) 8 D ρ μ' := fun D ρ h7 h2 q => by
      refine r_var h7 ?_
      refine i_gt ?_
      by_cases hc : 25 < i
      · refine ifT (by simp only [decide_eq_true_eq]; omega) ?_
        refine r_var h2 ?_
        refine r_var h7 ?_
        refine i_div (div_ok (by decide) (by decide)) ?_
        refine i_sub ?_
        refine ix_str (by show ("abcdefghijklmnopqrstuvwxyz" : Str).cps.toList.length ≤ _; rw [hal]; decide) (abc_at (by omega) (by omega)) ?_
        rw [if_pos hc] at q; exact q
      · refine ifF (by simp only [decide_eq_false_iff_not]; omega) ?_
        rw [if_neg hc] at q; exact q
    refine tail _ _ rfl rfl ?_
    dsimp only
    refine r_var rfl ⟨isSome_ref hp', ?_⟩
    refine r_var rfl ?_
    refine r_var rfl ?_
    refine r_var rfl ?_
    refine r_var rfl ?_
    refine r_var rfl ?_
    refine i_mul (mul_ok (by rcases hl with rfl | rfl | rfl | rfl | rfl | rfl <;> decide) (abs_lt (a := 40) (by omega) (by omega) (by decide))) ?_
    refine i_add ?_
    refine i_mod (by decide) ?_
    have r0 := Int.emod_nonneg (f + l * i) (show (26 : Int) ≠ 0 by decide)
    have r1 := Int.emod_lt_of_pos (f + l * i) (show (0 : Int) < 26 by decide)
    refine ix_str (by show ("abcdefghijklmnopqrstuvwxyz" : Str).cps.toList.length ≤ _; rw [hal]; decide) (abc_at r0 r1) ?_
    have sl : stem.length ≤ 6 := by show stem.cps.toList.length ≤ 6; rw [hs]; simp; omega
    refine s_add (by rw [sizeLine_eq]; show stem.length + 1 ≤ _; omega) ?_
    refine r_var rfl ?_
    refine s_add ?_ ?_
    · have a1 : (stem ++ (⟨#[97 + ((f + l * i) % 26).toNat]⟩ : Str)).length ≤ 7 := by
        show (stem.cps ++ _).size ≤ 7
        rw [Array.size_append]
        have : stem.cps.size ≤ 6 := sl
        simp; omega
      have a2 : (if 25 < i then (⟨#[97 + ((i : Int) / 26 - 1).toNat]⟩ : Str) else "").length ≤ 1 := by split <;> exact Nat.le_of_ble_eq_true rfl
      rw [sizeLine_eq]; omega
    · refine dm_append hp' (lt_line (m := 600) (by simp [sts]; omega) (by omega)) ?_
      refine ⟨_, _, rfl, ?_, lx.up hp0, HH.up hne⟩
      rw [up_same, List.range_succ, List.map_append]
      simp [sts, keyN]
  · rintro ρ μ' ⟨a, b, rfl, hp', lx, HH⟩
    dsimp only
    refine r_var rfl ?_
    unfold frz
    simp only [hp']
    refine q _ _ ?_ (by simp) ?_ (HH.rm hne) (lx.rm hp0)
    · refine List.pairwise_map.mpr (List.Pairwise.imp ?_ List.nodup_range)
      intro a b hab e
      exact hab (keyN_inj hl e)
    · intro k hk
      obtain ⟨i, hi, rfl⟩ := List.mem_map.mp hk
      have hi2 := List.mem_range.mp hi
      have := kl i
      have low : ∀ x ∈ (keyN f l stem i).cps.toList, 97 ≤ x ∧ x < 123 := by
        intro x hx
        rw [keyN_cps, hs] at hx
        have r0 := Int.emod_nonneg (f + l * i) (show (26 : Int) ≠ 0 by decide)
        have r1 := Int.emod_lt_of_pos (f + l * i) (show (0 : Int) < 26 by decide)
        rcases List.mem_append.mp hx with hx | hx
        · have := (List.mem_replicate.mp hx).2; omega
        · rcases List.mem_append.mp hx with hx | hx
          · simp at hx; omega
          · split at hx
            · simp at hx; omega
            · cases hx
      refine ⟨⟨?_, by rw [← Array.length_toList]; omega⟩, ?_, by rw [← Array.length_toList]; omega, low⟩
      · unfold PyData.strOk
        rw [← Array.all_toList, List.all_eq_true]
        intro x hx
        have := low x hx
        simp; omega
      · rw [← Array.length_toList, keyN_cps]; simp; omega
end LK
namespace LK
end LK
namespace LK
open PySem PySem.Spec PyProof.Rows L2 DS MA
structure Grow (names : List Str) (deep n : Nat) (f : Str → List Str) (lev : Str → Nat) : Prop where
  l0 : ∀ k, names[0]? = some k → lev k = 1
  lv : ∀ k ∈ names.take n, 1 ≤ lev k ∧ lev k ≤ deep
  kid : ∀ k ∈ names.take n, ∀ c ∈ f k, c ∈ names.take n ∧ lev c = lev k + 1
  perm : ((names.take n).flatMap f).Perm (names.take n).tail
def putIn (f : Str → List Str) (home x : Str) (j : Nat) : Str → List Str := fun k => if k = x then [] else if k = home then (f home).take j ++ [x] ++ (f home).drop j else f k
def levIn (lev : Str → Nat) (home x : Str) : Str → Nat := fun k => if k = x then lev home + 1 else lev k
theorem flatMap_same {f g : Str → List Str} : ∀ {ks : List Str}, (∀ k ∈ ks, f k = g k) → ks.flatMap f = ks.flatMap g
  | [], _ => rfl
  | k :: r, h => by rw [List.flatMap_cons, List.flatMap_cons, h k (List.mem_cons_self ..), flatMap_same fun x hx => h x (List.mem_cons_of_mem _ hx)]
theorem perm_putIn {f : Str → List Str} {home x : Str} {j : Nat} : ∀ {ks : List Str}, ks.Nodup → home ∈ ks → x ∉ ks → (ks.flatMap (putIn f home x j)).Perm (x :: ks.flatMap f)
  | [], _, h, _ => by cases h
  | k :: r, nd, h, hx => by
    rw [List.flatMap_cons, List.flatMap_cons]
    have nd2 := List.nodup_cons.mp nd
    have hxk : k ≠ x := fun e => hx (by rw [e]; exact List.mem_cons_self ..)
    by_cases e : k = home
    · subst e
      have : r.flatMap (putIn f k x j) = r.flatMap f := flatMap_same fun y hy => by
        have h1 : y ≠ k := fun e => nd2.1 (e ▸ hy)
        have h2 : y ≠ x := fun e => hx (by rw [← e]; exact List.mem_cons_of_mem _ hy)
        unfold putIn; rw [if_neg h2, if_neg h1]
      rw [this]
      have e2 : putIn f k x j k = (f k).take j ++ [x] ++ (f k).drop j := by unfold putIn; rw [if_neg hxk, if_pos rfl]
      rw [e2]
      have : ((f k).take j ++ [x] ++ (f k).drop j).Perm (x :: f k) := by
        conv => rhs; rw [← List.take_append_drop j (f k)]
        rw [List.append_assoc]
        exact List.perm_middle
      exact this.append_right _
    · have h2 : home ∈ r := by
        rcases List.mem_cons.mp h with h | h
        · exact (e h.symm).elim
        · exact h
      have e2 : putIn f home x j k = f k := by unfold putIn; rw [if_neg hxk, if_neg e]
      rw [e2]
      have ih := perm_putIn (f := f) (j := j) nd2.2 h2 (fun z => hx (List.mem_cons_of_mem _ z))
      exact (ih.append_left (f k)).trans List.perm_middle
theorem take_snoc {names : List Str} {n : Nat} {x : Str} (h : names[n]? = some x) : names.take (n + 1) = names.take n ++ [x] := by
  rw [List.take_succ, h]; rfl
theorem not_in_take {names : List Str} {n : Nat} {x : Str} (nd : names.Nodup) (h : names[n]? = some x) : x ∉ names.take n := by
  have h1 : (names.take (n + 1)).Nodup := nd.sublist (List.take_sublist ..)
  rw [take_snoc h, List.nodup_append] at h1
  intro z; exact h1.2.2 x z x (List.mem_singleton.mpr rfl) rfl
theorem Grow.step {names : List Str} {deep n : Nat} {f : Str → List Str} {lev : Str → Nat} {home x : Str} {j : Nat} (G : Grow names deep n f lev) (nd : names.Nodup) (hn : 0 < n) (hx : names[n]? = some x) (hh : home ∈ names.take n) (hd : lev home < deep) :
    Grow names deep (n + 1) (putIn f home x j) (levIn lev home x) := by
  have xn := not_in_take nd hx
  have nx : ∀ k ∈ names.take n, k ≠ x := fun k hk e => xn (e ▸ hk)
  have mem : ∀ k ∈ names.take n, k ∈ names.take (n + 1) := fun k hk => by rw [take_snoc hx]; exact List.mem_append_left _ hk
  have split : ∀ k ∈ names.take (n + 1), k ∈ names.take n ∨ k = x := fun k hk => by rw [take_snoc hx] at hk; simpa using hk
  refine ⟨fun k hk => ?_, fun k hk => ?_, fun k hk c hc => ?_, ?_⟩
  · have hk2 : k ∈ names.take n := by
      have : (names.take n)[0]? = some k := by rw [List.getElem?_take]; simp [hn, hk]
      exact List.mem_of_getElem? this
    unfold levIn; rw [if_neg (nx k hk2)]; exact G.l0 k hk
  · unfold levIn
    rcases split k hk with hk | rfl
    · rw [if_neg (nx k hk)]; exact G.lv k hk
    · rw [if_pos rfl]; omega
  · rcases split k hk with hk | rfl
    · have hkx := nx k hk
      have key : ∀ c ∈ f k, c ∈ names.take (n + 1) ∧ levIn lev home x c = levIn lev home x k + 1 := fun c hc => by
        obtain ⟨a, b⟩ := G.kid k hk c hc
        refine ⟨mem c a, ?_⟩
        unfold levIn; rw [if_neg (nx c a), if_neg hkx]; exact b
      unfold putIn at hc
      rw [if_neg hkx] at hc
      by_cases e : k = home
      · subst e
        rw [if_pos rfl] at hc
        rcases List.mem_append.mp hc with hc | hc
        · rcases List.mem_append.mp hc with hc | hc
          · exact key c (List.mem_of_mem_take hc)
          · have : c = x := by simpa using hc
            subst this
            refine ⟨by rw [take_snoc hx]; simp, ?_⟩
            unfold levIn; rw [if_pos rfl, if_neg hkx]
        · exact key c (List.mem_of_mem_drop hc)
      · rw [if_neg e] at hc; exact key c hc
    · unfold putIn at hc; rw [if_pos rfl] at hc; cases hc
  · rw [take_snoc hx, List.flatMap_append]
    have e1 : [x].flatMap (putIn f home x j) = [] := by simp [putIn]
    rw [e1, List.append_nil]
    have h1 := perm_putIn (f := f) (j := j) (nd.sublist (List.take_sublist n names)) hh xn
    have e2 : (names.take n ++ [x]).tail = (names.take n).tail ++ [x] := by
      cases e : names.take n with
      | nil => rw [e] at hh; cases hh
      | cons a r => rfl
    rw [e2]
    exact (h1.trans (List.Perm.cons x G.perm)).trans (List.perm_append_singleton x _).symm
theorem Grow.init {names : List Str} {deep : Nat} {x : Str} (h0 : names[0]? = some x) (hd : 1 ≤ deep) : Grow names deep 1 (fun _ => []) (fun _ => 1) := by
  have e : names.take 1 = [x] := by rw [take_snoc h0]; rfl
  refine ⟨fun _ _ => rfl, fun _ _ => ⟨Nat.le_refl _, hd⟩, fun k _ c hc => (List.not_mem_nil hc).elim, ?_⟩
  rw [e]; simp
end LK
namespace LK
open PySem PySem.Spec PyProof.Rows L2 DS MA
structure GMem (μ0 μ : Mu) (h pl pv : Addr) (ks : List Str) (f : Str → List Str) (lev : Str → Nat) (ad : Str → Addr) : Prop where
  l : μ pl = some (.dic (ks.map fun k => (.inr k, .ref (ad k))))
  v : μ pv = some (.dic (ks.map fun k => (.inr k, .int (lev k : Nat))))
  k : ∀ k ∈ ks, μ (ad k) = some (.lst (sts (f k))) ∧ μ0 (ad k) = none ∧ ad k ≠ h ∧ ad k ≠ pl ∧ ad k ≠ pv
  inj : ∀ k ∈ ks, ∀ k' ∈ ks, ad k = ad k' → k = k'
theorem GMem.lex {μ0 μ μ' : Mu} {h pl pv : Addr} {ks : List Str} {f : Str → List Str} {lev : Str → Nat} {ad : Str → Addr} (G : GMem μ0 μ h pl pv ks f lev ad) (l : LeX h μ μ') (h1 : pl ≠ h) (h2 : pv ≠ h) : GMem μ0 μ' h pl pv ks f lev ad :=
  ⟨l _ _ h1 G.l, l _ _ h2 G.v, fun k hk => let ⟨a, b, c, d⟩ := G.k k hk; ⟨l _ _ c a, b, c, d⟩, G.inj⟩
end LK
namespace LK
open PySem PySem.Spec PyProof.Rows L2 DS MA
theorem len_sub {α : Type} [DecidableEq α] : ∀ {a b : List α}, a.Nodup → (∀ x ∈ a, x ∈ b) → a.length ≤ b.length
  | [], _, _, _ => Nat.zero_le _
  | x :: r, b, nd, h => by
    have nd2 := List.nodup_cons.mp nd
    have hx := h x (List.mem_cons_self ..)
    have := len_sub (b := b.erase x) nd2.2 fun y hy => (List.mem_erase_of_ne (fun e => nd2.1 (by subst e; exact hy))).mpr (h y (List.mem_cons_of_mem _ hy))
    rw [List.length_erase_of_mem hx] at this
    have := List.length_pos_of_mem hx
    rw [List.length_cons]; omega
theorem Sub.trans {a b c : T} (h : Sub a b) (k : Sub b c) : Sub a c := by
  induction k with
  | refl => exact h
  | kid hc _ ih => exact .kid hc ih
theorem kids_in {f : Str → List Str} {p x : Str} : ∀ {s : T}, Fits f s → p ∈ pre s → x ∈ f p → x ∈ pre s := by
  have : ∀ (n : Nat) (s : T), dep s ≤ n → Fits f s → p ∈ pre s → x ∈ f p → x ∈ pre s := by
    intro n
    induction n with
    | zero => intro s h; cases s; rw [dep] at h; omega
    | succ n ih =>
      intro s h fit hp hx
      obtain ⟨k, cs⟩ := s
      rw [Fits] at fit
      rw [dep] at h
      rw [pre] at hp ⊢
      rcases List.mem_cons.mp hp with rfl | hp
      · rw [fit.1] at hx
        obtain ⟨c, hc, rfl⟩ := List.mem_map.mp hx
        exact List.mem_cons_of_mem _ (preL_sub hc _ (key_mem c))
      · obtain ⟨c, hc, hpc⟩ := preL_mem.mp hp
        have := depL_mem hc
        exact List.mem_cons_of_mem _ (preL_sub hc _ (ih c (by omega) (FitsL_mem.mp fit.2 c hc) hpc hx))
  exact fun {s} => this (dep s) s (Nat.le_refl _)
theorem Up.next {par : Str → Option Str} {x y z : Str} {l : List Str} (h : Up par x l) : y ∈ l → par y = some z → z ∈ l := by
  induction h with
  | root h => intro hy e; have := List.mem_singleton.mp hy; subst this; rw [h] at e; cases e
  | step h r ih =>
    intro hy e
    rcases List.mem_cons.mp hy with rfl | hy
    · rw [h] at e; cases e
      obtain ⟨q, rfl⟩ := r.head; simp
    · exact List.mem_cons_of_mem _ (ih hy e)
end LK
namespace MA
open PySem PySem.Spec PyProof.Rows L2 DS
mutual
def okV (m : Nat) : SD → Prop
  | .non => True
  | .bl _ => True
  | .int i => i.natAbs ≤ 10 ^ 20 + m
  | .str x => PyData.strOk x = true
  | .ref _ => False
  | .ty _ => False
  | .tup xs => okVL m xs
  | .lst xs => okVL m xs
  | .rol _ => False
  | .exc _ _ => False
  | .ptp _ => False
  | .dic kvs => kvs = []
def okVL (m : Nat) : List SD → Prop
  | [] => True
  | d :: r => okV m d ∧ okVL m r
end
mutual
def dpV : SD → Nat
  | .non => 0
  | .bl _ => 0
  | .int _ => 0
  | .str _ => 0
  | .ref _ => 0
  | .ty _ => 0
  | .tup xs => dpVL xs + 1
  | .lst xs => dpVL xs + 1
  | .rol _ => 0
  | .exc _ _ => 0
  | .ptp _ => 0
  | .dic _ => 1
def dpVL : List SD → Nat
  | [] => 0
  | d :: r => max (dpV d) (dpVL r)
end
mutual
def wtV : SD → Nat
  | .non => 0
  | .bl _ => 0
  | .int _ => 0
  | .str x => x.cps.size
  | .ref _ => 0
  | .ty _ => 0
  | .tup xs => wtVL xs
  | .lst xs => wtVL xs
  | .rol _ => 0
  | .exc _ _ => 0
  | .ptp _ => 0
  | .dic _ => 0
def wtVL : List SD → Nat
  | [] => 0
  | d :: r => wtV d + 1 + wtVL r
end
theorem okVL_mem {m : Nat} {xs : List SD} : okVL m xs ↔ ∀ d ∈ xs, okV m d := by
  induction xs with
  | nil => simp [okVL]
  | cons x r ih => rw [okVL, ih]; simp
theorem dpVL_le {n : Nat} {xs : List SD} : dpVL xs ≤ n ↔ ∀ d ∈ xs, dpV d ≤ n := by
  induction xs with
  | nil => simp [dpVL]
  | cons x r ih => rw [dpVL, Nat.max_le, ih]; simp
theorem wtVL_append (a b : List SD) : wtVL (a ++ b) = wtVL a + wtVL b := by
  induction a with
  | nil => simp [wtVL]
  | cons x r ih => rw [List.cons_append, wtVL, wtVL, ih]; omega
theorem wtVL_reverse (a : List SD) : wtVL a.reverse = wtVL a := by
  induction a with
  | nil => rfl
  | cons x r ih => rw [List.reverse_cons, wtVL_append, ih, wtVL, wtVL, wtVL]; omega
theorem wtVL_cut (a : List SD) (k : Nat) : wtVL (a.take k) + wtVL (a.drop k) = wtVL a := by rw [← wtVL_append, List.take_append_drop]
theorem wtVL_mem {xs : List SD} {d : SD} (h : d ∈ xs) : wtV d + 1 ≤ wtVL xs := by
  obtain ⟨s, t, rfl⟩ := List.append_of_mem h
  rw [wtVL_append, wtVL]; omega
theorem len_wtVL (xs : List SD) : xs.length ≤ wtVL xs := by
  induction xs with
  | nil => simp
  | cons x r ih => rw [wtVL, List.length_cons]; omega
/-- a value: its ints no greater, no deeper, no heavier -/
structure Val (m D B : Nat) (d : SD) : Prop where
  ok : okV m d
  dp : dpV d ≤ D
  wt : wtV d ≤ B
structure ValL (m D B : Nat) (xs : List SD) : Prop where
  ok : okVL m xs
  dp : dpVL xs ≤ D
  wt : wtVL xs ≤ B
mutual
theorem okV_mono {m m' : Nat} (h : m ≤ m') : ∀ {d : SD}, okV m d → okV m' d
  | .non, _ => by rw [okV]; trivial
  | .bl _, _ => by rw [okV]; trivial
  | .int i, q => by rw [okV] at q ⊢; omega
  | .str x, q => by rw [okV] at q ⊢; exact q
  | .ref _, q => by rw [okV] at q; exact q.elim
  | .ty _, q => by rw [okV] at q; exact q.elim
  | .tup xs, q => by rw [okV] at q ⊢; exact okVL_mono h q
  | .lst xs, q => by rw [okV] at q ⊢; exact okVL_mono h q
  | .rol _, q => by rw [okV] at q; exact q.elim
  | .exc _ _, q => by rw [okV] at q; exact q.elim
  | .ptp _, q => by rw [okV] at q; exact q.elim
  | .dic kvs, q => by rw [okV] at q ⊢; exact q
theorem okVL_mono {m m' : Nat} (h : m ≤ m') : ∀ {xs : List SD}, okVL m xs → okVL m' xs
  | [], _ => by rw [okVL]; trivial
  | d :: r, q => by rw [okVL] at q ⊢; exact ⟨okV_mono h q.1, okVL_mono h q.2⟩
end
theorem Val.mono {m D B m' D' B' : Nat} {d : SD} (v : Val m D B d) (h1 : m ≤ m') (h2 : D ≤ D') (h3 : B ≤ B') : Val m' D' B' d := ⟨okV_mono h1 v.ok, Nat.le_trans v.dp h2, Nat.le_trans v.wt h3⟩
theorem ValL.mono {m D B m' D' B' : Nat} {d : List SD} (v : ValL m D B d) (h1 : m ≤ m') (h2 : D ≤ D') (h3 : B ≤ B') : ValL m' D' B' d := ⟨okVL_mono h1 v.ok, Nat.le_trans v.dp h2, Nat.le_trans v.wt h3⟩
theorem Val.non : Val 0 0 0 .non := ⟨by rw [okV]; trivial, by rw [dpV]; exact Nat.le_refl 0, by rw [wtV]; exact Nat.le_refl 0⟩
theorem Val.bl (b : Bool) : Val 0 0 0 (.bl b) := ⟨by rw [okV]; trivial, by rw [dpV]; exact Nat.le_refl 0, by rw [wtV]; exact Nat.le_refl 0⟩
theorem Val.int {m : Nat} {i : Int} (h : i.natAbs ≤ 10 ^ 20 + m) : Val m 0 0 (.int i) := ⟨by rw [okV]; exact h, by rw [dpV]; exact Nat.le_refl 0, by rw [wtV]; exact Nat.le_refl 0⟩
theorem Val.str {x : Str} (h : PyData.strOk x = true) : Val 0 0 x.cps.size (.str x) := ⟨by rw [okV]; exact h, by rw [dpV]; exact Nat.le_refl 0, by rw [wtV]; exact Nat.le_refl _⟩
theorem Val.dic : Val 0 1 0 (.dic []) := ⟨by rw [okV], by rw [dpV]; exact Nat.le_refl 1, by rw [wtV]; exact Nat.le_refl 0⟩
theorem ValL.nil : ValL 0 0 0 [] := ⟨by rw [okVL]; trivial, by rw [dpVL]; exact Nat.le_refl 0, by rw [wtVL]; exact Nat.le_refl 0⟩
theorem ValL.cons {m D B C : Nat} {d : SD} {r : List SD} (v : Val m D B d) (w : ValL m D C r) : ValL m D (B + 1 + C) (d :: r) :=
  ⟨by rw [okVL]; exact ⟨v.ok, w.ok⟩, by rw [dpVL]; exact Nat.max_le.mpr ⟨v.dp, w.dp⟩, by have := v.wt; have := w.wt; rw [wtVL]; omega⟩
theorem ValL.one {m D B : Nat} {d : SD} (v : Val m D B d) : ValL m D (B + 1) [d] := ValL.cons v (ValL.nil.mono (Nat.zero_le _) (Nat.zero_le _) (Nat.le_refl 0))
theorem ValL.append {m D B C : Nat} {a b : List SD} (v : ValL m D B a) (w : ValL m D C b) : ValL m D (B + C) (a ++ b) :=
  ⟨okVL_mem.mpr fun d hd => (List.mem_append.mp hd).elim (okVL_mem.mp v.ok d) (okVL_mem.mp w.ok d), dpVL_le.mpr fun d hd => (List.mem_append.mp hd).elim (dpVL_le.mp v.dp d) (dpVL_le.mp w.dp d), by have := v.wt; have := w.wt; rw [wtVL_append]; omega⟩
theorem ValL.take {m D B : Nat} {a : List SD} (v : ValL m D B a) (k : Nat) : ValL m D B (a.take k) :=
  ⟨okVL_mem.mpr fun d hd => okVL_mem.mp v.ok d (List.mem_of_mem_take hd), dpVL_le.mpr fun d hd => dpVL_le.mp v.dp d (List.mem_of_mem_take hd), by have := v.wt; have := wtVL_cut a k; omega⟩
theorem ValL.drop {m D B : Nat} {a : List SD} (v : ValL m D B a) (k : Nat) : ValL m D B (a.drop k) :=
  ⟨okVL_mem.mpr fun d hd => okVL_mem.mp v.ok d (List.mem_of_mem_drop hd), dpVL_le.mpr fun d hd => dpVL_le.mp v.dp d (List.mem_of_mem_drop hd), by have := v.wt; have := wtVL_cut a k; omega⟩
theorem ValL.reverse {m D B : Nat} {a : List SD} (v : ValL m D B a) : ValL m D B a.reverse :=
  ⟨okVL_mem.mpr fun d hd => okVL_mem.mp v.ok d (List.mem_reverse.mp hd), dpVL_le.mpr fun d hd => dpVL_le.mp v.dp d (List.mem_reverse.mp hd), by have := v.wt; rw [wtVL_reverse]; exact this⟩
theorem ValL.of {m D B n : Nat} {a : List SD} (h : ∀ d ∈ a, Val m D B d) (hn : a.length ≤ n) : ValL m D (n * (B + 1)) a := by
  refine ⟨okVL_mem.mpr fun d hd => (h d hd).ok, dpVL_le.mpr fun d hd => (h d hd).dp, Nat.le_trans ?_ (Nat.mul_le_mul_right _ hn)⟩
  clear hn
  induction a with
  | nil => simp [wtVL]
  | cons x r ih =>
    have := (h x (List.mem_cons_self ..)).wt
    have := ih fun d hd => h d (List.mem_cons_of_mem _ hd)
    rw [wtVL, List.length_cons, Nat.add_mul]; omega
theorem ValL.mem {m D B : Nat} {a : List SD} (v : ValL m D B a) {d : SD} (hd : d ∈ a) : Val m D B d :=
  ⟨okVL_mem.mp v.ok d hd, dpVL_le.mp v.dp d hd, by have := v.wt; have := wtVL_mem hd; omega⟩
theorem Val.tup {m D B : Nat} {a : List SD} (v : ValL m D B a) : Val m (D + 1) B (.tup a) := ⟨by rw [okV]; exact v.ok, by rw [dpV]; exact Nat.succ_le_succ v.dp, by rw [wtV]; exact v.wt⟩
theorem Val.lst {m D B : Nat} {a : List SD} (v : ValL m D B a) : Val m (D + 1) B (.lst a) := ⟨by rw [okV]; exact v.ok, by rw [dpV]; exact Nat.succ_le_succ v.dp, by rw [wtV]; exact v.wt⟩
theorem Val.ofTup {m D B : Nat} {a : List SD} (v : Val m (D + 1) B (.tup a)) : ValL m D B a := ⟨by have := v.ok; rw [okV] at this; exact this, by have := v.dp; rw [dpV] at this; omega, by have := v.wt; rw [wtV] at this; exact this⟩
theorem Val.pos {m D B : Nat} {a : List SD} (v : Val m D B (.tup a)) : 0 < D := by have := v.dp; rw [dpV] at this; omega
theorem int_short {m : Nat} (hm : m ≤ 10 ^ 20) {i : Int} (h : i.natAbs ≤ 10 ^ 20 + m) : (PyData.shown (.int i)).length ≤ 31 ∧ i.natAbs.log2 < 1920 := by
  have h30 : i.natAbs < 10 ^ 30 := by have : (10 : Nat) ^ 30 = 10 ^ 20 * 10 ^ 10 := by decide
                                      omega
  constructor
  · have := int_text_length_le10 (k := 30) (by decide) h30
    simp only [PyData.shown]
    show (Str.ofString (toString i)).length ≤ 31
    rw [PySem.ofString_length]; exact this
  · by_cases e : i.natAbs = 0
    · rw [e]; decide
    · refine (Nat.log2_lt e).mpr (Nat.lt_of_lt_of_le h30 ?_)
      decide +kernel
mutual
theorem okV_shows {m : Nat} (hm : m ≤ 10 ^ 20) : ∀ {d : SD}, okV m d → ∃ p, pqS d = some p ∧ p.depth = dpV d ∧ p.showable = true ∧ p.leavesShort 40 = true ∧ p.bulk = wtV d
  | .non, _ => ⟨.none, rfl, by simp [PyData.depth, dpV], by simp [PyData.showable], by simp [PyData.leavesShort], by simp [PyData.bulk, wtV]⟩
  | .bl b, _ => ⟨.bool b, rfl, by simp [PyData.depth, dpV], by simp [PyData.showable], by simp [PyData.leavesShort], by simp [PyData.bulk, wtV]⟩
  | .int i, q => by
    rw [okV] at q
    obtain ⟨h1, h2⟩ := int_short hm q
    exact ⟨.int i, rfl, by simp [PyData.depth, dpV], by simpa [PyData.showable] using h2, by simp only [PyData.leavesShort, decide_eq_true_eq]; omega, by simp [PyData.bulk, wtV]⟩
  | .str x, q => by
    rw [okV] at q
    refine ⟨.str x, rfl, by simp [PyData.depth, dpV], by simp [PyData.showable], ?_, by simp [PyData.bulk, wtV]⟩
    unfold PyData.leavesShort
    rw [List.all_eq_true]
    intro c hc
    have := (Array.all_eq_true_iff_forall_mem.mp q) c (by simpa using hc)
    simp at this ⊢
    omega
  | .ref _, q => by rw [okV] at q; exact q.elim
  | .ty _, q => by rw [okV] at q; exact q.elim
  | .tup xs, q => by
    rw [okV] at q
    obtain ⟨ps, e, h1, h2, h3, h4⟩ := okVL_shows hm q
    exact ⟨.tuple ps, by rw [pqS, e], by rw [PyData.depth, dpV, h1], by simp [PyData.showable, h2], by simp [PyData.leavesShort, h3], by rw [PyData.bulk, wtV, h4]⟩
  | .lst xs, q => by
    rw [okV] at q
    obtain ⟨ps, e, h1, h2, h3, h4⟩ := okVL_shows hm q
    exact ⟨.list ps, by rw [pqS, e], by rw [PyData.depth, dpV, h1], by simp [PyData.showable, h2], by simp [PyData.leavesShort, h3], by rw [PyData.bulk, wtV, h4]⟩
  | .rol _, q => by rw [okV] at q; exact q.elim
  | .exc _ _, q => by rw [okV] at q; exact q.elim
  | .ptp _, q => by rw [okV] at q; exact q.elim
  | .dic kvs, q => by
    rw [okV] at q; subst q
    exact ⟨.dict [], rfl, by simp [PyData.depth, PyData.depthKv, dpV], by simp [PyData.showable, PyData.showableKv], by simp [PyData.leavesShort, PyData.leavesShortKv], by simp [PyData.bulk, PyData.bulkKv, wtV]⟩
theorem okVL_shows {m : Nat} (hm : m ≤ 10 ^ 20) : ∀ {xs : List SD}, okVL m xs → ∃ ps, pqL xs = some ps ∧ PyData.depthAll ps = dpVL xs ∧ PyData.showableAll ps = true ∧ PyData.leavesShortAll 40 ps = true ∧ PyData.bulkAll ps = wtVL xs
  | [], _ => ⟨[], rfl, by simp [PyData.depthAll, dpVL], by simp [PyData.showableAll], by simp [PyData.leavesShortAll], by simp [PyData.bulkAll, wtVL]⟩
  | d :: r, q => by
    rw [okVL] at q
    obtain ⟨p, e, h1, h2, h3, h4⟩ := okV_shows hm q.1
    obtain ⟨ps, e', g1, g2, g3, g4⟩ := okVL_shows hm q.2
    exact ⟨p :: ps, by rw [pqL, e, e'], by rw [PyData.depthAll, dpVL, h1, g1], by simp [PyData.showableAll, h2, g2], by simp [PyData.leavesShortAll, h3, g3], by rw [PyData.bulkAll, wtVL, h4, g4]⟩
end
/-- the text that is shown -/
def shw (d : SD) : Str := match pqS d with
  | some p => p.shown
  | none => ""
theorem r_reprQ {m D B : Nat} {d : SD} {μ : Mu} {Q : SD → Mu → Prop} (v : Val m D B d) (hm : m ≤ 10 ^ 20) (hD : D ≤ 64) (hB : B ≤ 250000) (q : Q (.str (shw d)) μ) : drReprQ [d] μ Q := by
  obtain ⟨p, e, h1, h2, h3, h4⟩ := okV_shows hm v.ok
  have e2 : pq μ d = some p := by
    have hv := v.ok
    cases d <;> first | exact e | (rw [okV] at hv; exact hv.elim)
  have es : shw d = p.shown := by unfold shw; rw [e]
  unfold drReprQ
  simp only [e2]
  refine ⟨⟨h2, ?_, by rw [h1]; exact Nat.le_trans v.dp hD⟩, by rw [← es]; exact q⟩
  have hs := PyData.shown_le_bulk 40 (by decide) p h3
  have hw := v.wt
  rw [h4] at hs
  rw [sizeLine_eq]
  have : (40 + 2) * wtV d ≤ 42 * 250000 := Nat.mul_le_mul_left _ (by omega)
  omega
def isIntD : SD → Bool
  | .int _ => true
  | .bl _ => true
  | _ => false
section
variable {m : Nat} {d : SD} {μ : Mu} {Q : SD → Mu → Prop}
theorem kit_facts : (kitB "NoneType" "str" = some false ∧ kitB "bool" "str" = some false ∧ kitB "int" "str" = some false ∧ kitB "str" "str" = some true ∧ kitB "tuple" "str" = some false ∧ kitB "list" "str" = some false ∧ kitB "dict" "str" = some false) ∧
    (kitB "NoneType" "tuple" = some false ∧ kitB "bool" "tuple" = some false ∧ kitB "int" "tuple" = some false ∧ kitB "str" "tuple" = some false ∧ kitB "tuple" "tuple" = some true ∧ kitB "list" "tuple" = some false ∧ kitB "dict" "tuple" = some false) ∧
    (kitB "NoneType" "int" = some false ∧ kitB "bool" "int" = some true ∧ kitB "int" "int" = some true ∧ kitB "str" "int" = some false ∧ kitB "tuple" "int" = some false ∧ kitB "list" "int" = some false ∧ kitB "dict" "int" = some false) := by decide +kernel
theorem isi_str (v : okV m d) (q : Q (.bl (isStr d)) μ) : drIsi [d, .ty "str"] μ Q := by
  obtain ⟨⟨a1, a2, a3, a4, a5, a6, a7⟩, _⟩ := kit_facts
  cases d with
  | non => exact isi_of rfl a1 q
  | bl b => exact isi_of rfl a2 q
  | int i => exact isi_of rfl a3 q
  | str x => exact isi_of rfl a4 q
  | tup xs => exact isi_of rfl a5 q
  | lst xs => exact isi_of rfl a6 q
  | dic kvs => exact isi_of rfl a7 q
  | _ => rw [okV] at v; exact v.elim
theorem isi_tup (v : okV m d) (q : Q (.bl (isTup d)) μ) : drIsi [d, .ty "tuple"] μ Q := by
  obtain ⟨_, ⟨a1, a2, a3, a4, a5, a6, a7⟩, _⟩ := kit_facts
  cases d with
  | non => exact isi_of rfl a1 q
  | bl b => exact isi_of rfl a2 q
  | int i => exact isi_of rfl a3 q
  | str x => exact isi_of rfl a4 q
  | tup xs => exact isi_of rfl a5 q
  | lst xs => exact isi_of rfl a6 q
  | dic kvs => exact isi_of rfl a7 q
  | _ => rw [okV] at v; exact v.elim
theorem isi_int (v : okV m d) (q : Q (.bl (isIntD d)) μ) : drIsi [d, .ty "int"] μ Q := by
  obtain ⟨_, _, ⟨a1, a2, a3, a4, a5, a6, a7⟩⟩ := kit_facts
  cases d with
  | non => exact isi_of rfl a1 q
  | bl b => exact isi_of rfl a2 q
  | int i => exact isi_of rfl a3 q
  | str x => exact isi_of rfl a4 q
  | tup xs => exact isi_of rfl a5 q
  | lst xs => exact isi_of rfl a6 q
  | dic kvs => exact isi_of rfl a7 q
  | _ => rw [okV] at v; exact v.elim
end
end MA
namespace LK
open PySem PySem.Spec PyProof.Rows L2 DS MA
section
variable {μ : Mu} {Q : SD → Mu → Prop} {a b : Addr} {xs ys : List SD}
theorem ne_sameQ {u : Str} (q : Q (.bl false) μ) : dEq true (.str u) (.str u) μ Q := by
  have : eqD μ (.str u) (.str u) = some true := by simp [eqD]
  unfold dEq; rw [this]; exact q
end
theorem key_val {k : Str} (h : KeyOk k) : Val 0 0 61 (.str k) := (Val.str h.1).mono (Nat.le_refl _) (Nat.le_refl _) h.2
end LK
namespace LK
open PySem PySem.Spec PyProof.Rows L2 DS MA
section
variable {μ : Mu} {Q : SD → Mu → Prop} {m n : Int} {c : Nat} {z : Str}
theorem i_eq (q : Q (.bl (decide (m = n))) μ) : dEq false (.int m) (.int n) μ Q := by
  have : eqD μ (.int m) (.int n) = some (decide (m = n)) := by simp [eqD]
  unfold dEq; rw [this]
  show Q (.bl (false != decide (m = n))) μ
  rw [Bool.false_bne]; exact q
theorem i_ne (q : Q (.bl (!decide (m = n))) μ) : dEq true (.int m) (.int n) μ Q := by
  have : eqD μ (.int m) (.int n) = some (decide (m = n)) := by simp [eqD]
  unfold dEq; rw [this]
  show Q (.bl (true != decide (m = n))) μ
  rw [Bool.true_bne]; exact q
theorem in_sign (q : Q (.bl (decide (c ∈ z.cps.toList))) μ) : dIn false (.str ⟨#[c]⟩) (.str z) μ Q := by
  show Q (.bl (false != decide (c ∈ z.cps.toList))) μ
  rw [Bool.false_bne]; exact q
theorem bls_all {bs : List Bool} (q : Q (.bl (bs.all _root_.id)) μ) : drBls (fun bs => bs.all _root_.id) [.lst (bs.map SD.bl)] μ Q := by
  unfold drBls
  simp only [lstD, blsOf_map]
  exact q
end
def abcS : Str := "abcdefghijklmnopqrstuvwxyz"
def keyB : SD → Bool
  | .str x => decide (1 ≤ x.length) && decide (x.length ≤ 8) && x.cps.toList.all fun c => decide (c ∈ abcS.cps.toList)
  | _ => false
theorem keyB_eq (x : Str) : keyB (.str x) = (decide (1 ≤ x.length) && decide (x.length ≤ 8) && x.cps.toList.all fun c => decide (c ∈ abcS.cps.toList)) := rfl
def strD : SD → Str
  | .str x => x
  | _ => ""
theorem keyB_str {d : SD} (h : keyB d = true) : ∃ x, d = .str x := by
  cases d <;> first | exact ⟨_, rfl⟩ | cases h
def sp_is_key : DSp := fun ds μ Q _ => ∃ (d : SD) (m : Nat), ds = [d] ∧ okV m d ∧ wtV d ≤ 300000 ∧ Q (.bl (keyB d)) μ
theorem len_is_key : ∀ ds μ Q E, sp_is_key ds μ Q E → ds.length = 1 := by rintro ds μ Q E ⟨d, m, rfl, _⟩; rfl
theorem letters_ok {x : Str} {ρ : Rho} {μ : Mu} {Q : SD → Mu → Prop} (hx : x.length ≤ 300000) (h0 : ρ[0]? = some (some (.str x))) (hl : ρ.length = 2) (q : Q (.bl (x.cps.toList.all fun c => decide (c ∈ abcS.cps.toList))) μ) :
    dCB (drBls fun bs => bs.all _root_.id) (dCons (dLcS (jSeq (dVar 0)) (hName 1) dYes (dOp (dIn false) (dVar 1) (dC (.str "abcdefghijklmnopqrstuvwxyz"))) [1]) dNil) ρ μ Q := by
  unfold dLcS dLc
  refine r_var h0 ?_
  have cl : (chars x).length = x.cps.size := by simp [chars]
  have hx' : x.cps.size ≤ 300000 := hx
  refine lc_pure (zs := (x.cps.toList.map fun c => decide (c ∈ abcS.cps.toList)).map SD.bl) trivial (by rw [cl]; omega) (by simp [chars]) ?_ ?_
  · intro i d y hd hy R r
    unfold chars at hd
    rw [List.getElem?_map] at hd
    rw [List.getElem?_map, List.getElem?_map] at hy
    cases e : x.cps.toList[i]? with
    | none => rw [e] at hd; cases hd
    | some c =>
      rw [e] at hd hy; cases hd; cases hy
      have : ((wipeR ρ [1]).set 1 (some (SD.str ⟨#[c]⟩)))[1]? = some (some (SD.str ⟨#[c]⟩)) := by
        rw [List.getElem?_set_self]; simp [wipeR, hl]
      refine r_var this ?_
      exact in_sign r
  · refine bls_all ?_
    have : (x.cps.toList.map fun c => decide (c ∈ abcS.cps.toList)).all _root_.id = x.cps.toList.all fun c => decide (c ∈ abcS.cps.toList) := by
      rw [List.all_map]; rfl
    rw [this]; exact q
def t_is_key : DTS := (dSeq (dIfS (dOr (dNot (dTest (dCB drIsi (dCons (dVar 0) (dCons (dC (.ty "str")) dNil))))) (dNot (dTest (dChain dLe dLe (dC (.int 1)) (dCB drLen (dCons (dVar 0) dNil)) (dC (.int 8)))))) (dRet (dC (.bl false))) dNext)
    (dRet (dCB (drBls fun bs => bs.all _root_.id) (dCons (dLcS (jSeq (dVar 0)) (hName 1) dYes (dOp (dIn false) (dVar 1) (dC (.str "abcdefghijklmnopqrstuvwxyz"))) [1]) dNil))))
theorem read_is_key : ∀ ds μ Q E, sp_is_key ds μ Q E → t_is_key { nx := fun _ μ' => Q .non μ', rt := Q } (begin_ ["value", "letter"] ds) μ := by
  rintro ds μ Q E ⟨d, m, rfl, v, w, q⟩
  unfold t_is_key
  refine r_var rfl ?_
  refine isi_str v ?_
  cases d with
  | str x =>
    refine ifF rfl ?_
    rw [wtV] at w
    have xl : x.length ≤ 300000 := w
    refine r_var rfl ?_
    refine l_lenS (le_line xl (by omega)) ?_
    refine i_le ?_
    by_cases h1 : 1 ≤ x.length
    · rw [decide_eq_true (show (1 : Int) ≤ (x.length : Int) by omega)]
      refine i_le ?_
      by_cases h2 : x.length ≤ 8
      · rw [decide_eq_true (show (x.length : Int) ≤ 8 by omega)]
        refine ifF rfl ?_
        refine letters_ok (ρ := begin_ ["value", "letter"] [.str x]) xl rfl rfl ?_
        have : keyB (.str x) = x.cps.toList.all fun c => decide (c ∈ abcS.cps.toList) := by rw [keyB_eq, decide_eq_true h1, decide_eq_true h2]; rfl
        rw [← this]; exact q
      · rw [decide_eq_false (show ¬ (x.length : Int) ≤ 8 by omega)]
        refine ifT rfl ?_
        have : keyB (.str x) = false := by rw [keyB_eq, decide_eq_false h2, Bool.and_false, Bool.false_and]
        rw [← this]; exact q
    · rw [decide_eq_false (show ¬ (1 : Int) ≤ (x.length : Int) by omega)]
      refine ifT rfl ?_
      have : keyB (.str x) = false := by rw [keyB_eq, decide_eq_false h1, Bool.false_and, Bool.false_and]
      rw [← this]; exact q
  | ref a => rw [okV] at v; exact v.elim
  | ty a => rw [okV] at v; exact v.elim
  | rol a => rw [okV] at v; exact v.elim
  | exc a b => rw [okV] at v; exact v.elim
  | ptp a => rw [okV] at v; exact v.elim
  | _ => exact ifT rfl (ifT rfl q)
def sp__law_is_key : DSp := fun ds μ Q _ => ∃ (d : SD) (m : Nat), ds = [d] ∧ okV m d ∧ wtV d ≤ 300000 ∧ Q (.bl (keyB d)) μ
theorem len__law_is_key : ∀ ds μ Q E, sp__law_is_key ds μ Q E → ds.length = 1 := by rintro ds μ Q E ⟨d, m, rfl, _⟩; rfl
def t__law_is_key : DTS := (dSeq (dIfS (dOr (dNot (dTest (dCB drIsi (dCons (dVar 0) (dCons (dC (.ty "str")) dNil))))) (dNot (dTest (dChain dLt dLt (dC (.int 0)) (dCB drLen (dCons (dVar 0) dNil)) (dC (.int 9)))))) (dRet (dC (.bl false))) dNext)
    (dRet (dCB (drBls fun bs => bs.all _root_.id) (dCons (dLcS (jSeq (dVar 0)) (hName 1) dYes (dOp (dIn false) (dVar 1) (dC (.str "abcdefghijklmnopqrstuvwxyz"))) [1]) dNil))))
theorem read__law_is_key : ∀ ds μ Q E, sp__law_is_key ds μ Q E → t__law_is_key { nx := fun _ μ' => Q .non μ', rt := Q } (begin_ ["_law_thing", "_law_letter"] ds) μ := by
  rintro ds μ Q E ⟨d, m, rfl, v, w, q⟩
  unfold t__law_is_key
  refine r_var rfl ?_
  refine isi_str v ?_
  cases d with
  | str x =>
    refine ifF rfl ?_
    rw [wtV] at w
    have xl : x.length ≤ 300000 := w
    refine r_var rfl ?_
    refine l_lenS (le_line xl (by omega)) ?_
    refine i_lt ?_
    by_cases h1 : 1 ≤ x.length
    · rw [decide_eq_true (show (0 : Int) < (x.length : Int) by omega)]
      refine i_lt ?_
      by_cases h2 : x.length ≤ 8
      · rw [decide_eq_true (show (x.length : Int) < 9 by omega)]
        refine ifF rfl ?_
        refine letters_ok (ρ := begin_ ["_law_thing", "_law_letter"] [.str x]) xl rfl rfl ?_
        have : keyB (.str x) = x.cps.toList.all fun c => decide (c ∈ abcS.cps.toList) := by rw [keyB_eq, decide_eq_true h1, decide_eq_true h2]; rfl
        rw [← this]; exact q
      · rw [decide_eq_false (show ¬ (x.length : Int) < 9 by omega)]
        refine ifT rfl ?_
        have : keyB (.str x) = false := by rw [keyB_eq, decide_eq_false h2, Bool.and_false, Bool.false_and]
        rw [← this]; exact q
    · rw [decide_eq_false (show ¬ (0 : Int) < (x.length : Int) by omega)]
      refine ifT rfl ?_
      have : keyB (.str x) = false := by rw [keyB_eq, decide_eq_false h1, Bool.false_and, Bool.false_and]
      rw [← this]; exact q
  | ref a => rw [okV] at v; exact v.elim
  | ty a => rw [okV] at v; exact v.elim
  | rol a => rw [okV] at v; exact v.elim
  | exc a b => rw [okV] at v; exact v.elim
  | ptp a => rw [okV] at v; exact v.elim
  | _ => exact ifT rfl (ifT rfl q)
def allO {α β : Type} (f : α → Option (List β)) : List α → Option (List β)
  | [] => some []
  | c :: r => match f c, allO f r with
    | some a, some b => some (a ++ b)
    | _, _ => none
def kin : Nat → SD → Option (List Str)
  | 0, _ => none
  | n + 1, d => match d with
    | .tup [x, .tup cs] => if keyB x = true then (match allO (kin n) cs with
      | some l => some (strD x :: l)
      | none => none) else none
    | _ => none
end LK
namespace LK
open PySem PySem.Spec PyProof.Rows L2 DS MA
/-- names with their depths, at any depth -/
def wk : Nat → Nat → SD → Option (List (Str × Nat))
  | 0, _, _ => none
  | n + 1, k, d => match d with
    | .tup [x, .tup cs] => if keyB x = true then (match allO (wk n (k + 1)) cs with
      | some l => some ((strD x, k) :: l)
      | none => none) else none
    | _ => none
def W (k : Nat) (d : SD) : Option (List (Str × Nat)) := wk (dpV d + 1) k d
end LK
namespace LK
end LK
namespace LK
open PySem PySem.Spec PyProof.Rows L2 DS MA
mutual
def okB : SD → Bool
  | .non => true
  | .bl _ => true
  | .int i => decide (i.natAbs ≤ 10 ^ 20)
  | .str x => PyData.strOk x
  | .ref _ => false
  | .ty _ => false
  | .tup xs => okBL xs
  | .lst xs => okBL xs
  | .rol _ => false
  | .exc _ _ => false
  | .ptp _ => false
  | .dic kvs => kvs.isEmpty
def okBL : List SD → Bool
  | [] => true
  | d :: r => okB d && okBL r
end
mutual
theorem okB_V : ∀ {d : SD}, okB d = true → okV 0 d
  | .non, _ => by rw [okV]; trivial
  | .bl _, _ => by rw [okV]; trivial
  | .int i, h => by rw [okV]; rw [okB, decide_eq_true_eq] at h; exact h
  | .str x, h => by rw [okV]; rw [okB] at h; exact h
  | .ref _, h => by rw [okB] at h; cases h
  | .ty _, h => by rw [okB] at h; cases h
  | .tup xs, h => by rw [okV]; rw [okB] at h; exact okBL_V h
  | .lst xs, h => by rw [okV]; rw [okB] at h; exact okBL_V h
  | .rol _, h => by rw [okB] at h; cases h
  | .exc _ _, h => by rw [okB] at h; cases h
  | .ptp _, h => by rw [okB] at h; cases h
  | .dic kvs, h => by rw [okV]; rw [okB] at h; exact List.isEmpty_iff.mp h
theorem okBL_V : ∀ {xs : List SD}, okBL xs = true → okVL 0 xs
  | [], _ => by rw [okVL]; trivial
  | d :: r, h => by rw [okVL]; rw [okBL, Bool.and_eq_true] at h; exact ⟨okB_V h.1, okBL_V h.2⟩
end
def fitB (D B : Nat) (xs : List SD) : Bool := xs.all fun d => okB d && decide (dpV d ≤ D) && decide (wtV d ≤ B)
theorem fitB_V {D B : Nat} {xs : List SD} (h : fitB D B xs = true) : ∀ d ∈ xs, Val 0 D B d := fun d hd => by
  have := List.all_eq_true.mp h d hd
  simp only [Bool.and_eq_true, decide_eq_true_eq] at this
  exact ⟨okB_V this.1.1, this.1.2, this.2⟩
def oddL : List SD := [.non, .bl true, .bl false, .int 0, .int 1, .int (-1), .int (10 ^ Int.toNat 20), .str "", .str "a", .str "A", .str "a b", .str "ninechars", .str "-", .tup [], .lst [], .dic [], .tup [.str "a", .tup []], .tup [.str "a"]] ++
  [.tup [.str "move", .str "a", .str "b", .non], .tup [.str "remove", .str "a"], .tup [.tup [.str "a", .int 1]]]
theorem oddL_ok : ∀ d ∈ oddL, Val 0 2 30 d := fitB_V (by decide +kernel)
def tlen : SD → Nat
  | .tup xs => xs.length
  | _ => 0
theorem oddL_len : ∀ d ∈ oddL, tlen d ≤ 4 := fun d hd => of_decide_eq_true (List.all_eq_true.mp (show (oddL.all fun d => decide (tlen d ≤ 4)) = true by decide +kernel) d hd)
def sp__law_odd : DSp := fun ds μ Q _ => ∃ (h : Addr) (T : Nat), ds = [.ref h] ∧ T ≤ 900000000 ∧ HandAt μ h T ∧ ∀ d μ', Val 0 14 42 d → tlen d ≤ 4 → HandAt μ' h (T + 14) → LeX h μ μ' → Q d μ'
theorem len__law_odd : ∀ ds μ Q E, sp__law_odd ds μ Q E → ds.length = 1 := by rintro ds μ Q E ⟨h, T, rfl, _⟩; rfl
def t__law_odd : DTS := (dSeq (dSet (dLst (dCons (dC .non) (dCons (dC (.bl true)) (dCons (dC (.bl false)) (dCons (dC (.int 0)) (dCons (dC (.int 1)) (dCons (dUnI (fun i => -i) (dC (.int 1))) (dCons (dOp dPow (dC (.int 10)) (dC (.int 20))) (dCons (dC (.str "")) (dCons (dC (.str "a")) (dCons (dC (.str "A")) (dCons (dC (.str "a b")) (dCons (dC (.str "ninechars")) (dCons (dC (.str "-")) (dCons (dTup dNil) (dCons (dLst dNil) (dCons dDict0S (dCons (dTup (dCons (dC (.str "a")) (dCons (dTup dNil) dNil))) (dCons (dTup (dCons (dC (.str "a")) dNil)) dNil))))))))))))))))))) 1)
    (dSeq (dSet (dCall sp__law_of [] (dCons (dVar 0) (dCons (dOp dAdd (dVar 1) (dLst (dCons (dTup (dCons (dC (.str "move")) (dCons (dC (.str "a")) (dCons (dC (.str "b")) (dCons (dC .non) dNil))))) (dCons (dTup (dCons (dC (.str "remove")) (dCons (dC (.str "a")) dNil))) (dCons (dTup (dCons (dTup (dCons (dC (.str "a")) (dCons (dC (.int 1)) dNil))) dNil)) dNil))))) dNil))) 2)
    (dSeq (dFor (jRng1 (dCons (dCall sp__law_of [] (dCons (dVar 0) (dCons (dLst (dCons (dC (.int 0)) (dCons (dC (.int 0)) (dCons (dC (.int 0)) (dCons (dC (.int 1)) (dCons (dC (.int 2)) (dCons (dC (.int 12)) dNil))))))) dNil))) dNil)) (hName 3) (dSet (dIf (dTest (dOp (dEq false) (dCall sp__law_take [] (dCons (dVar 0) (dCons (dC (.int 2)) dNil))) (dC (.int 0)))) (dTup (dCons (dVar 2) dNil)) (dLst (dCons (dVar 2) dNil))) 2))
    (dRet (dVar 2)))))
theorem read__law_odd : ∀ ds μ Q E, sp__law_odd ds μ Q E → t__law_odd { nx := fun _ μ' => Q .non μ', rt := Q } (begin_ ["_law_hand_here", "_law_some", "_law_thing", "_law_turn"] ds) μ := by
  rintro ds μ Q E ⟨h, T, rfl, hT, H, q⟩
  unfold t__law_odd dFor
  refine i_pow (n := 20) (pow_ok (n := 20) (by decide) (by decide)) ?_
  refine ⟨Nat.zero_le _, ?_⟩
  refine ⟨Nat.zero_le _, ?_⟩
  refine ⟨Nat.zero_le _, ?_⟩
  refine ⟨(by show 2 ≤ sizeLine; decide), ?_⟩
  refine ⟨(by show 1 ≤ sizeLine; decide), ?_⟩
  refine ⟨(by show 18 ≤ sizeLine; decide), ?_⟩
  dsimp only
  refine r_var rfl ?_
  refine r_var rfl ?_
  refine ⟨(by show 4 ≤ sizeLine; decide), ?_⟩
  refine ⟨(by show 2 ≤ sizeLine; decide), ?_⟩
  refine ⟨(by show 2 ≤ sizeLine; decide), ?_⟩
  refine ⟨(by show 1 ≤ sizeLine; decide), ?_⟩
  refine ⟨(by show 3 ≤ sizeLine; decide), ?_⟩
  refine l_add (by show 21 ≤ sizeLine; decide) ?_
  refine ⟨h, _, oddL, T, rfl, .inl rfl, by simp [oddL], by simp [oddL], by omega, H, fun i d μ1 hd H1 l1 => ?_⟩
  have vd := oddL_ok d (List.mem_of_getElem? hd)
  dsimp only
  refine r_var rfl ?_
  refine ⟨(by show 6 ≤ sizeLine; decide), ?_⟩
  refine ⟨h, _, _, T + 1, rfl, .inl rfl, by simp, by simp, by omega, H1, fun i2 dm μ2 hdm H2 l2 => ?_⟩
  have hr : ∃ r : Nat, dm = .int r ∧ r ≤ 12 := by
    have := List.mem_of_getElem? hdm
    simp at this
    rcases this with rfl | rfl | rfl | rfl
    · exact ⟨0, rfl, by decide⟩
    · exact ⟨1, rfl, by decide⟩
    · exact ⟨2, rfl, by decide⟩
    · exact ⟨12, rfl, by decide⟩
  obtain ⟨r, rfl, r12⟩ := hr
  refine ⟨⟨by omega, by omega⟩, fun j ρ μ' => j ≤ 12 ∧ ∃ (a : SD) (d : SD) (x : Option SD), ρ = [some (.ref h), some a, some d, x] ∧ Val 0 (2 + j) (30 + j) d ∧ tlen d ≤ 4 ∧ HandAt μ' h (T + 2 + j) ∧ LeX h μ μ', ⟨Nat.zero_le _, _, _, _, rfl, vd, oddL_len d (List.mem_of_getElem? hd), H2, l1.trans l2⟩, fun _ _ _ _ _ => trivial, ?_, ?_⟩
  · rintro j dj ρ μ3 hdj ⟨j12, a, d, x, rfl, v, tl, H3, l3⟩
    have hj := (List.getElem?_eq_some_iff.mp hdj).1
    rw [List.length_map, List.length_range, Int.toNat_natCast] at hj
    dsimp only
    refine r_var rfl ?_
    refine ⟨h, 2, T + 2 + j, rfl, by decide, by decide, by omega, H3, fun y μ4 _ _ H4 l4 => ?_⟩
    refine i_eq ?_
    by_cases hy : y = 0
    · refine ifT (decide_eq_true hy) ?_
      refine r_var rfl ?_
      refine ⟨(by show 1 ≤ sizeLine; decide), ?_⟩
      exact ⟨by omega, _, _, _, rfl, (Val.tup (ValL.one v)).mono (Nat.le_refl _) (by omega) (by omega), (by show 1 ≤ 4; decide), H4, l3.trans l4⟩
    · refine ifF (decide_eq_false hy) ?_
      refine r_var rfl ?_
      refine ⟨(by show 1 ≤ sizeLine; decide), ?_⟩
      exact ⟨by omega, _, _, _, rfl, (Val.lst (ValL.one v)).mono (Nat.le_refl _) (by omega) (by omega), Nat.zero_le _, H4, l3.trans l4⟩
  · rintro ρ μ3 ⟨j12, a, d, x, rfl, v, tl, H3, l3⟩
    rw [List.length_map, List.length_range, Int.toNat_natCast] at *
    dsimp only
    refine r_var rfl ?_
    exact q d _ (v.mono (Nat.le_refl _) (by omega) (by omega)) tl (H3.mono (by omega)) l3
theorem ok_signs {x : Str} : PyData.strOk x = true ↔ ∀ c ∈ x.cps.toList, c < 0x110000 := by
  unfold PyData.strOk
  rw [Array.all_eq_true_iff_forall_mem]; simp
theorem shifted_lt {N : Nat} : ∀ {l : List (Nat × Nat × Nat)} {c d : Nat}, (l.all fun e => decide (e.2.2 + (e.2.1 - e.1) < N)) = true → Unicode.shifted l c = some d → d < N
  | [], _, _, _, h => by simp [Unicode.shifted] at h
  | (a, b, t) :: r, c, d, ha, h => by
    rw [List.all_cons, Bool.and_eq_true] at ha
    rw [Unicode.shifted] at h
    split at h
    · cases h
    · split at h
      · cases h
        have := of_decide_eq_true ha.1
        simp only at this
        omega
      · exact shifted_lt ha.2 h
theorem upper_one : (UnicodeData.oneUpper.all fun e => decide (e.2.2 + (e.2.1 - e.1) < 0x110000)) = true := by decide +kernel
theorem upper_several : (UnicodeData.severalUpper.all fun e => e.2.all fun c => decide (c < 0x110000)) = true := by decide +kernel
theorem upperOf_lt {c : Nat} (hc : c < 0x110000) : ∀ d ∈ Unicode.upperOf c, d < 0x110000 := by
  unfold Unicode.upperOf Unicode.image
  intro d hd
  split at hd
  · rename_i cs e
    have : (c, cs) ∈ UnicodeData.severalUpper := by
      have key : ∀ {l : List (Nat × List Nat)}, l.lookup c = some cs → (c, cs) ∈ l := by
        intro l
        induction l with
        | nil => intro h; cases h
        | cons p r ih =>
          intro h
          obtain ⟨k, v⟩ := p
          rw [List.lookup_cons] at h
          split at h
          · rename_i hk
            cases h
            have : c = k := by simpa using hk
            subst this
            exact List.mem_cons_self ..
          · exact List.mem_cons_of_mem _ (ih h)
      exact key e
    have h1 := List.all_eq_true.mp upper_several _ this
    exact of_decide_eq_true (List.all_eq_true.mp h1 d hd)
  · have : d = (Unicode.shifted UnicodeData.oneUpper c).getD c := by simpa using hd
    subst this
    cases e : Unicode.shifted UnicodeData.oneUpper c with
    | none => exact hc
    | some y => exact shifted_lt upper_one e
theorem ok_upper {x : Str} (h : PyData.strOk x = true) : PyData.strOk (Txt.upper x) = true := by
  rw [ok_signs]
  intro c hc
  unfold Txt.upper placed at hc
  have hc : c ∈ ((x.cps.mapIdx fun i c => (Unicode.upperOf c).toArray).flatten).toList := hc
  rw [Array.mem_toList_iff, Array.mem_flatten] at hc
  obtain ⟨a, ha, hca⟩ := hc
  rw [Array.mem_mapIdx] at ha
  obtain ⟨i, hi, rfl⟩ := ha
  have : c ∈ Unicode.upperOf x.cps[i] := by simpa using hca
  refine upperOf_lt (ok_signs.mp h _ ?_) c this
  simp
theorem ok_app {u v : Str} (hu : PyData.strOk u = true) (hv : PyData.strOk v = true) : PyData.strOk (u ++ v) = true := by
  rw [ok_signs]
  intro c hc
  have hc : c ∈ (u.cps ++ v.cps).toList := hc
  rw [Array.toList_append, List.mem_append] at hc
  exact hc.elim (ok_signs.mp hu c) (ok_signs.mp hv c)
theorem app_len {u v : Str} : (u ++ v).cps.size = u.cps.size + v.cps.size := by
  show (u.cps ++ v.cps).size = _
  rw [Array.size_append]
theorem ok_cut {x : Str} {l u : Option Int} (h : PyData.strOk x = true) : PyData.strOk (cutS x l u) = true := by
  rw [ok_signs]
  intro c hc
  have hc : c ∈ (x.cps.toList.drop (HT.sIx x.length 0 l)).take (HT.sIx x.length x.length u - HT.sIx x.length 0 l) := by
    unfold cutS at hc; simpa using hc
  exact ok_signs.mp h c (List.mem_of_mem_drop (List.mem_of_mem_take hc))
theorem ok_int {i : Int} : PyData.strOk (toString i : String) = true := by
  rw [ok_signs]
  intro c hc
  refine Nat.lt_of_not_le fun hge => ?_
  exact int_text_free' c ⟨by omega, by omega⟩ i hc
end LK
namespace LK
open PySem PySem.Spec PyProof.Rows L2 DS MA
theorem t_add {μ : Mu} {Q : SD → Mu → Prop} {xs ys : List SD} (h : xs.length + ys.length ≤ sizeLine) (q : Q (.tup (xs ++ ys)) μ) : dAdd (.tup xs) (.tup ys) μ Q := ⟨h, q⟩
theorem t0_tup {μ : Mu} {Q : SD → Mu → Prop} {xs : List SD} {neg : Bool} (q : Q (.bl (neg != xs.isEmpty)) μ) : dT0 neg (.tup xs) (.tup []) μ Q := q
theorem bl_eq1 {μ : Mu} {Q : SD → Mu → Prop} {b : Bool} (q : ∀ r, Q (.bl r) μ) : dEq false (.bl b) (.int 1) μ Q := by
  have : ∃ r, eqD μ (.bl b) (.int 1) = some r := by
    refine ⟨PyData.eqv (.bool b) (.int 1), ?_⟩
    have s1 : SeqAt.shaped (.bool b) = true := by cases b <;> decide +kernel
    have s2 : SeqAt.shaped (.int 1) = true := by decide +kernel
    show (match pd μ (.bl b), pd μ (.int 1) with
      | some p, some q => if SeqAt.shaped p = true ∧ SeqAt.shaped q = true then some (PyData.eqv p q) else none
      | _, _ => none) = _
    show (if SeqAt.shaped (.bool b) = true ∧ SeqAt.shaped (.int 1) = true then some (PyData.eqv (.bool b) (.int 1)) else none) = _
    rw [if_pos ⟨s1, s2⟩]
  obtain ⟨r, e⟩ := this
  unfold dEq; rw [e]
  exact q _
theorem ib_ii {μ : Mu} {Q : SD → Mu → Prop} {f : Int → Int → Int} {i j : Int} (q : Q (.int (f i j)) μ) : dIB f (.int i) (.int j) μ Q := q
theorem ib_bi {μ : Mu} {Q : SD → Mu → Prop} {f : Int → Int → Int} {b : Bool} {j : Int} (q : Q (.int (f (b2d b) j)) μ) : dIB f (.bl b) (.int j) μ Q := q
theorem ib_ib {μ : Mu} {Q : SD → Mu → Prop} {f : Int → Int → Int} {i : Int} {b : Bool} (q : Q (.int (f i (b2d b))) μ) : dIB f (.int i) (.bl b) μ Q := q
def sp__law_bent (n : Nat) : DSp := fun ds μ Q _ => ∃ (h : Addr) (d : SD) (m D B T : Nat), ds = [.ref h, d] ∧ dpV d < n ∧ Val m D B d ∧ m ≤ 1000000 ∧ B ≤ 100000 ∧ T + 100 * (dpV d + 1) ≤ 900000000 ∧ HandAt μ h T ∧
  ∀ d' μ', Val (m + 2) (D + 14) (4 * B + 100) d' → tlen d' ≤ tlen d + 4 → HandAt μ' h (T + 100 * (dpV d + 1)) → LeX h μ μ' → Q d' μ'
theorem no__law_bent {ds μ Q E} (h : sp__law_bent 0 ds μ Q E) : False := by
  obtain ⟨h, d, m, D, B, T, rfl, h, _⟩ := h; omega
theorem len__law_bent {n} : ∀ ds μ Q E, sp__law_bent n ds μ Q E → ds.length = 2 := by rintro ds μ Q E ⟨h, d, m, D, B, T, rfl, _⟩; rfl
def bLast : DTS := (dRet (dCall sp__law_of [] (dCons (dVar 0) (dCons (dLst (dCons (dCall sp__law_odd [] (dCons (dVar 0) dNil)) (dCons (dCall sp__law_odd [] (dCons (dVar 0) dNil)) (dCons (dTup (dCons (dVar 1) dNil)) (dCons (dLst (dCons (dVar 1) dNil)) dNil))))) dNil))))
def bInt : DTS := (dIfS (dAnd (dTest (dCB drIsi (dCons (dVar 1) (dCons (dC (.ty "int")) dNil)))) (dTest (dOp dGt (dCall sp__law_take [] (dCons (dVar 0) (dCons (dC (.int 3)) dNil))) (dC (.int 0))))) (dRet (dCall sp__law_of [] (dCons (dVar 0) (dCons (dLst (dCons (dOp (dIB fun i j => i + j) (dVar 1) (dC (.int 1))) (dCons (dOp (dIB fun i j => i - j) (dVar 1) (dC (.int 1))) (dCons (dOp (dIB fun i j => i - j) (dC (.int 0)) (dVar 1)) (dCons (dC (.int 1000)) (dCons (dC (.int 1001)) (dCons (dOp (dEq false) (dVar 1) (dC (.int 1))) (dCons (dCB drStr (dCons (dVar 1) dNil)) (dCons (dC .non) dNil))))))))) dNil)))) dNext)
def bStr : DTS := (dIfS (dAnd (dTest (dCB drIsi (dCons (dVar 1) (dCons (dC (.ty "str")) dNil)))) (dTest (dOp dGt (dCall sp__law_take [] (dCons (dVar 0) (dCons (dC (.int 3)) dNil))) (dC (.int 0))))) (dRet (dCall sp__law_of [] (dCons (dVar 0) (dCons (dLst (dCons (dOp dAdd (dVar 1) (dC (.str "a"))) (dCons (dSl (dVar 1) (dPart (dC (.int 1))) dNoPart) (dCons (dUpper (dVar 1)) (dCons (dOp dAdd (dVar 1) (dC (.str " "))) (dCons (dRevX (dVar 1)) (dCons (dLst (dCons (dVar 1) dNil)) (dCons (dC (.str "a")) (dCons (dC (.str "create")) dNil))))))))) dNil)))) dNext)
def bTup (n : Nat) : DTS := (dIfS (dAnd (dTest (dCB drIsi (dCons (dVar 1) (dCons (dC (.ty "tuple")) dNil)))) (dAnd (dTest (dOp (dT0 true) (dVar 1) (dTup dNil))) (dTest (dOp dGt (dCall sp__law_take [] (dCons (dVar 0) (dCons (dC (.int 6)) dNil))) (dC (.int 0)))))) (dSeq (dPar 2 3 (dCons (dCall sp__law_take [] (dCons (dVar 0) (dCons (dCB drLen (dCons (dVar 1) dNil)) dNil))) (dCons (dCall sp__law_take [] (dCons (dVar 0) (dCons (dC (.int 9)) dNil))) dNil)))
    (dSeq (dIfS (dTest (dOp dLt (dVar 3) (dC (.int 5)))) (dRet (dOp dAdd (dOp dAdd (dSl (dVar 1) dNoPart (dPart (dVar 2))) (dTup (dCons (dCall (sp__law_bent n) [] (dCons (dVar 0) (dCons (dOp dIx (dVar 1) (dVar 2)) dNil))) dNil))) (dSl (dVar 1) (dPart (dOp dAdd (dVar 2) (dC (.int 1)))) dNoPart))) dNext)
    (dRet (dOp dIx (dLst (dCons (dOp dAdd (dSl (dVar 1) dNoPart (dPart (dVar 2))) (dSl (dVar 1) (dPart (dOp dAdd (dVar 2) (dC (.int 1)))) dNoPart)) (dCons (dOp dAdd (dSl (dVar 1) dNoPart (dPart (dOp dAdd (dVar 2) (dC (.int 1))))) (dSl (dVar 1) (dPart (dVar 2)) dNoPart)) (dCons (dRevX (dVar 1)) (dCons (dCB drList (dCons (dVar 1) dNil)) dNil))))) (dOp dSub (dVar 3) (dC (.int 5))))))) dNext)
def t__law_bent (n : Nat) : DTS := dSeq (bTup n) (dSeq bStr (dSeq bInt bLast))
section
variable {μ : Mu} {Q : SD → Mu → Prop} {h : Addr} {d : SD} {m D B T : Nat} {a b : Option SD}
theorem bent_last (v : Val m D B d) (hT : T + 40 ≤ 900000000) (H : HandAt μ h T) (nx : Rho → Mu → Prop) (bk ct : Rho → Mu → Prop) (q : ∀ d' μ', Val (m + 2) (D + 14) (4 * B + 100) d' → tlen d' ≤ tlen d + 4 → HandAt μ' h (T + 40) → LeX h μ μ' → Q d' μ') :
    bLast { nx := nx, rt := Q, bk := bk, ct := ct } [some (.ref h), some d, a, b] μ := by
  unfold bLast
  refine r_var rfl ?_
  refine r_var rfl ?_
  refine ⟨h, T, rfl, by omega, H, fun d1 μ1 v1 t1 H1 l1 => ?_⟩
  refine r_var rfl ?_
  refine ⟨h, T + 14, rfl, by omega, H1, fun d2 μ2 v2 t2 H2 l2 => ?_⟩
  refine r_var rfl ?_
  refine ⟨(by show 1 ≤ sizeLine; decide), ?_⟩
  refine r_var rfl ?_
  refine ⟨(by show 1 ≤ sizeLine; decide), ?_⟩
  refine ⟨(by show 4 ≤ sizeLine; decide), ?_⟩
  refine ⟨h, _, _, T + 14 + 14, rfl, .inl rfl, by simp, by simp, by omega, H2, fun i dm μ3 hdm H3 l3 => ?_⟩
  suffices key : Val (m + 2) (D + 14) (4 * B + 100) dm ∧ tlen dm ≤ tlen _ + 4 from q dm μ3 key.1 key.2 (H3.mono (by omega)) ((l1.trans l2).trans l3)
  have := List.mem_of_getElem? hdm
  simp only [List.mem_cons, List.not_mem_nil, or_false] at this
  rcases this with rfl | rfl | rfl | rfl
  · exact ⟨v1.mono (by omega) (by omega) (by omega), Nat.le_trans t1 (Nat.le_add_left 4 _)⟩
  · exact ⟨v2.mono (by omega) (by omega) (by omega), Nat.le_trans t2 (Nat.le_add_left 4 _)⟩
  · exact ⟨(Val.tup (ValL.one v)).mono (by omega) (by omega) (by omega), (by first | exact Nat.zero_le _ | exact Nat.le_trans (show 1 ≤ 4 by decide) (Nat.le_add_left 4 _))⟩
  · exact ⟨(Val.lst (ValL.one v)).mono (by omega) (by omega) (by omega), (by first | exact Nat.zero_le _ | exact Nat.le_trans (show 1 ≤ 4 by decide) (Nat.le_add_left 4 _))⟩
theorem bent_int (v : Val m D B d) (hm : m ≤ 1000000) (hT : T + 44 ≤ 900000000) (H : HandAt μ h T) (nx : Rho → Mu → Prop) (bk ct : Rho → Mu → Prop) (q : ∀ d' μ', Val (m + 2) (D + 14) (4 * B + 100) d' → tlen d' ≤ tlen d + 4 → HandAt μ' h (T + 44) → LeX h μ μ' → Q d' μ') :
    dSeq bInt bLast { nx := nx, rt := Q, bk := bk, ct := ct } [some (.ref h), some d, a, b] μ := by
  unfold bInt
  refine r_var rfl ?_
  refine isi_int v.ok ?_
  cases hd : isIntD d with
  | false =>
    refine ifF rfl ?_
    refine ifF rfl ?_
    exact bent_last v (by omega) H nx bk ct fun d' μ' v' t' H' l' => q d' μ' v' t' (H'.mono (by omega)) l'
  | true =>
    refine ifT rfl ?_
    refine r_var rfl ?_
    refine ⟨h, 3, T, rfl, by decide, by decide, by omega, H, fun x μ1 _ _ H1 l1 => ?_⟩
    refine i_gt ?_
    by_cases hx : 0 < x
    · refine ifT (by simpa using hx) ?_
      refine r_var rfl ?_
      have fin : ∀ (i1 i2 i3 : Int) (r : Bool) (s : Str), i1.natAbs ≤ 10 ^ 20 + (m + 2) → i2.natAbs ≤ 10 ^ 20 + (m + 2) → i3.natAbs ≤ 10 ^ 20 + (m + 2) → PyData.strOk s = true → s.cps.size ≤ 100 →
          ([SD.int i1, .int i2, .int i3, .int 1000, .int 1001, .bl r, .str s, .non] : List SD).length ≤ sizeLine ∧ sp__law_of ([SD.ref h, .lst [SD.int i1, .int i2, .int i3, .int 1000, .int 1001, .bl r, .str s, .non]] ++ []) μ1 Q fun _ _ _ => False := fun i1 i2 i3 r s h1 h2 h3 h4 h5 => by
        refine ⟨(by show 8 ≤ sizeLine; decide), ?_⟩
        refine ⟨h, _, _, T + 1, rfl, .inl rfl, by simp, by simp, by omega, H1, fun i dm μ3 hdm H3 l3 => ?_⟩
        suffices key : Val (m + 2) (D + 14) (4 * B + 100) dm ∧ tlen dm ≤ tlen _ + 4 from q dm μ3 key.1 key.2 (H3.mono (by omega)) (l1.trans l3)
        have := List.mem_of_getElem? hdm
        simp only [List.mem_cons, List.not_mem_nil, or_false] at this
        rcases this with rfl | rfl | rfl | rfl | rfl | rfl | rfl | rfl
        · exact ⟨(Val.int h1).mono (Nat.le_refl _) (by omega) (by omega), (by first | exact Nat.zero_le _ | exact Nat.le_trans (show 1 ≤ 4 by decide) (Nat.le_add_left 4 _))⟩
        · exact ⟨(Val.int h2).mono (Nat.le_refl _) (by omega) (by omega), (by first | exact Nat.zero_le _ | exact Nat.le_trans (show 1 ≤ 4 by decide) (Nat.le_add_left 4 _))⟩
        · exact ⟨(Val.int h3).mono (Nat.le_refl _) (by omega) (by omega), (by first | exact Nat.zero_le _ | exact Nat.le_trans (show 1 ≤ 4 by decide) (Nat.le_add_left 4 _))⟩
        · exact ⟨(Val.int (m := 0) (by decide)).mono (by omega) (by omega) (by omega), (by first | exact Nat.zero_le _ | exact Nat.le_trans (show 1 ≤ 4 by decide) (Nat.le_add_left 4 _))⟩
        · exact ⟨(Val.int (m := 0) (by decide)).mono (by omega) (by omega) (by omega), (by first | exact Nat.zero_le _ | exact Nat.le_trans (show 1 ≤ 4 by decide) (Nat.le_add_left 4 _))⟩
        · exact ⟨(Val.bl r).mono (by omega) (by omega) (by omega), (by first | exact Nat.zero_le _ | exact Nat.le_trans (show 1 ≤ 4 by decide) (Nat.le_add_left 4 _))⟩
        · exact ⟨(Val.str h4).mono (by omega) (by omega) (by omega), (by first | exact Nat.zero_le _ | exact Nat.le_trans (show 1 ≤ 4 by decide) (Nat.le_add_left 4 _))⟩
        · exact ⟨Val.non.mono (by omega) (by omega) (by omega), (by first | exact Nat.zero_le _ | exact Nat.le_trans (show 1 ≤ 4 by decide) (Nat.le_add_left 4 _))⟩
      have vo := v.ok
      cases d with
      | int i =>
        rw [okV] at vo
        refine r_var rfl (ib_ii ?_)
        refine r_var rfl (ib_ii ?_)
        refine r_var rfl (ib_ii ?_)
        refine r_var rfl ?_
        refine i_eq ?_
        refine r_var rfl ?_
        obtain ⟨s1, s2⟩ := int_short (m := m) (by omega) vo
        refine ⟨s2, ?_⟩
        refine fin (i + 1) (i - 1) (0 - i) (decide (i = 1)) _ (by omega) (by omega) (by omega) ok_int ?_
        simp only [PyData.shown] at s1
        exact Nat.le_trans s1 (by decide)
      | bl r =>
        refine r_var rfl (ib_bi ?_)
        refine r_var rfl (ib_bi ?_)
        refine r_var rfl (ib_ib ?_)
        refine r_var rfl ?_
        refine bl_eq1 fun r2 => ?_
        refine r_var rfl ?_
        have hb : b2d r = 0 ∨ b2d r = 1 := by cases r <;> simp [b2d]
        refine fin (b2d r + 1) (b2d r - 1) (0 - b2d r) r2 _ (by omega) (by omega) (by omega) ?_ ?_
        · cases r <;> decide +kernel
        · cases r <;> decide +kernel
      | _ => cases hd
    · refine ifF (by simpa using hx) ?_
      exact bent_last v (by omega) H1 nx bk ct fun d' μ' v' t' H' l' => q d' μ' v' t' (H'.mono (by omega)) (l1.trans l')
theorem bent_str (v : Val m D B d) (hm : m ≤ 1000000) (hB : B ≤ 100000) (hT : T + 48 ≤ 900000000) (H : HandAt μ h T) (nx : Rho → Mu → Prop) (bk ct : Rho → Mu → Prop) (q : ∀ d' μ', Val (m + 2) (D + 14) (4 * B + 100) d' → tlen d' ≤ tlen d + 4 → HandAt μ' h (T + 48) → LeX h μ μ' → Q d' μ') :
    dSeq bStr (dSeq bInt bLast) { nx := nx, rt := Q, bk := bk, ct := ct } [some (.ref h), some d, a, b] μ := by
  unfold bStr
  refine r_var rfl ?_
  refine isi_str v.ok ?_
  cases hd : isStr d with
  | false =>
    refine ifF rfl ?_
    refine ifF rfl ?_
    exact bent_int v hm (by omega) H nx bk ct fun d' μ' v' t' H' l' => q d' μ' v' t' (H'.mono (by omega)) l'
  | true =>
    refine ifT rfl ?_
    refine r_var rfl ?_
    refine ⟨h, 3, T, rfl, by decide, by decide, by omega, H, fun x μ1 _ _ H1 l1 => ?_⟩
    refine i_gt ?_
    by_cases hx : 0 < x
    · refine ifT (by simpa using hx) ?_
      obtain ⟨z, rfl⟩ : ∃ z, d = .str z := by cases d <;> first | exact ⟨_, rfl⟩ | cases hd
      have vo := v.ok
      rw [okV] at vo
      have vw := v.wt
      rw [wtV] at vw
      have zl : z.length = z.cps.size := rfl
      have z1 : z.length ≤ sizeLine := le_line (m := 100000) (by omega) (by omega)
      refine r_var rfl ?_
      refine r_var rfl ?_
      refine s_add (le_line (m := 100001) (by show z.cps.size + 1 ≤ _; omega) (by omega)) ?_
      refine r_var rfl ?_
      refine ⟨z1, ?_⟩
      refine r_var rfl ?_
      refine ⟨by omega, ?_⟩
      refine r_var rfl ?_
      refine s_add (le_line (m := 100001) (by show z.cps.size + 1 ≤ _; omega) (by omega)) ?_
      refine r_var rfl ?_
      refine ⟨z1, fun t tl tc => ?_⟩
      refine r_var rfl ?_
      refine ⟨(by show 1 ≤ sizeLine; decide), ?_⟩
      refine ⟨(by show 8 ≤ sizeLine; decide), ?_⟩
      refine ⟨h, _, _, T + 1, rfl, .inl rfl, by simp, by simp, by omega, H1, fun i dm μ3 hdm H3 l3 => ?_⟩
      suffices key : Val (m + 2) (D + 14) (4 * B + 100) dm ∧ tlen dm ≤ tlen _ + 4 from q dm μ3 key.1 key.2 (H3.mono (by omega)) (l1.trans l3)
      have := List.mem_of_getElem? hdm
      simp only [List.mem_cons, List.not_mem_nil, or_false] at this
      have tl' : t.cps.size ≤ z.cps.size := tl
      have ul : (Txt.upper z).cps.size ≤ 3 * z.cps.size := len_upper z
      have cl : (cutS z (some 1) none).cps.size ≤ z.cps.size := cutS_length z (some 1) none
      rcases this with rfl | rfl | rfl | rfl | rfl | rfl | rfl | rfl
      · exact ⟨(Val.str (ok_app vo (by decide +kernel))).mono (by omega) (by omega) (by rw [app_len]; show z.cps.size + 1 ≤ _; omega), (by first | exact Nat.zero_le _ | exact Nat.le_trans (show 1 ≤ 4 by decide) (Nat.le_add_left 4 _))⟩
      · exact ⟨(Val.str (ok_cut vo)).mono (by omega) (by omega) (by omega), (by first | exact Nat.zero_le _ | exact Nat.le_trans (show 1 ≤ 4 by decide) (Nat.le_add_left 4 _))⟩
      · exact ⟨(Val.str (ok_upper vo)).mono (by omega) (by omega) (by omega), (by first | exact Nat.zero_le _ | exact Nat.le_trans (show 1 ≤ 4 by decide) (Nat.le_add_left 4 _))⟩
      · exact ⟨(Val.str (ok_app vo (by decide +kernel))).mono (by omega) (by omega) (by rw [app_len]; show z.cps.size + 1 ≤ _; omega), (by first | exact Nat.zero_le _ | exact Nat.le_trans (show 1 ≤ 4 by decide) (Nat.le_add_left 4 _))⟩
      · exact ⟨(Val.str (ok_signs.mpr fun c hc => ok_signs.mp vo c (tc c hc))).mono (by omega) (by omega) (by omega), (by first | exact Nat.zero_le _ | exact Nat.le_trans (show 1 ≤ 4 by decide) (Nat.le_add_left 4 _))⟩
      · exact ⟨(Val.lst (ValL.one v)).mono (by omega) (by omega) (by omega), (by first | exact Nat.zero_le _ | exact Nat.le_trans (show 1 ≤ 4 by decide) (Nat.le_add_left 4 _))⟩
      · exact ⟨(Val.str (x := "a") (by decide +kernel)).mono (by omega) (by omega) (by show 1 ≤ _; omega), (by first | exact Nat.zero_le _ | exact Nat.le_trans (show 1 ≤ 4 by decide) (Nat.le_add_left 4 _))⟩
      · exact ⟨(Val.str (x := "create") (by decide +kernel)).mono (by omega) (by omega) (by show 6 ≤ _; omega), (by first | exact Nat.zero_le _ | exact Nat.le_trans (show 1 ≤ 4 by decide) (Nat.le_add_left 4 _))⟩
    · refine ifF (by simpa using hx) ?_
      exact bent_int v hm (by omega) H1 nx bk ct fun d' μ' v' t' H' l' => q d' μ' v' t' (H'.mono (by omega)) (l1.trans l')
end
theorem read__law_bent (n : Nat) : ∀ ds μ Q E, sp__law_bent (n + 1) ds μ Q E → t__law_bent n { nx := fun _ μ' => Q .non μ', rt := Q } (begin_ ["_law_hand_here", "_law_thing", "_law_at", "_law_way"] ds) μ := by
  rintro ds μ Q E ⟨h, d, m, D, B, T, rfl, hn, v, hm, hB, hT, H, q⟩
  unfold t__law_bent bTup
  refine r_var rfl ?_
  refine isi_tup v.ok ?_
  have rest : ∀ μ1 k, k ≤ 3 → HandAt μ1 h (T + k) → LeX h μ μ1 → dSeq bStr (dSeq bInt bLast) { nx := fun _ μ' => Q .non μ', rt := Q } [some (.ref h), some d, none, none] μ1 := fun μ1 k hk H1 l1 =>
    bent_str v hm hB (by omega) H1 _ _ _ fun d' μ' v' t' H' l' => q d' μ' v' t' (H'.mono (by omega)) (l1.trans l')
  cases hd : isTup d with
  | false => exact ifF rfl (ifF rfl (rest μ 0 (by omega) H (LeX.refl h μ)))
  | true =>
    refine ifT rfl ?_
    obtain ⟨xs, rfl⟩ : ∃ xs, d = .tup xs := by cases d <;> first | exact ⟨_, rfl⟩ | cases hd
    refine r_var rfl ?_
    refine ⟨Nat.zero_le _, ?_⟩
    refine t0_tup ?_
    cases hxs : xs.isEmpty with
    | true => exact ifF rfl (ifF rfl (rest μ 0 (by omega) H (LeX.refl h μ)))
    | false =>
      refine ifT rfl ?_
      refine r_var rfl ?_
      refine ⟨h, 6, T, rfl, by decide, by decide, by omega, H, fun x μ1 _ _ H1 l1 => ?_⟩
      refine i_gt ?_
      by_cases hx : 0 < x
      · refine ifT (by simpa using hx) ?_
        obtain ⟨D', rfl⟩ : ∃ D', D = D' + 1 := ⟨D - 1, by have := v.pos; omega⟩
        have vl := v.ofTup
        have xl : xs.length ≤ B := Nat.le_trans (len_wtVL xs) vl.wt
        have x0 : 0 < xs.length := by cases xs with
          | nil => cases hxs
          | cons _ _ => simp
        dsimp only
        refine r_var rfl ?_
        refine r_var rfl ?_
        refine l_lenT ?_
        refine ⟨h, _, T + 1, rfl, by omega, by omega, by omega, H1, fun at_ μ2 a0 a1 H2 l2 => ?_⟩
        obtain ⟨k, rfl⟩ := Int.eq_ofNat_of_zero_le a0
        have hk : k < xs.length := by omega
        refine r_var rfl ?_
        refine ⟨h, 9, T + 1 + 1, rfl, by decide, by decide, by omega, H2, fun way μ3 b0 b1 H3 l3 => ?_⟩
        obtain ⟨y, rfl⟩ := Int.eq_ofNat_of_zero_le b0
        have l03 := (l1.trans l2).trans l3
        dsimp only
        refine r_var rfl ?_
        refine i_lt ?_
        have tk := (vl.take k)
        have dr := (vl.drop (k + 1))
        by_cases hy : y < 5
        · refine ifT (decide_eq_true (by omega)) ?_
          refine r_var rfl ?_
          refine r_var rfl ?_
          refine sl_T ?_
          rw [cutL_to]
          refine r_var rfl ?_
          refine r_var rfl ?_
          refine r_var rfl ?_
          have hin : xs[k]? = some xs[k] := List.getElem?_eq_getElem hk
          refine ix_tup (d := xs[k]) (atI_nat hin) ?_
          have hc := List.getElem_mem hk
          have dc : dpV xs[k] < dpV (.tup xs) := by rw [dpV]; exact Nat.lt_succ_of_le (dpVL_le.mp (Nat.le_refl _) _ hc)
          have vc := vl.mem hc
          have wc := wtVL_mem hc
          have wB := vl.wt
          refine ⟨h, xs[k], m, D', wtV xs[k], T + 1 + 1 + 1, rfl, by omega, ⟨vc.ok, vc.dp, Nat.le_refl _⟩, hm, by omega, by omega, H3, fun d' μ4 v' _ H4 l4 => ?_⟩
          refine ⟨(by show 1 ≤ sizeLine; decide), ?_⟩
          refine t_add (le_line (m := 100002) (by simp; omega) (by omega)) ?_
          refine r_var rfl ?_
          refine r_var rfl ?_
          refine i_add ?_
          refine sl_T ?_
          rw [show ((k : Nat) : Int) + 1 = ((k + 1 : Nat) : Int) by omega, cutL_from]
          refine t_add (le_line (m := 200002) (by simp; omega) (by omega)) ?_
          refine q _ μ4 ?_ (by show (xs.take k ++ [d'] ++ xs.drop (k + 1)).length ≤ xs.length + 4; simp; omega) (H4.mono (by omega)) (l03.trans l4)
          have w1 := wtVL_cut xs k
          have w2 : xs.drop k = xs[k] :: xs.drop (k + 1) := (List.drop_eq_getElem_cons hk)
          rw [w2, wtVL] at w1
          have e1 : ValL m D' (wtVL (xs.take k)) (xs.take k) := ⟨tk.ok, tk.dp, Nat.le_refl _⟩
          have e2 : ValL m D' (wtVL (xs.drop (k + 1))) (xs.drop (k + 1)) := ⟨dr.ok, dr.dp, Nat.le_refl _⟩
          have e3 := ValL.append (ValL.append (e1.mono (m' := m + 2) (D' := D' + 14) (by omega) (by omega) (Nat.le_refl _)) (ValL.one v')) (e2.mono (m' := m + 2) (D' := D' + 14) (by omega) (by omega) (Nat.le_refl _))
          exact (Val.tup e3).mono (Nat.le_refl _) (by omega) (by omega)
        · refine ifF (decide_eq_false (by omega)) ?_
          simp only [dNext]
          refine r_var rfl ?_
          refine r_var rfl ?_
          refine sl_T ?_
          rw [cutL_to]
          refine r_var rfl ?_
          refine r_var rfl ?_
          refine i_add ?_
          refine sl_T ?_
          rw [show ((k : Nat) : Int) + 1 = ((k + 1 : Nat) : Int) by omega, cutL_from]
          refine t_add (le_line (m := 200002) (by simp; omega) (by omega)) ?_
          refine r_var rfl ?_
          refine r_var rfl ?_
          refine i_add ?_
          refine sl_T ?_
          rw [show ((k : Nat) : Int) + 1 = ((k + 1 : Nat) : Int) by omega, cutL_to]
          refine r_var rfl ?_
          refine r_var rfl ?_
          refine sl_T ?_
          rw [cutL_from]
          refine t_add (le_line (m := 200002) (by simp; omega) (by omega)) ?_
          refine r_var rfl ?_
          show drRevX (.tup xs) μ3 _
          unfold drRevX
          dsimp only
          refine r_var rfl ?_
          show drList [.tup xs] μ3 _
          unfold drList
          simp only [seqD]
          refine ⟨(by show 4 ≤ sizeLine; decide), ?_⟩
          refine r_var rfl ?_
          refine i_sub ?_
          have fin : ∀ d', Val (m + 2) (D' + 1 + 14) (4 * B + 100) d' → tlen d' ≤ xs.length + 4 → Q d' μ3 := fun d' v' t' => q d' μ3 v' t' (H3.mono (by omega)) l03
          have y4 : y = 5 ∨ y = 6 ∨ y = 7 ∨ y = 8 := by omega
          rcases y4 with rfl | rfl | rfl | rfl
          · refine ix_lst (k := 0) rfl (fin _ ?_ (by show (xs.take k ++ xs.drop (k + 1)).length ≤ xs.length + 4; simp; omega))
            exact (Val.tup (ValL.append tk dr)).mono (by omega) (by omega) (by omega)
          · refine ix_lst (k := 1) rfl (fin _ ?_ (by show (xs.take (k + 1) ++ xs.drop k).length ≤ xs.length + 4; simp; omega))
            exact (Val.tup (ValL.append (vl.take (k + 1)) (vl.drop k))).mono (by omega) (by omega) (by omega)
          · refine ix_lst (k := 2) rfl (fin _ ?_ (by show xs.reverse.length ≤ xs.length + 4; simp))
            exact (Val.tup vl.reverse).mono (by omega) (by omega) (by omega)
          · refine ix_lst (k := 3) rfl (fin _ ?_ (Nat.zero_le _))
            exact (Val.lst vl).mono (by omega) (by omega) (by omega)
      · exact ifF (by simpa using hx) (rest μ1 1 (by omega) H1 l1)
end LK
namespace LK
open PySem PySem.Spec PyProof.Rows L2 DS MA
theorem Fits.congr {f g : Str → List Str} : ∀ (n : Nat) {t : T}, dep t ≤ n → (∀ k ∈ pre t, g k = f k) → Fits f t → Fits g t := by
  intro n
  induction n with
  | zero => intro t h; cases t; rw [dep] at h; omega
  | succ n ih =>
    intro t h e fit
    obtain ⟨k, cs⟩ := t
    rw [Fits] at fit ⊢
    rw [dep] at h
    rw [pre] at e
    refine ⟨by rw [e k (List.mem_cons_self ..)]; exact fit.1, FitsL_mem.mpr fun c hc => ?_⟩
    have := depL_mem hc
    exact ih (by omega) (fun x hx => e x (List.mem_cons_of_mem _ (preL_sub hc x hx))) (FitsL_mem.mp fit.2 c hc)
theorem Fits.same {f g : Str → List Str} {t : T} (e : ∀ k ∈ pre t, g k = f k) (h : Fits f t) : Fits g t := Fits.congr (dep t) (Nat.le_refl _) e h
mutual
theorem Fits.uniq {f : Str → List Str} : ∀ {t t' : T}, Fits f t → Fits f t' → t.key = t'.key → t = t'
  | .node k cs, .node k' cs', h, h', e => by
    have e : k = k' := e
    subst e
    rw [Fits] at h h'
    rw [FitsL.uniq h.2 h'.2 (h.1.symm.trans h'.1)]
theorem FitsL.uniq {f : Str → List Str} : ∀ {a b : List T}, FitsL f a → FitsL f b → a.map T.key = b.map T.key → a = b
  | [], [], _, _, _ => rfl
  | [], _ :: _, _, _, e => by cases e
  | _ :: _, [], _, _, e => by cases e
  | x :: a, y :: b, h, h', e => by
    rw [FitsL] at h h'
    simp only [List.map_cons, List.cons.injEq] at e
    rw [Fits.uniq h.1 h'.1 e.1, FitsL.uniq h.2 h'.2 e.2]
end
theorem keys_sub : ∀ cs : List T, (cs.map T.key).Sublist (preL cs)
  | [] => by rw [preL]; exact List.Sublist.refl _
  | .node k ks :: r => by
    rw [List.map_cons, preL, pre, List.cons_append]
    exact List.Sublist.cons_cons k (List.Sublist.trans (keys_sub r) (List.sublist_append_right _ _))
theorem Fits.parent {f : Str → List Str} {x : Str} : ∀ (n : Nat) {t : T}, dep t ≤ n → Fits f t → x ∈ pre t → x = t.key ∨ ∃ p ∈ pre t, x ∈ f p := by
  intro n
  induction n with
  | zero => intro t h; cases t; rw [dep] at h; omega
  | succ n ih =>
    intro t h fit hx
    obtain ⟨k, cs⟩ := t
    rw [Fits] at fit
    rw [dep] at h
    rw [pre] at hx ⊢
    rcases List.mem_cons.mp hx with rfl | hx
    · exact .inl rfl
    · obtain ⟨c, hc, hxc⟩ := preL_mem.mp hx
      have := depL_mem hc
      rcases ih (by omega) (FitsL_mem.mp fit.2 c hc) hxc with rfl | ⟨p, hp, h2⟩
      · exact .inr ⟨k, List.mem_cons_self .., by rw [fit.1]; exact List.mem_map.mpr ⟨c, hc, rfl⟩⟩
      · exact .inr ⟨p, List.mem_cons_of_mem _ (preL_sub hc p hp), h2⟩
theorem dep_len : ∀ (n : Nat) {t : T}, dep t ≤ n → dep t ≤ (pre t).length := by
  intro n
  induction n with
  | zero => intro t h; cases t; rw [dep] at h; omega
  | succ n ih =>
    intro t h
    obtain ⟨k, cs⟩ := t
    rw [dep] at h ⊢
    rw [pre, List.length_cons]
    have : depL cs ≤ (preL cs).length := depL_le fun c hc => by
      have := depL_mem hc
      exact Nat.le_trans (ih (by omega)) (preL_len hc)
    omega
/-- t with a hole where the children of h are -/
inductive Hole (h : Str) (cs : List T) : T → (List T → T) → List Str → List Str → Prop where
  | here : Hole h cs (.node h cs) (fun c => .node h c) [h] []
  | down {k : Str} {l r : List T} {c : T} {F : List T → T} {a b : List Str} (H : Hole h cs c F a b) :
      Hole h cs (.node k (l ++ c :: r)) (fun c' => .node k (l ++ F c' :: r)) (k :: (preL l ++ a)) (b ++ preL r)
theorem Hole.get {h : Str} : ∀ (n : Nat) {t : T}, dep t ≤ n → h ∈ pre t → ∃ cs F a b, Hole h cs t F a b := by
  intro n
  induction n with
  | zero => intro t h; cases t; rw [dep] at h; omega
  | succ n ih =>
    intro t hd hm
    obtain ⟨k, cs⟩ := t
    rw [dep] at hd
    rw [pre] at hm
    by_cases e : h = k
    · subst e; exact ⟨cs, _, _, _, .here⟩
    · rcases List.mem_cons.mp hm with e2 | hm
      · exact (e e2).elim
      · obtain ⟨c, hc, hx⟩ := preL_mem.mp hm
        have := depL_mem hc
        obtain ⟨l, r, rfl⟩ := List.append_of_mem hc
        obtain ⟨cs', F, a, b, H⟩ := ih (by omega) hx
        exact ⟨cs', _, _, _, .down H⟩
section
variable {h : Str} {cs : List T} {t : T} {F : List T → T} {a b : List Str}
theorem Hole.pre (H : Hole h cs t F a b) : MA.pre t = a ++ preL cs ++ b := by
  induction H with
  | here => rw [MA.pre]; simp
  | down H ih => rw [MA.pre, preL_append, preL, ih]; simp
theorem Hole.pre' (H : Hole h cs t F a b) (cs' : List T) : MA.pre (F cs') = a ++ preL cs' ++ b := by
  induction H with
  | here => rw [MA.pre]; simp
  | down H ih => rw [MA.pre, preL_append, preL, ih]; simp
theorem Hole.key (H : Hole h cs t F a b) (cs' : List T) : (F cs').key = t.key := by cases H <;> rfl
theorem Hole.mem (H : Hole h cs t F a b) : h ∈ a := by
  induction H with
  | here => exact List.mem_singleton.mpr rfl
  | down H ih => exact List.mem_cons_of_mem _ (List.mem_append_right _ ih)
theorem Hole.fits {f : Str → List Str} (H : Hole h cs t F a b) : Fits f t → f h = cs.map T.key ∧ FitsL f cs := by
  induction H with
  | here => intro q; rw [Fits] at q; exact q
  | down H ih => intro q; rw [Fits] at q; exact ih (FitsL_mem.mp q.2 _ (by simp))
theorem Hole.sub (H : Hole h cs t F a b) {c : T} (hc : c ∈ cs) : Sub c t := by
  induction H with
  | here => exact .kid hc (.refl _)
  | down H ih => exact .kid (by simp) ih
theorem Hole.fits' {f g : Str → List Str} {cs' : List T} (hg : g h = cs'.map T.key) (fl : FitsL g cs') (H : Hole h cs t F a b) : Fits f t → (∀ k ∈ a ++ b, k ≠ h → g k = f k) → (a ++ b).Nodup → Fits g (F cs') := by
  induction H with
  | here => intro _ _ _; rw [Fits]; exact ⟨hg, fl⟩
  | @down k l r c F a b H ih =>
    intro fit e nd
    rw [Fits] at fit ⊢
    have hm := H.mem
    have nd2 := nd
    rw [List.cons_append, List.nodup_cons] at nd
    have hk : k ≠ h := fun z => nd.1 (by subst z; simp [hm])
    have nd3 := nd.2
    have hl : h ∉ preL l := fun z => by
      rw [List.append_assoc, List.nodup_append] at nd3
      exact nd3.2.2 h z h (by simp [hm]) rfl
    have hr : h ∉ preL r := fun z => by
      rw [← List.append_assoc, List.nodup_append] at nd3
      exact nd3.2.2 h (by simp [hm]) h z rfl
    have fl2 := FitsL_mem.mp fit.2
    refine ⟨?_, FitsL_mem.mpr fun x hx => ?_⟩
    · rw [e k (by simp) hk, fit.1]; simp [H.key cs']
    · have side : ∀ x, (∀ y ∈ MA.pre x, y ∈ (k :: (preL l ++ a)) ++ (b ++ preL r) ∧ y ≠ h) → Fits f x → Fits g x := fun x hy hf => Fits.same (fun y h1 => e y (hy y h1).1 (hy y h1).2) hf
      rcases List.mem_append.mp hx with hx | hx
      · refine side x (fun y hy => ?_) (fl2 x (by simp [hx]))
        have := preL_sub hx y hy
        exact ⟨by simp [this], fun z => hl (z ▸ this)⟩
      · rcases List.mem_cons.mp hx with rfl | hx
        · refine ih (fl2 c (by simp)) (fun y hy hn => e y ?_ hn) ?_
          · rcases List.mem_append.mp hy with hy | hy <;> simp [hy]
          · have : ((preL l ++ a) ++ (b ++ preL r)).Nodup := nd3
            refine this.sublist ?_
            exact List.Sublist.append (List.sublist_append_right _ _) (List.sublist_append_left _ _)
        · refine side x (fun y hy => ?_) (fl2 x (by simp [hx]))
          have := preL_sub hx y hy
          exact ⟨by simp [this], fun z => hr (z ▸ this)⟩
end
/-- a forest that is a tree: f the children, par the parents -/
structure Fo (r : Str) (f : Str → List Str) (par : Str → Option Str) (t : T) : Prop where
  key : t.key = r
  fits : Fits f t
  nd : (MA.pre t).Nodup
  kid : ∀ k ∈ MA.pre t, ∀ c ∈ f k, par c = some k
  root : par r = none
section
variable {r : Str} {f : Str → List Str} {par : Str → Option Str} {t : T}
theorem Fo.rmem (o : Fo r f par t) : r ∈ pre t := by rw [← o.key]; exact key_mem t
theorem Fo.up (o : Fo r f par t) {x : Str} (hx : x ∈ pre t) (hr : x ≠ r) : ∃ p ∈ pre t, par x = some p ∧ x ∈ f p := by
  rcases Fits.parent (dep t) (Nat.le_refl _) o.fits hx with e | ⟨p, hp, h⟩
  · exact (hr (e.trans o.key)).elim
  · exact ⟨p, hp, o.kid p hp x h, h⟩
theorem Fo.par_mem (o : Fo r f par t) {x p : Str} (hx : x ∈ pre t) (h : par x = some p) : p ∈ pre t ∧ x ∈ f p ∧ x ≠ r := by
  have hr : x ≠ r := fun e => by subst e; rw [o.root] at h; cases h
  obtain ⟨q, hq, h2, h3⟩ := o.up hx hr
  rw [h] at h2; cases h2
  exact ⟨hq, h3, hr⟩
theorem Fo.kid_mem (o : Fo r f par t) {c p : Str} (hp : p ∈ pre t) (hc : c ∈ f p) : c ∈ pre t ∧ c ≠ r := by
  refine ⟨kids_in o.fits hp hc, fun e => ?_⟩
  have := o.kid p hp c hc
  subst e; rw [o.root] at this; cases this
theorem Fo.par_iff (o : Fo r f par t) {c p : Str} (hp : p ∈ pre t) : c ∈ f p ↔ c ∈ pre t ∧ par c = some p :=
  ⟨fun h => ⟨(o.kid_mem hp h).1, o.kid p hp c h⟩, fun h => (o.par_mem h.1 h.2).2.1⟩
theorem Fo.hole (o : Fo r f par t) {p : Str} (hp : p ∈ pre t) : ∃ cs F a b, Hole p cs t F a b ∧ f p = cs.map T.key ∧ FitsL f cs := by
  obtain ⟨cs, F, a, b, H⟩ := Hole.get (dep t) (Nat.le_refl _) hp
  exact ⟨cs, F, a, b, H, H.fits o.fits⟩
theorem Fo.fnd (o : Fo r f par t) {p : Str} (hp : p ∈ pre t) : (f p).Nodup := by
  obtain ⟨cs, F, a, b, H, e, _⟩ := o.hole hp
  have := o.nd
  rw [H.pre, List.append_assoc, List.nodup_append] at this
  rw [e]
  exact (List.nodup_append.mp this.2.1).1.sublist (keys_sub cs)
theorem Fo.sub (o : Fo r f par t) {x : Str} (hx : x ∈ pre t) : ∃ s, Sub s t ∧ s.key = x := by
  have : ∀ (n : Nat) (t : T), dep t ≤ n → x ∈ pre t → ∃ s, Sub s t ∧ s.key = x := by
    intro n
    induction n with
    | zero => intro t h; cases t; rw [dep] at h; omega
    | succ n ih =>
      intro t h hx
      obtain ⟨k, cs⟩ := t
      rw [dep] at h
      rw [pre] at hx
      rcases List.mem_cons.mp hx with rfl | hx
      · exact ⟨_, .refl _, rfl⟩
      · obtain ⟨c, hc, hx⟩ := preL_mem.mp hx
        have := depL_mem hc
        obtain ⟨s, h1, h2⟩ := ih c (by omega) hx
        exact ⟨s, .kid hc h1, h2⟩
  exact this (dep t) t (Nat.le_refl _) hx
theorem Fo.sub1 (o : Fo r f par t) {s s' : T} (h : Sub s t) (h' : Sub s' t) (e : s.key = s'.key) : s = s' := Fits.uniq (h.fits o.fits) (h'.fits o.fits) e
/-- below the root of s there is no root of s -/
theorem kid_below {f : Str → List Str} {s : T} (fit : Fits f s) {k c : Str} (hk : k ∈ pre s) (hc : c ∈ f k) : c ∈ preL s.kids := by
  obtain ⟨q, cs⟩ := s
  rw [Fits] at fit
  rw [pre] at hk
  rcases List.mem_cons.mp hk with rfl | hk
  · rw [fit.1] at hc; exact (keys_sub cs).subset hc
  · obtain ⟨d, hd, hx⟩ := preL_mem.mp hk
    exact preL_sub hd c (kids_in (FitsL_mem.mp fit.2 d hd) hx hc)
theorem key_not_below {s : T} (nd : (pre s).Nodup) : s.key ∉ preL s.kids := by
  obtain ⟨q, cs⟩ := s
  rw [pre] at nd
  exact (List.nodup_cons.mp nd).1
/-- x is taken away from its parent p -/
def cutF (f : Str → List Str) (p x : Str) : Str → List Str := fun k => if k = p then (f p).erase x else f k
theorem Fo.cut (o : Fo r f par t) {x : Str} (hx : x ∈ pre t) (hr : x ≠ r) : ∃ p s t', par x = some p ∧ p ∈ pre t' ∧ x ∈ f p ∧ s.key = x ∧ Sub s t ∧ Fo r (cutF f p x) par t' ∧ (pre t).Perm (pre s ++ pre t') ∧ Fits (cutF f p x) s := by
  obtain ⟨p, hp, e1, e2⟩ := o.up hx hr
  obtain ⟨cs, F, a, b, H, e3, fl⟩ := o.hole hp
  have e2' := e2
  rw [e3] at e2'
  obtain ⟨s, hs, rfl⟩ := List.mem_map.mp e2'
  have hsub := H.sub hs
  obtain ⟨c1, c2, rfl⟩ := List.append_of_mem hs
  have ndp := H.pre
  have perm : (pre t).Perm (pre s ++ pre (F (c1 ++ c2))) := by
    rw [H.pre, H.pre', preL_append, preL_append, preL]
    have : (a ++ (preL c1 ++ (pre s ++ preL c2)) ++ b).Perm (pre s ++ (a ++ (preL c1 ++ preL c2) ++ b)) := by
      rw [← List.append_assoc (bs := a ++ (preL c1 ++ preL c2))]
      refine List.Perm.append_right b ?_
      have q : a ++ (preL c1 ++ (pre s ++ preL c2)) = (a ++ preL c1) ++ (pre s ++ preL c2) := by simp
      have q2 : pre s ++ (a ++ (preL c1 ++ preL c2)) = (pre s ++ (a ++ preL c1)) ++ preL c2 := by simp
      rw [q, q2, ← List.append_assoc]
      exact List.Perm.append_right _ List.perm_append_comm
    exact this
  have ndA := perm.nodup_iff.mp o.nd
  have nd' := (List.nodup_append.mp ndA).2.1
  have dis := (List.nodup_append.mp ndA).2.2
  have hp' : p ∈ pre (F (c1 ++ c2)) := by rw [H.pre']; simp [H.mem]
  have hps : p ∉ pre s := fun z => dis p z p hp' rfl
  have er : (f p).erase s.key = (c1 ++ c2).map T.key := by
    have ndf := o.fnd hp
    rw [e3, List.map_append, List.map_cons] at ndf ⊢
    rw [List.erase_append_right _ (fun z => (List.nodup_append.mp ndf).2.2 _ z _ (List.mem_cons_self ..) rfl), List.erase_cons_head, List.map_append]
  have hpp : p ∉ preL (c1 ++ c2) := fun z => by
    rw [H.pre', List.append_assoc, List.nodup_append] at nd'
    exact nd'.2.2 p H.mem p (by simp [z]) rfl
  have same : ∀ {u : T}, p ∉ pre u → Fits f u → Fits (cutF f p s.key) u := fun hu hf => Fits.same (fun k hk => by
    exact if_neg (fun z : k = p => hu (z ▸ hk))) hf
  have fl2 := FitsL_mem.mp fl
  refine ⟨p, s, F (c1 ++ c2), e1, hp', e2, rfl, hsub, ⟨?_, ?_, nd', ?_, o.root⟩, perm, same hps (fl2 s hs)⟩
  · rw [H.key]; exact o.key
  · refine H.fits' (f := f) ?_ ?_ o.fits ?_ ?_
    · unfold cutF; rw [if_pos rfl]; exact er
    · refine FitsL_mem.mpr fun u hu => ?_
      exact same (fun z => hpp (preL_sub hu p z)) (fl2 u (by rcases List.mem_append.mp hu with hu | hu <;> simp [hu]))
    · intro k hk hn; unfold cutF; rw [if_neg hn]
    · rw [H.pre'] at nd'
      refine nd'.sublist ?_
      rw [List.append_assoc]
      exact List.Sublist.append (List.Sublist.refl _) (List.sublist_append_right _ _)
  · intro k hk c hc
    have hk' : k ∈ pre t := perm.mem_iff.mpr (List.mem_append_right _ hk)
    refine o.kid k hk' c ?_
    unfold cutF at hc
    split at hc
    · rename_i e; subst e; exact List.mem_of_mem_erase hc
    · exact hc
/-- s gets a place among the children of home -/
theorem Fo.put (o : Fo r f par t) {s : T} {home : Str} {l1 l2 : List Str} (hs : Fits f s) (nd : (pre s ++ pre t).Nodup) (ks : ∀ k ∈ pre s, ∀ c ∈ f k, par c = some k) (hh : home ∈ pre t) (e : f home = l1 ++ l2) :
    ∃ t', Fo r (fun k => if k = home then l1 ++ s.key :: l2 else f k) (fun k => if k = s.key then some home else par k) t' ∧ (pre t').Perm (pre s ++ pre t) := by
  obtain ⟨cs, F, a, b, H, e3, fl⟩ := o.hole hh
  rw [e3] at e
  obtain ⟨c1, c2, rfl, rfl, rfl⟩ := List.map_eq_append_iff.mp e
  have perm : (pre (F (c1 ++ s :: c2))).Perm (pre s ++ pre t) := by
    rw [H.pre, H.pre', preL_append, preL_append, preL]
    rw [← List.append_assoc (bs := a ++ (preL c1 ++ preL c2))]
    refine List.Perm.append_right b ?_
    have q : a ++ (preL c1 ++ (pre s ++ preL c2)) = (a ++ preL c1) ++ (pre s ++ preL c2) := by simp
    have q2 : pre s ++ (a ++ (preL c1 ++ preL c2)) = (pre s ++ (a ++ preL c1)) ++ preL c2 := by simp
    rw [q, q2, ← List.append_assoc]
    exact List.Perm.append_right _ List.perm_append_comm
  have nd' := perm.nodup_iff.mpr nd
  have dis := (List.nodup_append.mp nd).2.2
  have hhs : home ∉ pre s := fun z => dis home z home hh rfl
  have hsk : s.key ∉ pre t := fun z => dis s.key (key_mem s) s.key z rfl
  have hpp : home ∉ preL (c1 ++ c2) := fun z => by
    have := o.nd
    rw [H.pre, List.append_assoc, List.nodup_append] at this
    exact this.2.2 home H.mem home (by simp [z]) rfl
  have same : ∀ {u : T}, home ∉ pre u → Fits f u → Fits (fun k => if k = home then c1.map T.key ++ s.key :: c2.map T.key else f k) u := fun hu hf => Fits.same (fun k hk => by
    exact if_neg (fun z : k = home => hu (z ▸ hk))) hf
  have fl2 := FitsL_mem.mp fl
  refine ⟨F (c1 ++ s :: c2), ⟨?_, ?_, nd', ?_, ?_⟩, perm⟩
  · rw [H.key]; exact o.key
  · refine H.fits' (f := f) ?_ ?_ o.fits ?_ ?_
    · show (if home = home then _ else _) = _
      rw [if_pos rfl]; simp
    · refine FitsL_mem.mpr fun u hu => ?_
      rcases List.mem_append.mp hu with hu | hu
      · exact same (fun z => hpp (preL_sub (by simp [hu]) home z)) (fl2 u (by simp [hu]))
      · rcases List.mem_cons.mp hu with rfl | hu
        · exact same hhs hs
        · exact same (fun z => hpp (preL_sub (by simp [hu]) home z)) (fl2 u (by simp [hu]))
    · intro k hk hn
      show (if k = home then _ else _) = _
      rw [if_neg hn]
    · have := o.nd
      rw [H.pre] at this
      refine this.sublist ?_
      rw [List.append_assoc]
      exact List.Sublist.append (List.Sublist.refl _) (List.sublist_append_right _ _)
  · intro k hk c hc
    show (if c = s.key then some home else par c) = some k
    have hc : c ∈ (if k = home then c1.map T.key ++ s.key :: c2.map T.key else f k) := hc
    by_cases e1 : k = home
    · rw [if_pos e1] at hc
      by_cases e2 : c = s.key
      · rw [if_pos e2, e1]
      · rw [if_neg e2, e1]
        refine o.kid home hh c ?_
        rw [e3, List.map_append]
        rcases List.mem_append.mp hc with hc | hc
        · exact List.mem_append_left _ hc
        · rcases List.mem_cons.mp hc with hc | hc
          · exact (e2 hc).elim
          · exact List.mem_append_right _ hc
    · rw [if_neg e1] at hc
      rcases List.mem_append.mp (perm.mem_iff.mp hk) with hk | hk
      · have : c ≠ s.key := fun z => key_not_below (List.nodup_append.mp nd).1 (by rw [← z]; exact kid_below hs hk hc)
        rw [if_neg this]
        exact ks k hk c hc
      · have : c ≠ s.key := fun z => hsk (by rw [← z]; exact (o.kid_mem hk hc).1)
        rw [if_neg this]
        exact o.kid k hk c hc
  · show (if r = s.key then some home else par r) = none
    rw [if_neg (fun z => hsk (by rw [← z]; exact o.rmem))]
    exact o.root
end
end LK
namespace LK
open PySem PySem.Spec PyProof.Rows L2 DS MA
inductive Op where
  | create (x h : Str) (b : Option Str)
  | move (x h : Str) (b : Option Str)
  | remove (x : Str)
def encO : Op → SD
  | .create x h b => .tup [.str "create", .str x, .str h, optS b]
  | .move x h b => .tup [.str "move", .str x, .str h, optS b]
  | .remove x => .tup [.str "remove", .str x]
def Op.key : Op → Str
  | .create x _ _ => x
  | .move x _ _ => x
  | .remove x => x
def OpAll (P : Str → Prop) : Op → Prop
  | .create x h b => P x ∧ P h ∧ ∀ y, b = some y → P y
  | .move x h b => P x ∧ P h ∧ ∀ y, b = some y → P y
  | .remove x => P x
/-- where a new child goes -/
def insI (l : List Str) : Option Str → Nat
  | none => l.length
  | some y => l.idxOf y
def insAt (l : List Str) (b : Option Str) (x : Str) : List Str := l.take (insI l b) ++ x :: l.drop (insI l b)
def putF (f : Str → List Str) (h : Str) (b : Option Str) (x : Str) : Str → List Str := fun k => if k = h then insAt (f h) b x else f k
def putP (par : Str → Option Str) (x h : Str) : Str → Option Str := fun k => if k = x then some h else par k
def newF (f : Str → List Str) (x : Str) : Str → List Str := fun k => if k = x then [] else f k
def stepF (par : Str → Option Str) (f : Str → List Str) : Op → Str → List Str
  | .create x h b => putF (newF f x) h b x
  | .move x h b => putF (cutF f ((par x).getD x) x) h b x
  | .remove x => cutF f ((par x).getD x) x
def stepP (par : Str → Option Str) : Op → Str → Option Str
  | .create x h _ => putP par x h
  | .move x h _ => putP par x h
  | .remove _ => par
def Poss (r : Str) (f : Str → List Str) (t : T) : Op → Prop
  | .create x h b => x ∉ pre t ∧ h ∈ pre t ∧ ∀ y, b = some y → y ∈ f h
  | .move x h b => x ∈ pre t ∧ x ≠ r ∧ h ∈ pre t ∧ (∀ s, Sub s t → s.key = x → h ∉ pre s) ∧ ∀ y, b = some y → y ∈ f h ∧ y ≠ x
  | .remove x => x ∈ pre t ∧ x ≠ r
section
variable {r : Str} {f : Str → List Str} {par : Str → Option Str} {t : T}
theorem Fo.new (o : Fo r f par t) {x : Str} (hx : x ∉ pre t) : Fo r (newF f x) par t := by
  have e : ∀ k ∈ pre t, newF f x k = f k := fun k hk => if_neg (fun z : k = x => hx (z ▸ hk))
  exact ⟨o.key, Fits.same e o.fits, o.nd, fun k hk c hc => o.kid k hk c (by rw [← e k hk]; exact hc), o.root⟩
theorem Fo.create (o : Fo r f par t) {x h : Str} {b : Option Str} (hx : x ∉ pre t) (hh : h ∈ pre t) : ∃ t', Fo r (putF (newF f x) h b x) (putP par x h) t' ∧ (pre t').Perm (x :: pre t) := by
  have o2 := o.new hx
  have pn : pre (T.node x []) = [x] := by simp [pre, preL]
  obtain ⟨t', q, p⟩ := o2.put (s := .node x []) (home := h) (l1 := (newF f x h).take (insI (newF f x h) b)) (l2 := (newF f x h).drop (insI (newF f x h) b)) (by rw [Fits]; exact ⟨by unfold newF; rw [if_pos rfl]; rfl, trivial⟩) (by rw [pn]; exact List.nodup_cons.mpr ⟨hx, o.nd⟩) (by
    intro k hk c hc
    rw [pn] at hk
    have := List.mem_singleton.mp hk; subst this
    unfold newF at hc; rw [if_pos rfl] at hc; cases hc) hh (List.take_append_drop _ _).symm
  refine ⟨t', q, ?_⟩
  rw [pn] at p; exact p
theorem Fo.move (o : Fo r f par t) {x h : Str} {b : Option Str} (hx : x ∈ pre t) (hr : x ≠ r) (hh : h ∈ pre t) (hn : ∀ s, Sub s t → s.key = x → h ∉ pre s) :
    ∃ p s t1 t', par x = some p ∧ p ∈ pre t ∧ x ∈ f p ∧ s.key = x ∧ Sub s t ∧ Fo r (cutF f p x) par t1 ∧ (pre t).Perm (pre s ++ pre t1) ∧ h ∈ pre t1 ∧ Fo r (putF (cutF f p x) h b x) (putP par x h) t' ∧ (pre t').Perm (pre t) := by
  obtain ⟨p, s, t1, e1, hp, e2, rfl, hs, o1, pm, fs⟩ := o.cut hx hr
  have hh1 : h ∈ pre t1 := by
    rcases List.mem_append.mp (pm.mem_iff.mp hh) with z | z
    · exact (hn s hs rfl z).elim
    · exact z
  have hps : p ∉ pre s := fun z => (List.nodup_append.mp (pm.nodup_iff.mp o.nd)).2.2 p z p hp rfl
  obtain ⟨t', q, pm2⟩ := o1.put (s := s) (home := h) (l1 := (cutF f p s.key h).take (insI (cutF f p s.key h) b)) (l2 := (cutF f p s.key h).drop (insI (cutF f p s.key h) b)) fs (pm.nodup_iff.mp o.nd) (by
    intro k hk c hc
    have : k ≠ p := fun z => hps (z ▸ hk)
    unfold cutF at hc; rw [if_neg this] at hc
    exact o.kid k (hs.pre k hk) c hc) hh1 (List.take_append_drop _ _).symm
  exact ⟨p, s, t1, t', e1, pm.mem_iff.mpr (List.mem_append_right _ hp), e2, rfl, hs, o1, pm, hh1, q, pm2.trans pm.symm⟩
theorem Fo.step (o : Fo r f par t) {op : Op} (h : Poss r f t op) : ∃ t', Fo r (stepF par f op) (stepP par op) t' ∧ (∀ k ∈ pre t', k = op.key ∨ k ∈ pre t) ∧ (pre t').length ≤ (pre t).length + 1 := by
  cases op with
  | create x h2 b =>
    obtain ⟨t', q, p⟩ := o.create (b := b) h.1 h.2.1
    refine ⟨t', q, fun k hk => ?_, by rw [p.length_eq]; simp⟩
    rcases List.mem_cons.mp (p.mem_iff.mp hk) with z | z
    · exact .inl z
    · exact .inr z
  | move x h2 b =>
    obtain ⟨p, s, t1, t', e1, _, _, _, _, _, _, _, q, pm⟩ := o.move (b := b) h.1 h.2.1 h.2.2.1 h.2.2.2.1
    refine ⟨t', ?_, fun k hk => .inr (pm.mem_iff.mp hk), by rw [pm.length_eq]; omega⟩
    show Fo r (putF (cutF f ((par x).getD x) x) h2 b x) (putP par x h2) t'
    rw [e1]; exact q
  | remove x =>
    obtain ⟨p, s, t', e1, _, _, _, _, q, pm, _⟩ := o.cut h.1 h.2
    refine ⟨t', ?_, fun k hk => .inr (pm.mem_iff.mpr (List.mem_append_right _ hk)), by have := pm.length_eq; rw [List.length_append] at this; omega⟩
    show Fo r (cutF f ((par x).getD x) x) par t'
    rw [e1]; exact q
/-- the same forest told by another f: just one tree -/
theorem Fo.one {t' : T} (o : Fo r f par t) (o' : Fo r f par t') : t = t' := Fits.uniq o.fits o'.fits (o.key.trans o'.key.symm)
end
/-- a moment -/
structure Mo where
  f : Str → List Str
  par : Str → Option Str
  t : T
/-- the moments from m on: operations, trees behind each, the last moment -/
def Chain (r : Str) : Mo → List Op → List T → Mo → Prop
  | m, [], [], e => m = e
  | m, o :: os, t :: ts, e => Poss r m.f m.t o ∧ Fo r (stepF m.par m.f o) (stepP m.par o) t ∧ Chain r ⟨stepF m.par m.f o, stepP m.par o, t⟩ os ts e
  | _, _, _, _ => False
theorem Chain.len {r : Str} : ∀ {os : List Op} {ts : List T} {m e : Mo}, Chain r m os ts e → os.length = ts.length
  | [], [], _, _, _ => rfl
  | [], _ :: _, _, _, h => h.elim
  | _ :: _, [], _, _, h => h.elim
  | _ :: os, _ :: ts, _, _, h => by rw [List.length_cons, List.length_cons, Chain.len h.2.2]
theorem Chain.last {r : Str} : ∀ {os : List Op} {ts : List T} {m e : Mo}, Chain r m os ts e → (m.t :: ts).getLast? = some e.t
  | [], [], _, _, h => by
    have h := show _ = _ from h
    subst h; rfl
  | [], _ :: _, _, _, h => h.elim
  | _ :: _, [], _, _, h => h.elim
  | _ :: os, t :: ts, _, _, h => by
    have := Chain.last h.2.2
    rw [List.getLast?_cons_cons]; exact this
/-- operations as values -/
theorem opt_val {b : Option Str} (h : ∀ y, b = some y → KeyOk y) : Val 0 0 61 (optS b) := by
  cases b with
  | none => exact Val.non.mono (Nat.le_refl _) (Nat.le_refl _) (Nat.zero_le _)
  | some y => exact key_val (h y rfl)
theorem op_val {o : Op} (h : OpAll KeyOk o) : Val 0 1 260 (encO o) := by
  cases o with
  | create x k b =>
    have v : Val 0 0 6 (.str "create") := (Val.str (by decide +kernel)).mono (Nat.le_refl _) (Nat.le_refl _) (by decide)
    exact (Val.tup (ValL.cons v (ValL.cons (key_val h.1) (ValL.cons (key_val h.2.1) (ValL.one (opt_val h.2.2)))))).mono (Nat.le_refl _) (Nat.le_refl _) (by omega)
  | move x k b =>
    have v : Val 0 0 6 (.str "move") := (Val.str (by decide +kernel)).mono (Nat.le_refl _) (Nat.le_refl _) (by decide)
    exact (Val.tup (ValL.cons v (ValL.cons (key_val h.1) (ValL.cons (key_val h.2.1) (ValL.one (opt_val h.2.2)))))).mono (Nat.le_refl _) (Nat.le_refl _) (by omega)
  | remove x =>
    have v : Val 0 0 6 (.str "remove") := (Val.str (by decide +kernel)).mono (Nat.le_refl _) (Nat.le_refl _) (by decide)
    exact (Val.tup (ValL.cons v (ValL.one (key_val h)))).mono (Nat.le_refl _) (Nat.le_refl _) (by omega)
end LK
namespace LK
open PySem PySem.Spec PyProof.Rows L2 DS MA
theorem ifc2 {α : Type} {p q : Prop} [Decidable p] [Decidable q] {x y : α} (h : p ↔ q) : (if p then x else y) = if q then x else y := by
  by_cases hp : p
  · rw [if_pos hp, if_pos (h.mp hp)]
  · rw [if_neg hp, if_neg fun z => hp (h.mpr z)]
section
variable {ρ : Rho} {μ : Mu} {i : Nat} {a : Addr} {x f m : Str} {fs : List (Str × SD)} {d v y : SD} {Q : SD → Mu → Prop} {R : Mu → Prop}
theorem putA_ok (h : μ a = some (.obj x fs)) (l : fs.length < 900) (q : R (up μ a (.obj x (putS f y fs)))) : sQ x f y R (.ref a) μ := by
  unfold sQ; simp only [h]; exact ⟨trivial, l, q⟩
theorem attr_ok (h : μ a = some (.obj x fs)) (e : fs.lookup f = some v) (q : Q v μ) : aQ x f Q (.ref a) μ := by
  unfold aQ; simp only [h, e]; exact ⟨trivial, q⟩
theorem meth_ok (h : μ a = some (.obj x fs)) (e : fs.lookup m = none) (q : Q (.ref a) μ) : mQ x m Q (.ref a) μ := by
  unfold mQ; simp only [h, e]; exact ⟨trivial, trivial, q⟩
theorem txtsD_sts (l : List Str) : txtsD (sts l) = some l := txtsD_map l
theorem dm_remove {l : List Str} {z : Str} (h : μ a = some (.lst (sts l))) (hz : z ∈ l) (q : Q .non (up μ a (.lst (sts (l.erase z))))) : dmRemove (.ref a) [.str z] μ Q := by
  unfold dmRemove
  have e : mlst μ (.ref a) = some (a, sts l) := by simp [mlst, h]
  simp only [e, txtsD_sts]
  exact ⟨hz, q⟩
theorem dm_index {l : List Str} {z : Str} (h : lstD μ d = some (sts l)) (hz : z ∈ l) (q : Q (.int (l.idxOf z : Nat)) μ) : dmIndex d [.str z] μ Q := by
  unfold dmIndex
  simp only [h, txtsD_sts]
  exact ⟨hz, q⟩
theorem pop1_ok {kvs : List (Key × SD)} {k : Key} (h : μ a = some (.dic kvs)) (hk : keyD y = some k) (hv : valD kvs k = some v) (q : Q v (up μ a (.dic (dropD kvs k)))) : drPop1 (.ref a) y μ Q := by
  unfold drPop1
  have e : mdic μ (.ref a) = some (a, kvs) := by simp [mdic, h]
  simp only [e, hk, hv]
  exact q
theorem valD_drop {α : Type} {kvs : List (Key × α)} {k k' : Key} : valD (kvs.filter fun kv => decide (kv.1 ≠ k)) k' = if k = k' then none else valD kvs k' := by
  induction kvs with
  | nil => simp [valD_nil]
  | cons z r ih =>
    by_cases e : z.1 = k
    · rw [List.filter_cons_of_neg (by simpa using e), ih, valD_cons]
      by_cases e2 : k = k'
      · rw [if_pos e2, if_pos e2]
      · rw [if_neg e2, if_neg e2, if_neg (fun q => e2 (e.symm.trans q))]
    · rw [List.filter_cons_of_pos (by simpa using e), valD_cons, valD_cons, ih]
      by_cases e2 : k = k'
      · subst e2; rw [if_neg e, if_pos rfl, if_pos rfl]
      · rw [if_neg e2, if_neg e2]
theorem valD_dropD {kvs : List (Key × SD)} {k k' : Key} : valD (dropD kvs k) k' = if k = k' then none else valD kvs k' := valD_drop
theorem dropD_len {kvs : List (Key × SD)} {k : Key} : (dropD kvs k).length ≤ kvs.length := List.length_filter_le ..
theorem augI_ok {g : Int → Int → Int} {D : DEnds} {b c : Int} (h : ρ[i]? = some (some (.int b))) (q : D.nx (ρ.set i (some (.int (g b c)))) μ) : dAugI g i (dC (.int c)) D ρ μ := ⟨b, h, q⟩
theorem eq_ss {u w : Str} {neg : Bool} (q : Q (.bl (neg != decide (u = w))) μ) : dEq neg (.str u) (.str w) μ Q := by
  have : eqD μ (.str u) (.str w) = some (decide (u = w)) := by simp [eqD]
  unfold dEq; rw [this]; exact q
theorem eq_optS {u w : Option Str} {neg : Bool} (q : Q (.bl (neg != decide (u = w))) μ) : dEq neg (optS u) (optS w) μ Q := by
  cases u <;> cases w
  · have : eqD μ .non .non = some true := by simp [eqD]
    unfold dEq; simp only [optS, this]; simpa using q
  · rename_i w
    have : eqD μ .non (.str w) = some false := by simp [eqD]
    unfold dEq; simp only [optS, this]; simpa using q
  · rename_i u
    have : eqD μ (.str u) .non = some false := by simp [eqD]
    unfold dEq; simp only [optS, this]; simpa using q
  · rename_i u w
    refine eq_ss ?_
    simpa using q
theorem ne_t0 {xs : List SD} {neg : Bool} (q : Q (.bl (neg != xs.isEmpty)) μ) : dT0 neg (.tup xs) (.tup []) μ Q := q
theorem isNon_optS {u : Option Str} : isNon (optS u) = u.isNone := by cases u <;> rfl
theorem up_up {m m' : MO} : up (up μ a m) a m' = up μ a m' := by funext b; unfold up; split <;> rfl
end
end LK
namespace LK
open PySem PySem.Spec PyProof.Rows L2 DS MA
theorem enc_key (t : T) : enc t = .tup [.str t.key, .tup (encL t.kids)] := by cases t; rw [enc]; rfl
def sp_children_by_key : DSp := fun ds μ Q _ => ∃ t f, ds = [enc t] ∧ TOk t ∧ Fits f t ∧ (pre t).Nodup ∧ ∀ μ' (ks : List Str), Le μ μ' → ks.Perm (pre t) → Q (.dic (ks.map fun k => (.inr k, .tup (sts (f k))))) μ'
theorem len_children_by_key : ∀ ds μ Q E, sp_children_by_key ds μ Q E → ds.length = 1 := by rintro ds μ Q E ⟨t, f, rfl, _⟩; rfl
def t_children_by_key : DTS := (dSeq (dPar 1 2 (dCons dDict0M (dCons (dLstM (dCons (dVar 0) dNil)) dNil)))
    (dSeq (dWhile (dTest (dOp (dEq true) (dVar 2) (dLst dNil))) (dSeq (dAsg (dLM0 dmPop (dVar 2)) (hTup 2 (hCons (hName 3) (hCons (hName 4) hNil))))
    (dSeq (dDPut (dVar 1) (dVar 3) (dCB drTuple (dCons (dLcS (jSeq (dVar 4)) (hName 5) dYes (dOp dIx (dVar 5) (dC (.int 0))) [5]) dNil)))
    (dDrop (dLM dmExtend (dVar 2) (dCons (dVar 4) dNil))))))
    (dRetF (dVar 1))))
theorem lc_keys {ρ : Rho} {μ : Mu} {cs : List T} {i j : Nat} {Q : SD → Mu → Prop} (h : ρ[i]? = some (some (.tup (encL cs)))) (hj : j < ρ.length) (hl : cs.length ≤ 1000) (q : Q (.lst (sts (cs.map T.key))) μ) :
    dLcS (jSeq (dVar i)) (hName j) dYes (dOp dIx (dVar j) (dC (.int 0))) [j] ρ μ Q := by
  unfold dLcS dLc
  refine r_var h ?_
  show (encL cs).length ≤ sizeLine ∧ _
  refine ⟨le_line (m := 1000) (by rw [encL_length]; exact hl) (by omega), fun i acc μ' => acc = sts ((cs.take i).map T.key) ∧ μ' = μ, ⟨rfl, rfl⟩, fun _ _ _ _ _ => rfl, ?_, ?_⟩
  · rintro i d acc μ' hd ⟨rfl, rfl⟩
    rw [encL_map, List.getElem?_map] at hd
    cases e : cs[i]? with
    | none => rw [e] at hd; cases hd
    | some c =>
      rw [e] at hd; cases hd
      refine ifT rfl ?_
      refine r_var (d := enc c) (by rw [List.getElem?_set_self (by simpa [wipeR] using hj)]) ?_
      obtain ⟨k, ds⟩ := c
      rw [enc]
      refine ix_tup (d := .str k) rfl ⟨?_, rfl⟩
      rw [List.take_succ, e]; simp [sts, T.key]
  · rintro acc μ' ⟨rfl, rfl⟩
    rw [List.take_of_length_le (by rw [encL_length]; exact Nat.le_refl _)]; exact q
theorem read_children_by_key : ∀ ds μ Q E, sp_children_by_key ds μ Q E → t_children_by_key { nx := fun _ μ' => Q .non μ', rt := Q } (begin_ ["tree", "found", "waiting", "key", "children", "child"] ds) μ := by
  rintro ds μ Q E ⟨t, f, rfl, ok, fit, nd, q⟩
  refine fun p hp => ⟨(by show 1 ≤ sizeLine; decide), fun w hw => ?_⟩
  have hpw : p ≠ w := fun e => by subst e; rw [up_same] at hw; cases hw
  rw [up_ne (Ne.symm hpw)] at hw
  refine ⟨fun m ρ μ' => ∃ (ts : List T) (done : List Str) (a b : Option SD), ρ = [some (enc t), some (.ref p), some (.ref w), a, b, none] ∧ Le μ μ' ∧ μ' p = some (.dic (done.map fun k => (.inr k, .tup (sts (f k))))) ∧ μ' w = some (.lst (encL ts)) ∧ m = (preL ts).length ∧ (done ++ preL ts).Perm (pre t) ∧ (∀ t ∈ ts, dep t ≤ 30) ∧ FitsL f ts, ?_, ?_⟩
  · refine ⟨_, [t], [], none, none, rfl, ((Le.refl μ).up hp).up hw, by rw [up_ne hpw, up_same]; rfl, by rw [up_same]; simp [encL], rfl, by simp [preL], by simpa using ok.dep, ⟨fit, trivial⟩⟩
  · rintro m ρ μ1 ⟨ts, done, a, b, rfl, le, hp1, hw1, rfl, pm, hd, hf⟩
    have el : done.length + (preL ts).length = (pre t).length := by rw [← pm.length_eq, List.length_append]
    obtain ⟨gp, g⟩ := encL_good ts (fun k hk => ok.keys k (pm.mem_iff.mp (List.mem_append_right _ hk)))
    have hd' := depL_le hd
    have len := ok.len
    refine r_var rfl ?_
    refine ⟨Nat.zero_le _, ?_⟩
    refine eq_nilR hw1 g (by omega) ?_
    rcases List.eq_nil_or_concat ts with rfl | ⟨ts', t', rfl⟩
    · refine ifF rfl ?_
      dsimp only
      refine r_var rfl ?_
      unfold frz
      simp only [hp1]
      exact q _ _ (le.rm hp) (by rw [preL, List.append_nil] at pm; exact pm)
    · obtain ⟨k, cs⟩ := t'
      rw [List.concat_eq_append] at *
      rw [encL_append] at hw1
      refine ifT (by simp [encL_append, encL]) ⟨_, fun _ _ h => h, ?_⟩
      have hf2 := FitsL_mem.mp hf
      have hfk := hf2 _ (List.mem_append_right _ (List.mem_singleton.mpr rfl))
      rw [Fits] at hfk
      have hc : cs.length + ts'.length ≤ 1000 := by
        have := len_le_preL cs; have := len_le_preL ts'
        rw [preL_append, preL, pre, preL] at el; simp at el; omega
      dsimp only
      refine r_var rfl ⟨isSome_ref hw1, ?_⟩
      refine dm_pop hw1 ?_
      refine ⟨rfl, rfl, ?_⟩
      dsimp only
      refine lc_keys rfl (by simp) (by omega) ?_
      refine dr_tupleL ?_
      refine r_var rfl ?_
      refine r_var rfl ?_
      refine put_ok (by rw [up_ne hpw]; exact hp1) rfl (lt_line (m := 1000) (by rw [List.length_map]; omega) (by omega)) ?_
      dsimp only
      refine r_var rfl ⟨isSome_ref (by rw [up_ne (Ne.symm hpw), up_same]), ?_⟩
      refine r_var rfl ?_
      refine dm_extendT (by rw [up_ne (Ne.symm hpw), up_same]) (le_line (m := 1000) (by simp [encL_length]; omega) (by omega)) ?_
      have el2 : done.length + ((preL ts').length + ((preL cs).length + 1)) = (pre t).length := by
        rw [preL_append, preL, pre, preL] at el; simpa using el
      have kd : k ∉ done := fun z => by
        have := pm.nodup_iff.mpr nd
        rw [List.nodup_append] at this
        exact this.2.2 k z k (by simp [preL_append, preL, pre]) rfl
      rw [putD_mapk (g := fun k => SD.tup (sts (f k))) kd]
      refine ⟨_, ?_, ts' ++ cs, done ++ [k], _, _, rfl, ?_, ?_, ?_, rfl, ?_, ?_, ?_⟩
      · simp [preL_append, preL, pre]
      · exact ((le.up hw).up hp).up hw
      · rw [up_ne hpw, up_same, List.map_append]; simp [hfk.1]
      · rw [up_same, encL_append]
      · refine List.Perm.trans ?_ pm
        rw [preL_append, preL_append, preL, pre, preL, List.append_nil, List.append_assoc]
        refine List.Perm.append_left _ ?_
        rw [List.singleton_append]
        exact (List.perm_middle).symm
      · intro t' h'
        rcases List.mem_append.mp h' with h' | h'
        · exact hd t' (List.mem_append_left _ h')
        · have h1 := hd _ (List.mem_append_right _ (List.mem_singleton.mpr rfl))
          have h2 := depL_mem h'
          rw [dep] at h1; omega
      · rw [FitsL_mem]
        intro t' h'
        rcases List.mem_append.mp h' with h' | h'
        · exact hf2 t' (List.mem_append_left _ h')
        · exact FitsL_mem.mp hfk.2 t' h'
def sp_parents_by_key : DSp := fun ds μ Q _ => ∃ t f par, ds = [enc t] ∧ TOk t ∧ Par f par t ∧ ∀ μ' p (kvs : List (Key × SD)), μ p = none → Le μ μ' → μ' p = some (.dic kvs) → kvs.length ≤ 1001 → (∀ k, valD kvs (.inr k) = if k ∈ pre t then some (optS (par k)) else none) → Q (.ref p) μ'
theorem len_parents_by_key : ∀ ds μ Q E, sp_parents_by_key ds μ Q E → ds.length = 1 := by rintro ds μ Q E ⟨t, f, par, rfl, _⟩; rfl
def t_parents_by_key : DTS := (dSeq (dPar 1 2 (dCons (dDispM [((dOp dIx (dVar 0) (dC (.int 0))), (dC .non))]) (dCons (dLstM (dCons (dVar 0) dNil)) dNil)))
    (dSeq (dWhile (dTest (dOp (dEq true) (dVar 2) (dLst dNil))) (dSeq (dAsg (dLM0 dmPop (dVar 2)) (hTup 2 (hCons (hName 3) (hCons (hName 4) hNil))))
    (dFor (jSeq (dVar 4)) (hName 5) (dSeq (dDPut (dVar 1) (dOp dIx (dVar 5) (dC (.int 0))) (dVar 3))
    (dDrop (dLM dmAppend (dVar 2) (dCons (dVar 5) dNil)))))))
    (dRet (dVar 1))))
theorem read_parents_by_key : ∀ ds μ Q E, sp_parents_by_key ds μ Q E → t_parents_by_key { nx := fun _ μ' => Q .non μ', rt := Q } (begin_ ["tree", "found", "waiting", "key", "children", "child"] ds) μ := by
  rintro ds μ Q E ⟨t, f, par, rfl, ok, P, q⟩
  unfold t_parents_by_key
  simp only [dDispM, dPairs]
  refine r_var rfl ?_
  rw [enc_key t]
  refine ix_tup (d := .str t.key) rfl ?_
  refine fun p hp => ?_
  refine r_var rfl ⟨(by show 1 ≤ sizeLine; decide), fun w hw => ?_⟩
  rw [← enc_key t] at *
  have hpw : p ≠ w := fun e => by subst e; rw [up_same] at hw; cases hw
  rw [up_ne (Ne.symm hpw)] at hw
  refine ⟨fun m ρ μ' => ∃ (ts : List T) (done : List Str) (kvs : List (Key × SD)) (a b c : Option SD), ρ = [some (enc t), some (.ref p), some (.ref w), a, b, c] ∧ Le μ μ' ∧ μ' p = some (.dic kvs) ∧ μ' w = some (.lst (encL ts)) ∧ m = (preL ts).length ∧ (∀ k, k ∈ pre t ↔ k ∈ done ∨ k ∈ preL ts) ∧ (∀ u ∈ ts, u.key ∈ done) ∧ done.length + (preL ts).length = (pre t).length + ts.length ∧ (preL ts).length ≤ (pre t).length ∧ kvs.length ≤ done.length ∧ (∀ k, valD kvs (.inr k) = if k ∈ done then some (optS (par k)) else none) ∧ (∀ t ∈ ts, dep t ≤ 30) ∧ FitsL f ts, ?_, ?_⟩
  · refine ⟨_, [t], [t.key], [(.inr t.key, .non)], none, none, none, ?_, ((Le.refl μ).up hp).up hw, ?_, by rw [up_same]; simp [encL], rfl, ?_, by simp, ?_, by simp [preL], by simp, ?_, by simpa using ok.dep, ⟨P.fits, trivial⟩⟩
    · rfl
    · rw [up_ne hpw, up_same]; rfl
    · intro k; simp [preL]; intro e; subst e; exact key_mem t
    · simp [preL]; omega
    · intro k
      rw [valD_cons, valD_nil]
      by_cases e : t.key = k
      · subst e; simp [P.root, optS]
      · have : ¬ ((Sum.inr t.key : Key) = Sum.inr k) := fun z => e (by cases z; rfl)
        simp [this, Ne.symm e]
  · rintro m ρ μ1 ⟨ts, done, kvs, a, b, c, rfl, le, hp1, hw1, rfl, e, er, el, em, hk, hv, hd, hf⟩
    obtain ⟨gp, g⟩ := encL_good ts (fun k hk => ok.keys k ((e k).mpr (.inr hk)))
    have hd' := depL_le hd
    have len := ok.len
    refine r_var rfl ?_
    refine ⟨Nat.zero_le _, ?_⟩
    refine eq_nilR hw1 g (by omega) ?_
    rcases List.eq_nil_or_concat ts with rfl | ⟨ts', t', rfl⟩
    · refine ifF rfl ?_
      dsimp only
      refine r_var rfl ?_
      refine q _ _ _ hp le hp1 (by simp [preL] at el; omega) fun k => ?_
      rw [hv k]
      have := e k; simp [preL] at this; simp [this]
    · obtain ⟨k, cs⟩ := t'
      rw [List.concat_eq_append] at *
      rw [encL_append] at hw1
      refine ifT (by simp [encL_append, encL]) ⟨_, fun _ _ h => h, ?_⟩
      have hf2 := FitsL_mem.mp hf
      have hfk := hf2 _ (List.mem_append_right _ (List.mem_singleton.mpr rfl))
      rw [Fits] at hfk
      have el2 : done.length + ((preL ts').length + ((preL cs).length + 1)) = (pre t).length + (ts'.length + 1) := by
        rw [preL_append, preL, pre, preL] at el; simpa using el
      have em2 : (preL ts').length + ((preL cs).length + 1) ≤ (pre t).length := by rw [preL_append, preL, pre, preL] at em; simpa using em
      have l1 := len_le_preL cs
      have l2 := len_le_preL ts'
      dsimp only
      refine r_var rfl ⟨isSome_ref hw1, ?_⟩
      refine dm_pop hw1 ?_
      refine ⟨rfl, rfl, ?_⟩
      dsimp only
      have kin : k ∈ pre t := (e k).mpr (.inr (by simp [preL_append, preL, pre]))
      refine for_T rfl ⟨fun i ρ μ' => ∃ (kvs' : List (Key × SD)) (c : Option SD), ρ = [some (enc t), some (.ref p), some (.ref w), some (.str k), some (.tup (encL cs)), c] ∧ Le μ μ' ∧ μ' p = some (.dic kvs') ∧ μ' w = some (.lst (encL (ts' ++ cs.take i))) ∧ kvs'.length ≤ done.length + i ∧ i ≤ cs.length ∧ (∀ x, valD kvs' (.inr x) = if x ∈ done ++ (cs.take i).map T.key then some (optS (par x)) else none), ?_, ?_, ?_⟩
      · refine ⟨kvs, c, rfl, le.up hw, by rw [up_ne hpw]; exact hp1, by rw [up_same]; simp, by omega, Nat.zero_le _, by simpa using hv⟩
      · rintro i d ρ μ2 hi ⟨kvs', c', rfl, le2, hp2, hw2, hk2, hi2, hv2⟩
        rw [encL_map, List.getElem?_map] at hi
        cases ei : cs[i]? with
        | none => rw [ei] at hi; cases hi
        | some u =>
          rw [ei] at hi; cases hi
          have hil : i < cs.length := (List.getElem?_eq_some_iff.mp ei).1
          have hu : u ∈ cs := List.mem_of_getElem? ei
          refine r_var rfl ?_
          refine r_var rfl ?_
          refine r_var rfl ?_
          rw [enc_key u]
          refine ix_tup (d := .str u.key) rfl ?_
          refine put_ok hp2 rfl (lt_line (m := 3000) (by omega) (by omega)) ?_
          dsimp only
          refine r_var rfl ⟨isSome_ref (by rw [up_ne (Ne.symm hpw)]; exact hw2), ?_⟩
          refine r_var rfl ?_
          refine dm_append (by rw [up_ne (Ne.symm hpw)]; exact hw2) (lt_line (m := 3000) (by simp [encL_length]; omega) (by omega)) ?_
          refine ⟨putD kvs' (.inr u.key) (.str k), _, by rw [← enc_key u]; rfl, (le2.up hp).up hw, by rw [up_ne hpw, up_same], ?_, ?_, hil, ?_⟩
          · rw [up_same, List.take_succ, ei, ← enc_key u]; simp [encL_append, encL]
          · have := putD_length (kvs := kvs') (k := Sum.inr u.key) (v := SD.str k); omega
          · intro x
            rw [valD_put, hv2 x, List.take_succ, ei]
            by_cases hx : u.key = x
            · subst hx
              have : par u.key = some k := P.kid k kin _ (by rw [hfk.1]; exact List.mem_map.mpr ⟨u, hu, rfl⟩)
              simp [this, optS]
            · have h3 : ¬ ((Sum.inr u.key : Key) = Sum.inr x) := fun z => hx (by cases z; rfl)
              rw [if_neg h3]
              simp [Ne.symm hx]
      · rintro ρ μ2 ⟨kvs', c', rfl, le2, hp2, hw2, hk2, hi2, hv2⟩
        rw [encL_length] at *
        rw [List.take_length] at *
        refine ⟨_, ?_, ts' ++ cs, done ++ cs.map T.key, kvs', _, _, _, rfl, le2, hp2, hw2, rfl, ?_, ?_, ?_, by simp [preL_append]; omega, by simpa using hk2, hv2, ?_, ?_⟩
        · simp [preL_append, preL, pre]
        · intro x; rw [e x]; simp [preL_append, preL, pre]
          have hkd : k ∈ done := er (.node k cs) (by simp)
          constructor
          · rintro (h | h | h | h)
            · simp [h]
            · simp [h]
            · subst h; simp [hkd]
            · simp [h]
          · rintro ((h | ⟨u, hu, rfl⟩) | h | h)
            · simp [h]
            · exact .inr (.inr (.inr (preL_sub hu _ (key_mem u))))
            · simp [h]
            · simp [h]
        · intro u hu
          rcases List.mem_append.mp hu with hu | hu
          · exact List.mem_append_left _ (er u (List.mem_append_left _ hu))
          · exact List.mem_append_right _ (List.mem_map.mpr ⟨u, hu, rfl⟩)
        · simp [preL_append]; omega
        · intro t' h'
          rcases List.mem_append.mp h' with h' | h'
          · exact hd t' (List.mem_append_left _ h')
          · have h1 := hd _ (List.mem_append_right _ (List.mem_singleton.mpr rfl))
            have h2 := depL_mem h'
            rw [dep] at h1; omega
        · rw [FitsL_mem]
          intro t' h'
          rcases List.mem_append.mp h' with h' | h'
          · exact hf2 t' (List.mem_append_left _ h')
          · exact FitsL_mem.mp hfk.2 t' h'
end LK
namespace LK
open PySem PySem.Spec PyProof.Rows L2 DS MA
def plF (r : Str) (p c : Addr) : List (Str × SD) := [("root_key", .str r), ("parent_keys", .ref p), ("child_keys", .ref c)]
theorem plF_r {r : Str} {p c : Addr} : (plF r p c).lookup ("root_key" : Str) = some (.str r) := rfl
theorem plF_p {r : Str} {p c : Addr} : (plF r p c).lookup ("parent_keys" : Str) = some (.ref p) := rfl
theorem plF_c {r : Str} {p c : Addr} : (plF r p c).lookup ("child_keys" : Str) = some (.ref c) := rfl
/-- Places at a, with parents of the keys Sp and children of the keys Sc; all of it is new since μ0 -/
structure Pl (μ0 μ : Mu) (a p c : Addr) (ad : Str → Addr) (kp kc : List (Key × SD)) (r : Str) (f : Str → List Str) (par : Str → Option Str) (Sp Sc : List Str) (N : Nat) : Prop where
  le : Le μ0 μ
  ho : μ a = some (.obj "Places" (plF r p c))
  hp : μ p = some (.dic kp)
  hc : μ c = some (.dic kc)
  ne : p ≠ c
  pv : ∀ k, valD kp (.inr k) = if k ∈ Sp then some (optS (par k)) else none
  cv : ∀ k, valD kc (.inr k) = if k ∈ Sc then some (.ref (ad k)) else none
  hl : ∀ k ∈ Sc, μ (ad k) = some (.lst (sts (f k)))
  inj : ∀ k ∈ Sc, ∀ k' ∈ Sc, ad k = ad k' → k = k'
  fa : μ0 a = none
  fp : μ0 p = none
  fc : μ0 c = none
  fl : ∀ k ∈ Sc, μ0 (ad k) = none
  lp : kp.length ≤ N
  lc : kc.length ≤ N
section
variable {μ0 μ : Mu} {a p c : Addr} {ad : Str → Addr} {kp kc : List (Key × SD)} {r : Str} {f : Str → List Str} {par : Str → Option Str} {Sp Sc : List Str} {N : Nat}
theorem Pl.mono {μ' : Mu} (P : Pl μ0 μ a p c ad kp kc r f par Sp Sc N) (l : Le μ μ') : Pl μ0 μ' a p c ad kp kc r f par Sp Sc N :=
  ⟨P.le.trans l, l _ _ P.ho, l _ _ P.hp, l _ _ P.hc, P.ne, P.pv, P.cv, fun k hk => l _ _ (P.hl k hk), P.inj, P.fa, P.fp, P.fc, P.fl, P.lp, P.lc⟩
theorem Pl.cap {M : Nat} (P : Pl μ0 μ a p c ad kp kc r f par Sp Sc N) (l : N ≤ M) : Pl μ0 μ a p c ad kp kc r f par Sp Sc M :=
  ⟨P.le, P.ho, P.hp, P.hc, P.ne, P.pv, P.cv, P.hl, P.inj, P.fa, P.fp, P.fc, P.fl, Nat.le_trans P.lp l, Nat.le_trans P.lc l⟩
theorem Pl.congr {Sp' Sc' : List Str} {f' : Str → List Str} {par' : Str → Option Str} (P : Pl μ0 μ a p c ad kp kc r f par Sp Sc N) (hp : ∀ k, k ∈ Sp ↔ k ∈ Sp') (hc : ∀ k, k ∈ Sc ↔ k ∈ Sc') (ef : ∀ k ∈ Sc', f' k = f k) (ep : ∀ k ∈ Sp', par' k = par k) : Pl μ0 μ a p c ad kp kc r f' par' Sp' Sc' N :=
  ⟨P.le, P.ho, P.hp, P.hc, P.ne, fun k => by
    rw [P.pv k]
    by_cases h : k ∈ Sp
    · have h2 := (hp k).mp h
      rw [if_pos h, if_pos h2, ep k h2]
    · rw [if_neg h, if_neg fun z => h ((hp k).mpr z)], fun k => by
    rw [P.cv k]
    by_cases h : k ∈ Sc
    · have h2 := (hc k).mp h
      rw [if_pos h, if_pos h2]
    · rw [if_neg h, if_neg fun z => h ((hc k).mpr z)], fun k hk => by rw [ef k hk]; exact P.hl k ((hc k).mpr hk), fun k hk k' hk' => P.inj k ((hc k).mpr hk) k' ((hc k').mpr hk'), P.fa, P.fp, P.fc, fun k hk => P.fl k ((hc k).mpr hk), P.lp, P.lc⟩
/-- what else is in memory may change -/
theorem Pl.upq {q : Addr} {m m' : MO} (P : Pl (up μ0 q m) μ a p c ad kp kc r f par Sp Sc N) : Pl (up μ0 q m') (up μ q m') a p c ad kp kc r f par Sp Sc N := by
  have n : ∀ {b : Addr}, up μ0 q m b = none → b ≠ q ∧ up μ0 q m' b = none := fun {b} h => by
    have := up_none h
    exact ⟨this.1, by rw [up_ne this.1]; exact this.2⟩
  obtain ⟨a1, a2⟩ := n P.fa
  obtain ⟨p1, p2⟩ := n P.fp
  obtain ⟨c1, c2⟩ := n P.fc
  refine ⟨fun b o h => ?_, by rw [up_ne a1]; exact P.ho, by rw [up_ne p1]; exact P.hp, by rw [up_ne c1]; exact P.hc, P.ne, P.pv, P.cv, fun k hk => by rw [up_ne (n (P.fl k hk)).1]; exact P.hl k hk, P.inj, a2, p2, c2, fun k hk => (n (P.fl k hk)).2, P.lp, P.lc⟩
  by_cases e : b = q
  · subst e; rw [up_same] at h ⊢; exact h
  · rw [up_ne e] at h ⊢; exact P.le b o (by rw [up_ne e]; exact h)
/-- something new is put beside -/
theorem Pl.newq {q : Addr} {m : MO} (P : Pl μ0 μ a p c ad kp kc r f par Sp Sc N) (h : μ q = none) : Pl (up μ0 q m) (up μ q m) a p c ad kp kc r f par Sp Sc N := by
  have n : ∀ {b : Addr} {o : MO}, μ b = some o → b ≠ q := fun {b o} e z => by subst z; rw [h] at e; cases e
  refine ⟨fun b o e => ?_, by rw [up_ne (n P.ho)]; exact P.ho, by rw [up_ne (n P.hp)]; exact P.hp, by rw [up_ne (n P.hc)]; exact P.hc, P.ne, P.pv, P.cv, fun k hk => by rw [up_ne (n (P.hl k hk))]; exact P.hl k hk, P.inj, by rw [up_ne (n P.ho)]; exact P.fa, by rw [up_ne (n P.hp)]; exact P.fp, by rw [up_ne (n P.hc)]; exact P.fc, fun k hk => by rw [up_ne (n (P.hl k hk))]; exact P.fl k hk, P.lp, P.lc⟩
  by_cases e2 : b = q
  · subst e2; rw [up_same] at e ⊢; exact e
  · rw [up_ne e2] at e ⊢; exact P.le b o e
theorem Pl.ada (P : Pl μ0 μ a p c ad kp kc r f par Sp Sc N) {k : Str} (hk : k ∈ Sc) : ad k ≠ a ∧ ad k ≠ p ∧ ad k ≠ c := by
  have h := P.hl k hk
  refine ⟨fun e => ?_, fun e => ?_, fun e => ?_⟩
  · rw [e, P.ho] at h; cases h
  · rw [e, P.hp] at h; cases h
  · rw [e, P.hc] at h; cases h
theorem Pl.ap (P : Pl μ0 μ a p c ad kp kc r f par Sp Sc N) : a ≠ p ∧ a ≠ c := by
  have h := P.ho
  refine ⟨fun e => ?_, fun e => ?_⟩
  · rw [e, P.hp] at h; cases h
  · rw [e, P.hc] at h; cases h
/-- a list of children changes -/
theorem Pl.list {h : Str} {l : List Str} (P : Pl μ0 μ a p c ad kp kc r f par Sp Sc N) (hh : h ∈ Sc) : Pl μ0 (up μ (ad h) (.lst (sts l))) a p c ad kp kc r (fun k => if k = h then l else f k) par Sp Sc N := by
  obtain ⟨h1, h2, h3⟩ := P.ada hh
  refine ⟨P.le.up (P.fl h hh), by rw [up_ne (Ne.symm h1)]; exact P.ho, by rw [up_ne (Ne.symm h2)]; exact P.hp, by rw [up_ne (Ne.symm h3)]; exact P.hc, P.ne, P.pv, P.cv, fun k hk => ?_, P.inj, P.fa, P.fp, P.fc, P.fl, P.lp, P.lc⟩
  by_cases e : k = h
  · subst e; rw [up_same, if_pos rfl]
  · rw [up_ne (fun z => e (P.inj k hk h hh z)), if_neg e]; exact P.hl k hk
/-- the dict of parents changes -/
theorem Pl.pars {kp' : List (Key × SD)} {par' : Str → Option Str} {Sp' : List Str} {M : Nat} (P : Pl μ0 μ a p c ad kp kc r f par Sp Sc N) (pv : ∀ k, valD kp' (.inr k) = if k ∈ Sp' then some (optS (par' k)) else none) (hN : N ≤ M) (hl : kp'.length ≤ M) : Pl μ0 (up μ p (.dic kp')) a p c ad kp' kc r f par' Sp' Sc M :=
  ⟨P.le.up P.fp, by rw [up_ne P.ap.1]; exact P.ho, up_same, by rw [up_ne (Ne.symm P.ne)]; exact P.hc, P.ne, pv, P.cv, fun k hk => by rw [up_ne (P.ada hk).2.1]; exact P.hl k hk, P.inj, P.fa, P.fp, P.fc, P.fl, hl, Nat.le_trans P.lc hN⟩
/-- the dict of children loses a row -/
theorem Pl.drop {kc' : List (Key × SD)} {Sc' : List Str} (P : Pl μ0 μ a p c ad kp kc r f par Sp Sc N) (cv : ∀ k, valD kc' (.inr k) = if k ∈ Sc' then some (.ref (ad k)) else none) (sub : ∀ k ∈ Sc', k ∈ Sc) (hl : kc'.length ≤ N) : Pl μ0 (up μ c (.dic kc')) a p c ad kp kc' r f par Sp Sc' N :=
  ⟨P.le.up P.fc, by rw [up_ne P.ap.2]; exact P.ho, by rw [up_ne P.ne]; exact P.hp, up_same, P.ne, P.pv, cv, fun k hk => by rw [up_ne (P.ada (sub k hk)).2.2]; exact P.hl k (sub k hk), fun k hk k' hk' => P.inj k (sub k hk) k' (sub k' hk'), P.fa, P.fp, P.fc, fun k hk => P.fl k (sub k hk), P.lp, hl⟩
/-- a new row of children -/
theorem Pl.row {q : Addr} {x : Str} (P : Pl μ0 μ a p c ad kp kc r f par Sp Sc N) (hq : μ q = none) (hx : x ∉ Sc) : Pl μ0 (up (up μ q (.lst [])) c (.dic (putD kc (.inr x) (.ref q)))) a p c (fun k => if k = x then q else ad k) kp (putD kc (.inr x) (.ref q)) r (newF f x) par Sp (x :: Sc) (N + 1) := by
  have n : ∀ {b : Addr} {o : MO}, μ b = some o → b ≠ q := fun {b o} e z => by subst z; rw [hq] at e; cases e
  have hx2 : ∀ k ∈ Sc, k ≠ x := fun k hk z => hx (z ▸ hk)
  have hqc : q ≠ c := Ne.symm (n P.hc)
  refine ⟨(P.le.up (P.le.none hq)).up P.fc, by rw [up_ne P.ap.2, up_ne (n P.ho)]; exact P.ho, by rw [up_ne P.ne, up_ne (n P.hp)]; exact P.hp, up_same, P.ne, P.pv, fun k => ?_, fun k hk => ?_, fun k hk k' hk' => ?_, P.fa, P.fp, P.fc, fun k hk => ?_, Nat.le_succ_of_le P.lp, ?_⟩
  · rw [valD_put, P.cv k]
    by_cases e : x = k
    · subst e; rw [if_pos rfl, if_pos (List.mem_cons_self ..), if_pos rfl]
    · rw [if_neg (fun z => e (by cases z; rfl)), if_neg (Ne.symm e)]
      exact ifc2 (by simp [Ne.symm e])
  · unfold newF
    by_cases e : k = x
    · rw [if_pos e, if_pos e, up_ne hqc, up_same]; rfl
    · rcases List.mem_cons.mp hk with z | hk
      · exact (e z).elim
      · rw [if_neg e, if_neg e, up_ne (P.ada hk).2.2, up_ne (n (P.hl k hk))]; exact P.hl k hk
  · by_cases e : k = x <;> by_cases e' : k' = x
    · intro _; rw [e, e']
    · rw [if_pos e, if_neg e']
      rcases List.mem_cons.mp hk' with z | hk'
      · exact (e' z).elim
      · intro z; exact (n (P.hl k' hk') z.symm).elim
    · rw [if_neg e, if_pos e']
      rcases List.mem_cons.mp hk with z | hk
      · exact (e z).elim
      · intro z; exact (n (P.hl k hk) z).elim
    · rw [if_neg e, if_neg e']
      rcases List.mem_cons.mp hk with z | hk
      · exact (e z).elim
      · rcases List.mem_cons.mp hk' with z | hk'
        · exact (e' z).elim
        · exact P.inj k hk k' hk'
  · by_cases e : k = x
    · rw [if_pos e]; exact P.le.none hq
    · rcases List.mem_cons.mp hk with z | hk
      · exact (e z).elim
      · rw [if_neg e]; exact P.fl k hk
  · have := putD_length (kvs := kc) (k := Sum.inr x) (v := SD.ref q); have := P.lc; omega
end
/-- Places(tree) -/
def sp_Places_init : DSp := fun ds μ Q _ => ∃ a t f par μ0, ds = [.ref a, enc t] ∧ μ = up μ0 a (.obj "Places" []) ∧ μ0 a = none ∧ TOk t ∧ Fo t.key f par t ∧
  ∀ μ' p c ad kp kc, Pl μ0 μ' a p c ad kp kc t.key f par (pre t) (pre t) 1001 → Q .non μ'
theorem len_Places_init : ∀ ds μ Q E, sp_Places_init ds μ Q E → ds.length = 2 := by rintro ds μ Q E ⟨a, t, f, par, μ0, rfl, _⟩; rfl
def t_Places_init : DTS := (dSeq (dPutA "Places" "root_key" (dVar 0) (dOp dIx (dVar 1) (dC (.int 0))))
    (dSeq (dPutA "Places" "parent_keys" (dVar 0) (dCall sp_parents_by_key [] (dCons (dVar 1) dNil)))
    (dPutA "Places" "child_keys" (dVar 0) (dDcD itemsS (dCall sp_children_by_key [] (dCons (dVar 1) dNil)) (hTup 2 (hNames [2, 3])) dYes (dVar 2) (dCB drListM (dCons (dVar 3) dNil)) [2, 3]))))
theorem read_Places_init : ∀ ds μ Q E, sp_Places_init ds μ Q E → t_Places_init { nx := fun _ μ' => Q .non μ', rt := Q } (begin_ ["self", "tree", "key", "children"] ds) μ := by
  rintro ds μ Q E ⟨a, t, f, par, μ0, rfl, rfl, ha, ok, o, q⟩
  unfold t_Places_init
  refine r_var rfl ?_
  rw [enc_key t]
  refine ix_tup (d := .str t.key) rfl ?_
  rw [← enc_key t]
  refine r_var rfl ?_
  refine putA_ok up_same (by show 0 < 900; decide) ?_
  rw [up_up]
  dsimp only
  refine r_var rfl ?_
  refine ⟨t, f, par, rfl, ok, ⟨o.fits, o.kid, o.root⟩, fun μ1 p kp hp le1 hp1 lp pv => ?_⟩
  have ha1 := le1 a _ up_same
  have hpa := up_none hp
  refine r_var rfl ?_
  refine putA_ok ha1 (by show 1 < 900; decide) ?_
  dsimp only
  unfold dDcD
  refine r_var rfl ?_
  refine ⟨t, f, rfl, ok, o.fits, o.nd, fun μ2 ks le2 pm => ?_⟩
  have ha2 := le2 a _ up_same
  have hp2 := le2 p _ (by rw [up_ne hpa.1]; exact hp1)
  have le02 : Le μ0 μ2 := (Le.up (((Le.refl μ0).up ha).trans le1) ha).trans le2
  have klen : ks.length ≤ 1000 := by rw [pm.length_eq]; exact ok.len
  have knd := pm.nodup_iff.mpr o.nd
  refine ⟨le_line (m := 1000) (by simp [itemsS]; exact klen) (by omega), fun i acc μ' => ∃ ad : Str → Addr, acc = (ks.take i).map (fun k => ((.inr k : Key), SD.ref (ad k))) ∧ Le μ2 μ' ∧ (∀ k ∈ ks.take i, μ' (ad k) = some (.lst (sts (f k))) ∧ μ2 (ad k) = none) ∧ (∀ k ∈ ks.take i, ∀ k' ∈ ks.take i, ad k = ad k' → k = k'), ⟨fun _ => a, rfl, Le.refl _, by simp, by simp⟩, fun _ _ _ _ _ => trivial, ?_, ?_⟩
  · rintro i d acc μ3 hd ⟨ad, rfl, le3, hk3, inj⟩
    rw [itemsS, List.getElem?_map, List.getElem?_map] at hd
    cases e : ks[i]? with
    | none => rw [e] at hd; cases hd
    | some k =>
      rw [e] at hd; cases hd
      have nk := not_in_take knd e
      have nk2 : ∀ x ∈ ks.take i, x ≠ k := fun x hx z => nk (z ▸ hx)
      refine ⟨rfl, rfl, ?_⟩
      refine ifT rfl ?_
      refine r_var rfl ?_
      refine r_var rfl ?_
      refine fun b hb => ?_
      refine ⟨_, rfl, fun x => if x = k then b else ad x, ?_, le3.up (le3.none hb), ?_, ?_⟩
      · have hm : (ks.take i).map (fun x => ((.inr x : Key), SD.ref (ad x))) = (ks.take i).map (fun x => ((.inr x : Key), SD.ref (if x = k then b else ad x))) := List.map_congr_left fun x hx => by rw [if_neg (nk2 x hx)]
        rw [hm, putD_mapk (g := fun x => SD.ref (if x = k then b else ad x)) nk, take_snoc e, List.map_append]
        simp
      · intro x hx
        rw [take_snoc e] at hx
        dsimp only
        by_cases ex : x = k
        · rw [if_pos ex, up_same, ex]; exact ⟨rfl, le3.none hb⟩
        · rcases List.mem_append.mp hx with hx | hx
          · obtain ⟨g1, g2⟩ := hk3 x hx
            rw [if_neg ex, up_ne (fun z => by rw [z, hb] at g1; cases g1)]
            exact ⟨g1, g2⟩
          · exact (ex (List.mem_singleton.mp hx)).elim
      · have old : ∀ x ∈ ks.take i ++ [k], x ≠ k → x ∈ ks.take i := fun x hx n => by
          rcases List.mem_append.mp hx with hx | hx
          · exact hx
          · exact (n (List.mem_singleton.mp hx)).elim
        intro x hx y hy
        rw [take_snoc e] at hx hy
        dsimp only
        by_cases ex : x = k <;> by_cases ey : y = k
        · intro _; rw [ex, ey]
        · rw [if_pos ex, if_neg ey]
          intro z
          have := (hk3 y (old y hy ey)).1
          rw [← z, hb] at this; cases this
        · rw [if_neg ex, if_pos ey]
          intro z
          have := (hk3 x (old x hx ex)).1
          rw [z, hb] at this; cases this
        · rw [if_neg ex, if_neg ey]
          exact inj x (old x hx ex) y (old y hy ey)
  · rintro acc μ3 ⟨ad, rfl, le3, hk3, inj⟩ c hc
    have el : ks.take (itemsS (ks.map fun k => ((.inr k : Key), SD.tup (sts (f k))))).length = ks := List.take_of_length_le (by simp [itemsS])
    rw [el] at hk3 inj ⊢
    have n : ∀ {b : Addr} {o : MO}, μ3 b = some o → b ≠ c := fun {b o} e z => by subst z; rw [hc] at e; cases e
    have ha3 := le3 a _ ha2
    have hp3 := le3 p _ hp2
    refine r_var rfl ?_
    refine putA_ok (by rw [up_ne (n ha3)]; exact ha3) (by show 2 < 900; decide) ?_
    refine q _ p c ad kp (ks.map fun k => ((.inr k : Key), SD.ref (ad k))) ?_
    have hpa1 : p ≠ a := hpa.1
    have hca : c ≠ a := Ne.symm (n ha3)
    have adn : ∀ k ∈ ks, ad k ≠ a ∧ ad k ≠ c := fun k hk => by
      obtain ⟨g1, g2⟩ := hk3 k hk
      exact ⟨fun z => (by rw [z, ha2] at g2; cases g2), n g1⟩
    have c0 : μ0 c = none := (le02.trans le3).none hc
    refine ⟨(((le02.trans le3).up c0).up ha), up_same, by rw [up_ne hpa1, up_ne (n hp3)]; exact hp3, by rw [up_ne hca, up_same], n hp3, pv, fun k => ?_, fun k hk => ?_, fun k hk k' hk' => inj k (pm.mem_iff.mpr hk) k' (pm.mem_iff.mpr hk'), ha, hpa.2, c0, fun k hk => ?_, lp, ?_⟩
    · rw [valD_mapk (g := fun k => SD.ref (ad k))]
      exact ifc2 pm.mem_iff
    · have hk := pm.mem_iff.mpr hk
      rw [up_ne (adn k hk).1, up_ne (adn k hk).2]; exact (hk3 k hk).1
    · have hk := pm.mem_iff.mpr hk
      exact le02.none (hk3 k hk).2
    · rw [List.length_map]; omega
def sp_tree_from (n : Nat) : DSp := fun ds μ Q _ => ∃ t f x kvs, ds = [.str t.key, x] ∧ dep t ≤ n ∧ (pre t).length ≤ 1000 ∧ Fits f t ∧ dicD μ x = some kvs ∧ (∀ k ∈ pre t, ∃ v, valD kvs (.inr k) = some v ∧ seqD μ v = some (sts (f k))) ∧ Q (enc t) μ
theorem no_tree_from {ds μ Q E} (h : sp_tree_from 0 ds μ Q E) : False := by
  obtain ⟨⟨k, cs⟩, f, x, kvs, rfl, h, _⟩ := h; rw [dep] at h; omega
theorem len_tree_from {n} : ∀ ds μ Q E, sp_tree_from n ds μ Q E → ds.length = 2 := by rintro ds μ Q E ⟨t, f, x, kvs, rfl, _⟩; rfl
def t_tree_from (n : Nat) : DTS := (dRet (dTup (dCons (dVar 0) (dCons (dCB drTuple (dCons (dLcS (jSeq (dDGet (dVar 1) (dVar 0))) (hName 2) dYes (dCall (sp_tree_from n) [] (dCons (dVar 2) (dCons (dVar 1) dNil))) [2]) dNil)) dNil))))
theorem read_tree_from (n : Nat) : ∀ ds μ Q E, sp_tree_from (n + 1) ds μ Q E → t_tree_from n { nx := fun _ μ' => Q .non μ', rt := Q } (begin_ ["key", "children", "child"] ds) μ := by
  rintro ds μ Q E ⟨⟨k, cs⟩, f, x, kvs, rfl, hd, hl, fit, hx, hv, q⟩
  unfold t_tree_from dLcS dLc
  rw [Fits] at fit
  rw [dep] at hd
  have l1 := len_le_preL cs
  have hl2 : (preL cs).length + 1 ≤ 1000 := by rw [pre] at hl; simpa using hl
  obtain ⟨v, hv1, hv2⟩ := hv k (by rw [pre]; exact List.mem_cons_self ..)
  refine r_var rfl ?_
  refine r_var rfl ?_
  refine r_var rfl ?_
  refine get_ok hx rfl hv1 ?_
  split
  · cases hv2
  rw [hv2]
  refine lc_pure (zs := encL cs) hv2 (by simp [sts, fit.1]; omega) (by simp [sts, fit.1, encL_length]) ?_ ?_
  · intro i d y hd' hy R r
    rw [encL_map, List.getElem?_map] at hy
    rw [sts, fit.1, List.getElem?_map, List.getElem?_map] at hd'
    cases e : cs[i]? with
    | none => rw [e] at hy; cases hy
    | some c =>
      rw [e] at hy hd'; cases hy; cases hd'
      have hc := List.mem_of_getElem? e
      refine r_var rfl ?_
      refine r_var rfl ?_
      refine ⟨c, f, x, kvs, rfl, ?_, ?_, FitsL_mem.mp fit.2 c hc, hx, ?_, r⟩
      · have := depL_mem hc; omega
      · have := preL_len hc; omega
      · intro y hy; exact hv y (by rw [pre]; exact List.mem_cons_of_mem _ (preL_sub hc y hy))
  · refine dr_tupleL ⟨(by show 2 ≤ sizeLine; decide), ?_⟩
    rw [enc] at q; exact q
def sp_Places_present_tree : DSp := fun ds μ Q _ => ∃ μ0 a p c ad kp kc r f par t N, ds = [.ref a] ∧ Pl μ0 μ a p c ad kp kc r f par (pre t) (pre t) N ∧ Fo r f par t ∧ dep t ≤ 70 ∧ (pre t).length ≤ 1000 ∧ Q (enc t) μ
theorem len_Places_present_tree : ∀ ds μ Q E, sp_Places_present_tree ds μ Q E → ds.length = 1 := by rintro ds μ Q E ⟨μ0, a, p, c, ad, kp, kc, r, f, par, t, N, rfl, _⟩; rfl
def t_Places_present_tree : DTS := (dRet (dCall (sp_tree_from 70) [] (dCons (dAttr "Places" "root_key" (dVar 0)) (dCons (dAttr "Places" "child_keys" (dVar 0)) dNil))))
theorem read_Places_present_tree : ∀ ds μ Q E, sp_Places_present_tree ds μ Q E → t_Places_present_tree { nx := fun _ μ' => Q .non μ', rt := Q } (begin_ ["self"] ds) μ := by
  rintro ds μ Q E ⟨μ0, a, p, c, ad, kp, kc, r, f, par, t, N, rfl, P, o, hd, hl, q⟩
  unfold t_Places_present_tree
  refine r_var rfl ?_
  refine attr_ok P.ho plF_r ?_
  refine r_var rfl ?_
  refine attr_ok P.ho plF_c ?_
  refine ⟨t, f, _, kc, ?_, hd, hl, o.fits, dicD_ref P.hc, fun k hk => ⟨.ref (ad k), ?_, ?_⟩, q⟩
  · rw [o.key]; rfl
  · rw [P.cv k, if_pos hk]
  · simp only [seqD, P.hl k hk]
end LK
namespace LK
open PySem PySem.Spec PyProof.Rows L2 DS MA
def sp_Places_keys_inside : DSp := fun ds μ Q _ => ∃ (a : Addr) (r : Str) (p c : Addr) (ad : Str → Addr) (kc : List (Key × SD)) (f : Str → List Str) (s : T), ds = [.ref a, .str s.key] ∧ μ a = some (.obj "Places" (plF r p c)) ∧ μ c = some (.dic kc) ∧
  (∀ k ∈ pre s, valD kc (.inr k) = some (.ref (ad k)) ∧ μ (ad k) = some (.lst (sts (f k)))) ∧ Fits f s ∧ (pre s).length ≤ 1000 ∧ ∀ μ' (ks : List Str), Le μ μ' → ks.Perm (pre s) → Q (.lst (sts ks)) μ'
theorem len_Places_keys_inside : ∀ ds μ Q E, sp_Places_keys_inside ds μ Q E → ds.length = 2 := by rintro ds μ Q E ⟨a, r, p, c, ad, kc, f, s, rfl, _⟩; rfl
def t_Places_keys_inside : DTS := (dSeq (dPar 2 3 (dCons (dLstM (dCons (dVar 1) dNil)) (dCons (dC (.int 0)) dNil)))
    (dSeq (dWhile (dTest (dOp dLt (dVar 3) (dCB drLen (dCons (dVar 2) dNil)))) (dSeq (dDrop (dLM dmExtend (dVar 2) (dCons (dDGet (dAttr "Places" "child_keys" (dVar 0)) (dOp dIx (dVar 2) (dVar 3))) dNil)))
    (dAugI (fun i j => i + j) 3 (dC (.int 1)))))
    (dRetF (dVar 2))))
theorem read_Places_keys_inside : ∀ ds μ Q E, sp_Places_keys_inside ds μ Q E → t_Places_keys_inside { nx := fun _ μ' => Q .non μ', rt := Q } (begin_ ["self", "key", "found", "at"] ds) μ := by
  rintro ds μ Q E ⟨a, r, p, c, ad, kc, f, s, rfl, ha, hc, hv, fit, hl, q⟩
  unfold t_Places_keys_inside
  refine r_var rfl ⟨(by show 1 ≤ sizeLine; decide), fun w hw => ?_⟩
  dsimp only
  refine ⟨fun m ρ μ' => ∃ (done : List Str) (ts : List T), ρ = [some (.ref a), some (.str s.key), some (.ref w), some (.int (done.length : Nat))] ∧ Le μ μ' ∧ μ' w = some (.lst (sts (done ++ ts.map T.key))) ∧ m = (preL ts).length ∧ (done ++ preL ts).Perm (pre s) ∧ FitsL f ts, ?_, ?_⟩
  · exact ⟨_, [], [s], rfl, (Le.refl μ).up hw, by rw [up_same]; rfl, rfl, by simp [preL], ⟨fit, trivial⟩⟩
  · rintro m ρ μ1 ⟨done, ts, rfl, le, hw1, rfl, pm, fl⟩
    have pl := pm.length_eq
    rw [List.length_append] at pl
    refine r_var rfl ?_
    refine r_var rfl ?_
    refine l_lenR hw1 ?_
    refine i_lt ?_
    cases ts with
    | nil =>
      refine ifF (by simp [sts]) ?_
      dsimp only
      refine r_var rfl ?_
      unfold frz
      simp only [hw1]
      rw [List.map_nil, List.append_nil]
      exact q _ _ (le.rm hw) (by simpa [preL] using pm)
    | cons u ts =>
      obtain ⟨k, cs⟩ := u
      rw [FitsL, Fits] at fl
      obtain ⟨⟨fk, fcs⟩, fts⟩ := fl
      rw [preL, pre] at pl pm
      have lc := len_le_preL cs
      have lt := len_le_preL ts
      simp only [List.length_append, List.length_cons] at pl
      refine ifT (by simp [sts]; omega) ⟨_, fun _ _ h => h, ?_⟩
      dsimp only
      refine r_var rfl ⟨isSome_ref hw1, ?_⟩
      have ks : k ∈ pre s := pm.mem_iff.mp (by simp)
      obtain ⟨v1, v2⟩ := hv k ks
      refine r_var rfl ?_
      refine attr_ok (le _ _ ha) plF_c ?_
      refine r_var rfl ?_
      refine r_var rfl ?_
      refine ix_ref (d := .str k) hw1 (atI_nat (by simp [sts, T.key])) ?_
      refine get_ok (dicD_ref (le _ _ hc)) rfl v1 ?_
      refine dm_extendR hw1 (le _ _ v2) (le_line (m := 3000) (by simp [sts, fk]; omega) (by omega)) ?_
      dsimp only
      refine augI_ok rfl ?_
      dsimp only
      refine ⟨(preL (ts ++ cs)).length, ?_, done ++ [k], ts ++ cs, ?_, le.up hw, ?_, rfl, ?_, ?_⟩
      · rw [preL, pre, preL_append]; simp; omega
      · simp
      · rw [up_same, fk]; simp [sts, T.key]
      · refine List.Perm.trans ?_ pm
        rw [preL_append, List.append_assoc]
        refine List.Perm.append_left _ ?_
        rw [List.singleton_append, List.cons_append]
        exact List.Perm.cons _ List.perm_append_comm
      · rw [FitsL_mem] at *
        intro x hx
        rcases List.mem_append.mp hx with hx | hx
        · exact fts x hx
        · exact fcs x hx
/-- is_target -/
def TgtP (f : Str → List Str) (t : T) (h : Str) (b tk : Option Str) : Prop := h ∈ pre t ∧ ∀ y, b = some y → y ∈ f h ∧ some y ≠ tk
def sp_Places_is_target : DSp := fun ds μ Q _ => ∃ (μ0 : Mu) (a p c : Addr) (ad : Str → Addr) (kp kc : List (Key × SD)) (r : Str) (f : Str → List Str) (par : Str → Option Str) (t : T) (N : Nat) (h : Str) (b tk : Option Str),
  ds = [.ref a, .str h, optS b, optS tk] ∧ Pl μ0 μ a p c ad kp kc r f par (pre t) (pre t) N ∧ Fo r f par t ∧ ∀ z : Bool, (z = true ↔ TgtP f t h b tk) → Q (.bl z) μ
theorem len_Places_is_target : ∀ ds μ Q E, sp_Places_is_target ds μ Q E → ds.length = 4 := by rintro ds μ Q E ⟨μ0, a, p, c, ad, kp, kc, r, f, par, t, N, h, b, tk, rfl, _⟩; rfl
def t_Places_is_target : DTS := (dSeq (dIfS (dTest (dDIn true (dVar 1) (dAttr "Places" "parent_keys" (dVar 0)))) (dRet (dC (.bl false))) dNext)
    (dRet (dOrV (dIsN (dVar 2)) (dAndV (dOp (dEq true) (dVar 2) (dVar 3)) (dOp (dEq false) (dDGet1 (dAttr "Places" "parent_keys" (dVar 0)) (dVar 2)) (dVar 1))))))
theorem read_Places_is_target : ∀ ds μ Q E, sp_Places_is_target ds μ Q E → t_Places_is_target { nx := fun _ μ' => Q .non μ', rt := Q } (begin_ ["self", "parent", "before", "taken"] ds) μ := by
  rintro ds μ Q E ⟨μ0, a, p, c, ad, kp, kc, r, f, par, t, N, h, b, tk, rfl, P, o, q⟩
  unfold t_Places_is_target
  refine r_var rfl ?_
  refine r_var rfl ?_
  refine attr_ok P.ho plF_p ?_
  refine din_ok (dicD_ref P.hp) (k := .inr h) rfl ?_
  rw [P.pv h]
  by_cases hh : h ∈ pre t
  · rw [if_pos hh]
    refine ifF rfl ?_
    simp only [dNext]
    refine r_var rfl ?_
    rw [isNon_optS]
    cases b with
    | none => exact q true (by simp [TgtP, hh])
    | some y =>
      refine r_var (d := optS (some y)) rfl ?_
      refine r_var (d := optS tk) rfl ?_
      refine eq_optS ?_
      by_cases e : some y = tk
      · rw [decide_eq_true e]
        exact q false ⟨fun z => (by cases z), fun z => ((z.2 y rfl).2 e).elim⟩
      · rw [decide_eq_false e]
        rw [show (true != false) = true from rfl]
        refine r_var rfl ?_
        refine attr_ok P.ho plF_p ?_
        refine ⟨by rw [dicD_ref P.hp]; rfl, ?_⟩
        refine r_var (d := .str y) rfl ?_
        refine get2_ok (dicD_ref P.hp) (k := .inr y) rfl ?_
        have e2 : (valD kp (.inr y)).getD .non = optS (if y ∈ pre t then par y else none) := by
          rw [P.pv y]
          by_cases hy : y ∈ pre t
          · rw [if_pos hy, if_pos hy]; rfl
          · rw [if_neg hy, if_neg hy]; rfl
        rw [e2]
        refine r_var (d := optS (some h)) rfl ?_
        refine eq_optS ?_
        refine q _ ?_
        have := o.par_iff hh (c := y)
        simp only [Bool.false_bne, decide_eq_true_eq, TgtP, hh, true_and, Option.some.injEq, forall_eq', ne_eq, e, not_false_eq_true, and_true]
        rw [this]
        by_cases hy : y ∈ pre t
        · simp [hy]
        · simp [hy]
  · rw [if_neg hh]
    refine ifT rfl ?_
    exact q false (by simp [TgtP, hh])
/-- is_possible -/
def sp_Places_is_possible : DSp := fun ds μ Q _ => ∃ (μ0 : Mu) (a p c : Addr) (ad : Str → Addr) (kp kc : List (Key × SD)) (r : Str) (f : Str → List Str) (par : Str → Option Str) (t : T) (N : Nat) (op : Op),
  ds = [.ref a, encO op] ∧ Pl μ0 μ a p c ad kp kc r f par (pre t) (pre t) N ∧ Fo r f par t ∧ (pre t).length ≤ 1000 ∧ ∀ (z : Bool) μ', Le μ μ' → (z = true ↔ Poss r f t op) → Q (.bl z) μ'
theorem len_Places_is_possible : ∀ ds μ Q E, sp_Places_is_possible ds μ Q E → ds.length = 2 := by rintro ds μ Q E ⟨μ0, a, p, c, ad, kp, kc, r, f, par, t, N, op, rfl, _⟩; rfl
def t_Places_is_possible : DTS := (dSeq (dSet (dOp dIx (dVar 1) (dC (.int 1))) 2)
    (dSeq (dIfS (dTest (dOp (dEq false) (dOp dIx (dVar 1) (dC (.int 0))) (dC (.str "create")))) (dRet (dAndV (dDIn true (dVar 2) (dAttr "Places" "parent_keys" (dVar 0))) (dMeth "Places" "is_target" sp_Places_is_target (dVar 0) (dCons (dOp dIx (dVar 1) (dC (.int 2))) (dCons (dOp dIx (dVar 1) (dC (.int 3))) (dCons (dC .non) dNil)))))) dNext)
    (dSeq (dIfS (dOr (dTest (dDIn true (dVar 2) (dAttr "Places" "parent_keys" (dVar 0)))) (dTest (dOp (dEq false) (dVar 2) (dAttr "Places" "root_key" (dVar 0))))) (dRet (dC (.bl false))) dNext)
    (dSeq (dIfS (dTest (dOp (dEq false) (dOp dIx (dVar 1) (dC (.int 0))) (dC (.str "remove")))) (dRet (dC (.bl true))) dNext)
    (dRet (dAndV (dOp (dIn true) (dOp dIx (dVar 1) (dC (.int 2))) (dMeth "Places" "keys_inside" sp_Places_keys_inside (dVar 0) (dCons (dVar 2) dNil))) (dMeth "Places" "is_target" sp_Places_is_target (dVar 0) (dCons (dOp dIx (dVar 1) (dC (.int 2))) (dCons (dOp dIx (dVar 1) (dC (.int 3))) (dCons (dVar 2) dNil))))))))))
theorem plF_m {r : Str} {p c : Addr} : (plF r p c).lookup ("is_target" : Str) = none ∧ (plF r p c).lookup ("keys_inside" : Str) = none ∧ (plF r p c).lookup ("put" : Str) = none ∧ (plF r p c).lookup ("is_possible" : Str) = none ∧ (plF r p c).lookup ("execute" : Str) = none ∧ (plF r p c).lookup ("present_tree" : Str) = none := ⟨rfl, rfl, rfl, rfl, rfl, rfl⟩
theorem read_Places_is_possible : ∀ ds μ Q E, sp_Places_is_possible ds μ Q E → t_Places_is_possible { nx := fun _ μ' => Q .non μ', rt := Q } (begin_ ["self", "operation", "key"] ds) μ := by
  rintro ds μ Q E ⟨μ0, a, p, c, ad, kp, kc, r, f, par, t, N, op, rfl, P, o, hl, q⟩
  unfold t_Places_is_possible
  cases op with
  | create x h b =>
    refine r_var rfl ?_
    refine ix_tup (d := .str x) rfl ?_
    dsimp only
    refine r_var rfl ?_
    refine ix_tup (d := .str "create") rfl ?_
    refine eq_ss ?_
    refine ifT (by decide +kernel) ?_
    refine r_var rfl ?_
    refine r_var rfl ?_
    refine attr_ok P.ho plF_p ?_
    refine din_ok (dicD_ref P.hp) (k := .inr x) rfl ?_
    rw [P.pv x]
    by_cases hx : x ∈ pre t
    · rw [if_pos hx]
      exact q false _ (Le.refl _) (by simp [Poss, hx])
    · rw [if_neg hx]
      refine r_var rfl ?_
      refine meth_ok P.ho plF_m.1 ?_
      refine r_var rfl ?_
      refine ix_tup (d := .str h) rfl ?_
      refine r_var rfl ?_
      refine ix_tup (d := optS b) rfl ?_
      refine ⟨μ0, a, p, c, ad, kp, kc, r, f, par, t, N, h, b, none, rfl, P, o, fun z hz => q z _ (Le.refl _) (hz.trans ?_)⟩
      simp [TgtP, Poss, hx]
  | remove x =>
    refine r_var rfl ?_
    refine ix_tup (d := .str x) rfl ?_
    dsimp only
    refine r_var rfl ?_
    refine ix_tup (d := .str "remove") rfl ?_
    refine eq_ss ?_
    refine ifF (by decide +kernel) ?_
    simp only [dNext]
    refine r_var rfl ?_
    refine r_var rfl ?_
    refine attr_ok P.ho plF_p ?_
    refine din_ok (dicD_ref P.hp) (k := .inr x) rfl ?_
    rw [P.pv x]
    by_cases hx : x ∈ pre t
    · rw [if_pos hx]
      refine ifF rfl ?_
      refine r_var rfl ?_
      refine r_var rfl ?_
      refine attr_ok P.ho plF_r ?_
      refine eq_ss ?_
      by_cases hr : x = r
      · rw [decide_eq_true hr]
        exact ifT rfl (q false _ (Le.refl _) (by simp [Poss, hr]))
      · rw [decide_eq_false hr]
        refine ifF rfl ?_
        simp only [dNext]
        refine r_var rfl ?_
        refine ix_tup (d := .str "remove") rfl ?_
        refine eq_ss ?_
        refine ifT (by decide +kernel) ?_
        exact q true _ (Le.refl _) (by simp [Poss, hr, hx])
    · rw [if_neg hx]
      refine ifT rfl ?_
      exact ifT rfl (q false _ (Le.refl _) (by simp [Poss, hx]))
  | move x h b =>
    refine r_var rfl ?_
    refine ix_tup (d := .str x) rfl ?_
    dsimp only
    refine r_var rfl ?_
    refine ix_tup (d := .str "move") rfl ?_
    refine eq_ss ?_
    refine ifF (by decide +kernel) ?_
    simp only [dNext]
    refine r_var rfl ?_
    refine r_var rfl ?_
    refine attr_ok P.ho plF_p ?_
    refine din_ok (dicD_ref P.hp) (k := .inr x) rfl ?_
    rw [P.pv x]
    by_cases hx : x ∈ pre t
    · rw [if_pos hx]
      refine ifF rfl ?_
      refine r_var rfl ?_
      refine r_var rfl ?_
      refine attr_ok P.ho plF_r ?_
      refine eq_ss ?_
      by_cases hr : x = r
      · rw [decide_eq_true hr]
        exact ifT rfl (q false _ (Le.refl _) (by simp [Poss, hr]))
      · rw [decide_eq_false hr]
        refine ifF rfl ?_
        simp only [dNext]
        refine r_var rfl ?_
        refine ix_tup (d := .str "move") rfl ?_
        refine eq_ss ?_
        refine ifF (by decide +kernel) ?_
        simp only [dNext]
        refine r_var rfl ?_
        refine ix_tup (d := .str h) rfl ?_
        refine r_var rfl ?_
        refine meth_ok P.ho plF_m.2.1 ?_
        refine r_var rfl ?_
        obtain ⟨s, hs, rfl⟩ := o.sub hx
        have inP : ∀ k ∈ pre s, k ∈ pre t := hs.pre
        refine ⟨a, r, p, c, ad, kc, f, s, rfl, P.ho, P.hc, fun k hk => ⟨by rw [P.cv k, if_pos (inP k hk)], P.hl k (inP k hk)⟩, hs.fits o.fits, Nat.le_trans hs.len hl, fun μ1 ks le pm => ?_⟩
        refine in_sts rfl (fun _ z => by cases z) ?_
        have e : decide (h ∈ ks) = decide (h ∈ pre s) := by rw [decide_eq_decide]; exact pm.mem_iff
        rw [e]
        have one : (∀ s', Sub s' t → s'.key = s.key → h ∉ pre s') ↔ h ∉ pre s := ⟨fun g => g s hs rfl, fun g s' h1 h2 => by rw [o.sub1 h1 hs h2]; exact g⟩
        by_cases hn : h ∈ pre s
        · rw [decide_eq_true hn]
          refine q false _ le ?_
          simp [Poss, one, hn]
        · rw [decide_eq_false hn, show (true != false) = true from rfl]
          refine r_var rfl ?_
          refine meth_ok (le _ _ P.ho) plF_m.1 ?_
          refine r_var rfl ?_
          refine ix_tup (d := .str h) rfl ?_
          refine r_var rfl ?_
          refine ix_tup (d := optS b) rfl ?_
          refine r_var rfl ?_
          refine ⟨μ0, a, p, c, ad, kp, kc, r, f, par, t, N, h, b, some s.key, rfl, P.mono le, o, fun z hz => q z _ le (hz.trans ?_)⟩
          simp [TgtP, Poss, hx, hr, one, hn]
    · rw [if_neg hx]
      refine ifT rfl ?_
      exact ifT rfl (q false _ (Le.refl _) (by simp [Poss, hx]))
end LK
namespace LK
open PySem PySem.Spec PyProof.Rows L2 DS MA
def sp_Places_put : DSp := fun ds μ Q _ => ∃ (μ0 : Mu) (a p c : Addr) (ad : Str → Addr) (kp kc : List (Key × SD)) (r : Str) (f : Str → List Str) (par : Str → Option Str) (Sp Sc : List Str) (N : Nat) (x h : Str) (b : Option Str),
  ds = [.ref a, .str x, .str h, optS b] ∧ Pl μ0 μ a p c ad kp kc r f par Sp Sc N ∧ h ∈ Sc ∧ (∀ y, b = some y → y ∈ f h) ∧ (f h).length ≤ 1000 ∧ N ≤ 500000 ∧
  ∀ μ' kp', Pl μ0 μ' a p c ad kp' kc r (putF f h b x) (putP par x h) (x :: Sp) Sc (N + 1) → Q .non μ'
theorem len_Places_put : ∀ ds μ Q E, sp_Places_put ds μ Q E → ds.length = 4 := by rintro ds μ Q E ⟨μ0, a, p, c, ad, kp, kc, r, f, par, Sp, Sc, N, x, h, b, rfl, _⟩; rfl
def t_Places_put : DTS := (dSeq (dSet (dDGet (dAttr "Places" "child_keys" (dVar 0)) (dVar 2)) 4)
    (dSeq (dDrop (dLM dmInsert (dVar 4) (dCons (dIf (dTest (dIsN (dVar 3))) (dCB drLen (dCons (dVar 4) dNil)) (dLM dmIndex (dVar 4) (dCons (dVar 3) dNil))) (dCons (dVar 1) dNil))))
    (dDPut (dAttr "Places" "parent_keys" (dVar 0)) (dVar 1) (dVar 2))))
theorem sts_ins {l : List Str} {b : Option Str} {x : Str} : (sts l).take (insI l b) ++ [SD.str x] ++ (sts l).drop (insI l b) = sts (insAt l b x) := by
  simp [sts, insAt, List.map_take, List.map_drop]
theorem insI_le {l : List Str} {b : Option Str} : insI l b ≤ l.length := by
  cases b with
  | none => exact Nat.le_refl _
  | some y => exact List.idxOf_le_length
theorem read_Places_put : ∀ ds μ Q E, sp_Places_put ds μ Q E → t_Places_put { nx := fun _ μ' => Q .non μ', rt := Q } (begin_ ["self", "key", "parent", "before", "siblings"] ds) μ := by
  rintro ds μ Q E ⟨μ0, a, p, c, ad, kp, kc, r, f, par, Sp, Sc, N, x, h, b, rfl, P, hh, hb, hl, hN, q⟩
  unfold t_Places_put
  refine r_var rfl ?_
  refine attr_ok P.ho plF_c ?_
  refine r_var rfl ?_
  refine get_ok (dicD_ref P.hc) (k := .inr h) rfl (by rw [P.cv h, if_pos hh]) ?_
  dsimp only
  have hm := P.hl h hh
  refine r_var rfl ⟨isSome_ref hm, ?_⟩
  have ins : ∀ (R : SD → Mu → Prop), R (.int (insI (f h) b : Nat)) μ → dIf (dTest (dIsN (dVar 3))) (dCB drLen (dCons (dVar 4) dNil)) (dLM dmIndex (dVar 4) (dCons (dVar 3) dNil)) [some (.ref a), some (.str x), some (.str h), some (optS b), some (.ref (ad h))] μ R := fun R k => by
    refine r_var rfl ?_
    rw [isNon_optS]
    cases b with
    | none =>
      refine ifT rfl ?_
      refine r_var rfl ?_
      refine l_lenR hm ?_
      rw [show (sts (f h)).length = (f h).length by simp [sts]]; exact k
    | some y =>
      refine ifF rfl ?_
      refine r_var rfl ⟨isSome_ref hm, ?_⟩
      refine r_var (d := .str y) rfl ?_
      exact dm_index (l := f h) (by simp only [lstD, hm]) (hb y rfl) k
  refine ins _ ?_
  have hi := insI_le (l := f h) (b := b)
  refine r_var rfl ?_
  refine dm_insert hm (lt_line (m := 2000) (by simp [sts]; omega) (by omega)) (by omega) (by omega) ?_
  rw [Int.toNat_natCast, sts_ins]
  dsimp only
  have P2 := P.list (l := insAt (f h) b x) hh
  refine r_var rfl ?_
  refine r_var rfl ?_
  refine attr_ok P2.ho plF_p ?_
  refine r_var rfl ?_
  refine put_ok P2.hp (k := .inr x) rfl (lt_line (m := 500001) (by have := P2.lp; omega) (by omega)) ?_
  refine q _ _ (P2.pars (fun k => ?_) (Nat.le_succ _) (by have := P2.lp; have := putD_length (kvs := kp) (k := Sum.inr x) (v := SD.str h); omega))
  rw [valD_put, P2.pv k]
  by_cases e : x = k
  · subst e; simp [putP, optS]
  · rw [if_neg (fun z => e (by cases z; rfl))]
    have e2 : k ≠ x := Ne.symm e
    simp [putP, e2]
/-- execute -/
def sp_Places_execute : DSp := fun ds μ Q _ => ∃ (μ0 : Mu) (a p c : Addr) (ad : Str → Addr) (kp kc : List (Key × SD)) (r : Str) (f : Str → List Str) (par : Str → Option Str) (t : T) (N : Nat) (op : Op),
  ds = [.ref a, encO op] ∧ Pl μ0 μ a p c ad kp kc r f par (pre t) (pre t) N ∧ Fo r f par t ∧ Poss r f t op ∧ (pre t).length ≤ 999 ∧ N ≤ 400000 ∧
  ∀ μ' ad' kp' kc' t', Pl μ0 μ' a p c ad' kp' kc' r (stepF par f op) (stepP par op) (pre t') (pre t') (N + 2) → Fo r (stepF par f op) (stepP par op) t' → Q .non μ'
theorem len_Places_execute : ∀ ds μ Q E, sp_Places_execute ds μ Q E → ds.length = 2 := by rintro ds μ Q E ⟨μ0, a, p, c, ad, kp, kc, r, f, par, t, N, op, rfl, _⟩; rfl
def t_Places_execute : DTS := (dSeq (dSet (dOp dIx (dVar 1) (dC (.int 1))) 2)
    (dSeq (dIfS (dTest (dOp (dEq false) (dOp dIx (dVar 1) (dC (.int 0))) (dC (.str "create")))) (dDPut (dAttr "Places" "child_keys" (dVar 0)) (dVar 2) (dLstM dNil)) (dDrop (dLM dmRemove (dDGet (dAttr "Places" "child_keys" (dVar 0)) (dDGet (dAttr "Places" "parent_keys" (dVar 0)) (dVar 2))) (dCons (dVar 2) dNil))))
    (dIfS (dTest (dOp (dEq false) (dOp dIx (dVar 1) (dC (.int 0))) (dC (.str "remove")))) (dFor (jSeq (dMeth "Places" "keys_inside" sp_Places_keys_inside (dVar 0) (dCons (dVar 2) dNil))) (hName 3) (dSeq (dDrop (dDPop1 (dAttr "Places" "parent_keys" (dVar 0)) (dVar 3)))
    (dDrop (dDPop1 (dAttr "Places" "child_keys" (dVar 0)) (dVar 3))))) (dDrop (dMeth "Places" "put" sp_Places_put (dVar 0) (dCons (dVar 2) (dCons (dOp dIx (dVar 1) (dC (.int 2))) (dCons (dOp dIx (dVar 1) (dC (.int 3))) dNil))))))))
theorem Fo.flen {r : Str} {f : Str → List Str} {par : Str → Option Str} {t : T} (o : Fo r f par t) {h : Str} (hh : h ∈ pre t) : (f h).length ≤ (pre t).length := len_sub (o.fnd hh) fun c hc => (o.kid_mem hh hc).1
/-- x is taken from the list of its parent -/
theorem take_off {μ0 μ : Mu} {a p c : Addr} {ad : Str → Addr} {kp kc : List (Key × SD)} {r : Str} {f : Str → List Str} {par : Str → Option Str} {t : T} {N : Nat} {x q : Str} {g : SD} {D : DEnds} {w : Option SD}
    (P : Pl μ0 μ a p c ad kp kc r f par (pre t) (pre t) N) (hx : x ∈ pre t) (hq : q ∈ pre t) (e : par x = some q) (hm : x ∈ f q)
    (k : Pl μ0 (up μ (ad q) (.lst (sts ((f q).erase x)))) a p c ad kp kc r (cutF f q x) par (pre t) (pre t) N → D.nx [some (.ref a), some g, some (.str x), w] (up μ (ad q) (.lst (sts ((f q).erase x))))) :
    dDrop (dLM dmRemove (dDGet (dAttr "Places" "child_keys" (dVar 0)) (dDGet (dAttr "Places" "parent_keys" (dVar 0)) (dVar 2))) (dCons (dVar 2) dNil)) D [some (.ref a), some g, some (.str x), w] μ := by
  refine r_var rfl ?_
  refine attr_ok P.ho plF_c ?_
  refine r_var rfl ?_
  refine attr_ok P.ho plF_p ?_
  refine r_var rfl ?_
  refine get_ok (dicD_ref P.hp) (k := .inr x) rfl (by rw [P.pv x, if_pos hx, e]) ?_
  refine get_ok (dicD_ref P.hc) (k := .inr q) rfl (by rw [P.cv q, if_pos hq]) ?_
  refine ⟨isSome_ref (P.hl q hq), ?_⟩
  refine r_var rfl ?_
  refine dm_remove (l := f q) (P.hl q hq) hm ?_
  exact k (P.list hq)
theorem read_Places_execute : ∀ ds μ Q E, sp_Places_execute ds μ Q E → t_Places_execute { nx := fun _ μ' => Q .non μ', rt := Q } (begin_ ["self", "operation", "key", "gone"] ds) μ := by
  rintro ds μ Q E ⟨μ0, a, p, c, ad, kp, kc, r, f, par, t, N, op, rfl, P, o, ps, hl, hN, q⟩
  unfold t_Places_execute
  cases op with
  | create x h b =>
    obtain ⟨hx, hh, hb⟩ := ps
    refine r_var rfl ?_
    refine ix_tup (d := .str x) rfl ?_
    dsimp only
    refine r_var rfl ?_
    refine ix_tup (d := .str "create") rfl ?_
    refine eq_ss ?_
    refine ifT (by decide +kernel) ?_
    refine ⟨by decide, fun w hw => ?_⟩
    have n : ∀ {b : Addr} {o : MO}, μ b = some o → b ≠ w := fun {b o} e z => by subst z; rw [hw] at e; cases e
    refine r_var rfl ?_
    refine attr_ok (by rw [up_ne (n P.ho)]; exact P.ho) plF_c ?_
    refine r_var rfl ?_
    refine put_ok (by rw [up_ne (n P.hc)]; exact P.hc) (k := .inr x) rfl (lt_line (m := 500001) (by have := P.lc; omega) (by omega)) ?_
    have P2 := P.row hw hx
    dsimp only
    refine r_var rfl ?_
    refine ix_tup (d := .str "create") rfl ?_
    refine eq_ss ?_
    refine ifF (by decide +kernel) ?_
    refine r_var rfl ?_
    refine meth_ok P2.ho plF_m.2.2.1 ?_
    refine r_var rfl ?_
    refine r_var rfl ?_
    refine ix_tup (d := .str h) rfl ?_
    refine r_var rfl ?_
    refine ix_tup (d := optS b) rfl ?_
    have hhx : h ≠ x := fun z => hx (z ▸ hh)
    have enf : newF f x h = f h := by unfold newF; rw [if_neg hhx]
    refine ⟨μ0, a, p, c, _, kp, _, r, _, par, pre t, x :: pre t, N + 1, x, h, b, rfl, P2, List.mem_cons_of_mem _ hh, by rw [enf]; exact hb, by rw [enf]; have := o.flen hh; omega, by omega, fun μ' kp' P3 => ?_⟩
    obtain ⟨t', o', pm⟩ := o.create (b := b) hx hh
    refine q μ' _ kp' _ t' (P3.congr (fun k => pm.mem_iff.symm) (fun k => pm.mem_iff.symm) (fun k _ => rfl) (fun k _ => rfl)) o'
  | move x h b =>
    obtain ⟨hx, hr, hh, hn, hb⟩ := ps
    obtain ⟨w, s, t1, t', e1, hw, e2, es, hs, o1, pm1, hh1, o', pm⟩ := o.move (b := b) hx hr hh hn
    have ef : stepF par f (.move x h b) = putF (cutF f w x) h b x := by show putF (cutF f ((par x).getD x) x) h b x = _; rw [e1]; rfl
    refine r_var rfl ?_
    refine ix_tup (d := .str x) rfl ?_
    dsimp only
    refine r_var rfl ?_
    refine ix_tup (d := .str "move") rfl ?_
    refine eq_ss ?_
    refine ifF (by decide +kernel) ?_
    refine take_off P hx hw e1 e2 fun P2 => ?_
    dsimp only
    refine r_var rfl ?_
    refine ix_tup (d := .str "move") rfl ?_
    refine eq_ss ?_
    refine ifF (by decide +kernel) ?_
    refine r_var rfl ?_
    refine meth_ok P2.ho plF_m.2.2.1 ?_
    refine r_var rfl ?_
    refine r_var rfl ?_
    refine ix_tup (d := .str h) rfl ?_
    refine r_var rfl ?_
    refine ix_tup (d := optS b) rfl ?_
    have l1 : (cutF f w x h).length ≤ (f h).length := by
      unfold cutF; split
      · rename_i e; subst e; exact List.length_erase_le
      · exact Nat.le_refl _
    refine ⟨μ0, a, p, c, _, kp, _, r, _, par, pre t, pre t, N, x, h, b, rfl, P2, hh, ?_, by have := o.flen hh; omega, by omega, fun μ' kp' P3 => ?_⟩
    · intro y hy
      obtain ⟨g1, g2⟩ := hb y hy
      unfold cutF; split
      · rename_i e; subst e; exact (List.mem_erase_of_ne g2).mpr g1
      · exact g1
    · refine q μ' _ kp' _ t' ((P3.congr (Sp' := pre t') (Sc' := pre t') (fun k => ?_) (fun k => pm.mem_iff.symm) (fun k _ => by rw [ef]) (fun k _ => rfl)).cap (Nat.le_succ _)) (by rw [ef]; exact o')
      rw [pm.mem_iff, List.mem_cons]
      exact ⟨fun z => z.elim (fun z => z ▸ hx) id, .inr⟩
  | remove x =>
    obtain ⟨hx, hr⟩ := ps
    obtain ⟨w, s, t', e1, hw', e2, es, hs, o', pm, fs⟩ := o.cut hx hr
    have hw : w ∈ pre t := pm.mem_iff.mpr (List.mem_append_right _ hw')
    have ef : stepF par f (.remove x) = cutF f w x := by show cutF f ((par x).getD x) x = _; rw [e1]; rfl
    refine r_var rfl ?_
    refine ix_tup (d := .str x) rfl ?_
    dsimp only
    refine r_var rfl ?_
    refine ix_tup (d := .str "remove") rfl ?_
    refine eq_ss ?_
    refine ifF (by decide +kernel) ?_
    refine take_off P hx hw e1 e2 fun P2 => ?_
    generalize up μ (ad w) (.lst (sts ((f w).erase x))) = μ1 at P2
    dsimp only
    refine r_var rfl ?_
    refine ix_tup (d := .str "remove") rfl ?_
    refine eq_ss ?_
    refine ifT (by decide +kernel) ?_
    unfold dFor
    refine r_var rfl ?_
    refine meth_ok P2.ho plF_m.2.1 ?_
    refine r_var rfl ?_
    subst es
    have inP : ∀ k ∈ pre s, k ∈ pre t := hs.pre
    refine ⟨a, r, p, c, ad, kc, _, s, rfl, P2.ho, P2.hc, fun k hk => ⟨by rw [P2.cv k, if_pos (inP k hk)], P2.hl k (inP k hk)⟩, fs, by have := hs.len; omega, fun μ2 ks le pk => ?_⟩
    have P3 := P2.mono le
    have nds : ks.Nodup := pk.nodup_iff.mpr (List.nodup_append.mp (pm.nodup_iff.mp o.nd)).1
    refine ⟨fun i ρ μ' => ∃ (kp kc : List (Key × SD)) (g : Option SD), ρ = [some (.ref a), some (encO (.remove s.key)), some (.str s.key), g] ∧ Pl μ0 μ' a p c ad kp kc r (cutF f w s.key) par ((pre t).filter fun k => decide (k ∉ ks.take i)) ((pre t).filter fun k => decide (k ∉ ks.take i)) N, ?_, fun _ _ _ _ _ => rfl, ?_, ?_⟩
    · exact ⟨kp, kc, none, rfl, P3.congr (fun k => by simp) (fun k => by simp) (fun _ _ => rfl) (fun _ _ => rfl)⟩
    · rintro i d ρ μ4 hd ⟨kp4, kc4, g, rfl, P4⟩
      rw [sts, List.getElem?_map] at hd
      cases e : ks[i]? with
      | none => rw [e] at hd; cases hd
      | some k =>
        rw [e] at hd; cases hd
        have hk : k ∈ pre t := inP k (pk.mem_iff.mp (List.mem_of_getElem? e))
        have nk := not_in_take nds e
        have hkf : k ∈ (pre t).filter fun k => decide (k ∉ ks.take i) := List.mem_filter.mpr ⟨hk, by simpa using nk⟩
        have nxt : ∀ z, z ∈ ((pre t).filter fun k => decide (k ∉ ks.take (i + 1))) ↔ z ≠ k ∧ z ∈ ((pre t).filter fun k => decide (k ∉ ks.take i)) := fun z => by
          rw [take_snoc e]
          simp only [List.mem_filter, List.mem_append, List.mem_singleton, decide_eq_true_eq, not_or]
          exact ⟨fun q => ⟨q.2.2, q.1, q.2.1⟩, fun q => ⟨q.2.1, q.2.2, q.1⟩⟩
        refine r_var rfl ?_
        refine attr_ok P4.ho plF_p ?_
        refine ⟨by rw [dicD_ref P4.hp]; rfl, ?_⟩
        refine r_var rfl ?_
        refine pop1_ok P4.hp (k := .inr k) rfl (by rw [P4.pv k, if_pos hkf]) ?_
        have P5 := P4.pars (kp' := dropD kp4 (.inr k)) (par' := par) (Sp' := (pre t).filter fun k => decide (k ∉ ks.take (i + 1))) (M := N) (fun z => by
          rw [valD_dropD, P4.pv z]
          by_cases ez : k = z
          · subst ez
            rw [if_pos rfl, if_neg (fun q => ((nxt k).mp q).1 rfl)]
          · rw [if_neg (fun q => ez (by cases q; rfl))]
            exact ifc2 (by rw [nxt z]; exact ⟨fun q => ⟨Ne.symm ez, q⟩, fun q => q.2⟩)) (Nat.le_refl _) (Nat.le_trans dropD_len P4.lp)
        dsimp only
        refine r_var rfl ?_
        refine attr_ok P5.ho plF_c ?_
        refine ⟨by rw [dicD_ref P5.hc]; rfl, ?_⟩
        refine r_var rfl ?_
        refine pop1_ok P5.hc (k := .inr k) rfl (by rw [P5.cv k, if_pos hkf]) ?_
        exact ⟨_, _, _, rfl, P5.drop (fun z => by
          rw [valD_dropD, P5.cv z]
          by_cases ez : k = z
          · subst ez
            rw [if_pos rfl, if_neg (fun q => ((nxt k).mp q).1 rfl)]
          · rw [if_neg (fun q => ez (by cases q; rfl))]
            exact ifc2 (by rw [nxt z]; exact ⟨fun q => ⟨Ne.symm ez, q⟩, fun q => q.2⟩)) (fun z hz => ((nxt z).mp hz).2) (Nat.le_trans dropD_len P5.lc)⟩
    · rintro ρ μ4 ⟨kp4, kc4, g, rfl, P4⟩
      have el : ks.take (sts ks).length = ks := List.take_of_length_le (by simp [sts])
      rw [el] at P4
      have nd2 := pm.nodup_iff.mp o.nd
      have mem : ∀ k, k ∈ ((pre t).filter fun k => decide (k ∉ ks)) ↔ k ∈ pre t' := fun k => by
        rw [List.mem_filter, pm.mem_iff, List.mem_append, decide_eq_true_eq, pk.mem_iff]
        exact ⟨fun q => q.1.resolve_left q.2, fun q => ⟨.inr q, fun z => (List.nodup_append.mp nd2).2.2 k z k q rfl⟩⟩
      exact q μ4 ad kp4 kc4 t' ((P4.congr mem mem (fun k _ => by rw [ef]) (fun k _ => rfl)).cap (by omega)) (by rw [ef]; exact o')
end LK
namespace LK
open PySem PySem.Spec PyProof.Rows L2 DS MA
def d_SIZES : List (Str × Int) := [("create", 4), ("move", 4), ("remove", 2)]
/-- is it an operation? -/
def opB : SD → Bool
  | .tup (.str w :: xs) => if w = "remove" then (match xs with
      | [x] => keyB x
      | _ => false)
    else if w = "create" ∨ w = "move" then (match xs with
      | [x, h, b] => keyB x && (keyB h && (isNon b || keyB b))
      | _ => false)
    else false
  | _ => false
def opsB : SD → Bool
  | .tup xs => decide (xs.length ≤ 400) && xs.all opB
  | _ => false
theorem opB_tup {w : Str} {xs : List SD} : opB (.tup (.str w :: xs)) = if w = "remove" then (match xs with
      | [x] => keyB x
      | _ => false)
    else if w = "create" ∨ w = "move" then (match xs with
      | [x, h, b] => keyB x && (keyB h && (isNon b || keyB b))
      | _ => false)
    else false := rfl
theorem size_of {w : Str} : d_SIZES.lookup w = if w = "remove" then some 2 else if w = "create" ∨ w = "move" then some 4 else none := by
  by_cases h1 : w = "remove"
  · subst h1; rfl
  · by_cases h2 : w = "create"
    · subst h2; rfl
    · by_cases h3 : w = "move"
      · subst h3; rfl
      · have b1 : (w == ("create" : Str)) = false := by simpa using h2
        have b2 : (w == ("move" : Str)) = false := by simpa using h3
        have b3 : (w == ("remove" : Str)) = false := by simpa using h1
        simp [d_SIZES, List.lookup, b1, b2, b3, h1, h2, h3]
section
variable {ρ : Rho} {μ : Mu} {Q : SD → Mu → Prop} {w : Str} {kvs : List (Str × Int)}
theorem gin_ok {neg : Bool} (q : Q (.bl (neg != (kvs.lookup w).isSome)) μ) : gQ neg kvs Q (.str w) μ := q
theorem gix_ok {i : Int} (e : kvs.lookup w = some i) (q : Q (.int i) μ) : gIxQ kvs Q (.str w) μ := by
  show (match kvs.lookup w with
    | some i => Q (.int i) μ
    | none => False)
  rw [e]; exact q
end
def sp_is_operation : DSp := fun ds μ Q _ => ∃ (d : SD) (m : Nat), ds = [d] ∧ okV m d ∧ wtV d ≤ 300000 ∧ Q (.bl (opB d)) μ
theorem len_is_operation : ∀ ds μ Q E, sp_is_operation ds μ Q E → ds.length = 1 := by rintro ds μ Q E ⟨d, m, rfl, _⟩; rfl
def t_is_operation : DTS := (dSeq (dIfS (dOr (dNot (dTest (dCB drIsi (dCons (dVar 0) (dCons (dC (.ty "tuple")) dNil))))) (dOr (dTest (dOp (dT0 false) (dVar 0) (dTup dNil))) (dOr (dNot (dTest (dCB drIsi (dCons (dOp dIx (dVar 0) (dC (.int 0))) (dCons (dC (.ty "str")) dNil))))) (dTest (dGIn true d_SIZES (dOp dIx (dVar 0) (dC (.int 0)))))))) (dRet (dC (.bl false))) dNext)
    (dSeq (dIfS (dOr (dTest (dOp (dEq true) (dCB drLen (dCons (dVar 0) dNil)) (dGIx d_SIZES (dOp dIx (dVar 0) (dC (.int 0)))))) (dNot (dTest (dCall sp_is_key [] (dCons (dOp dIx (dVar 0) (dC (.int 1))) dNil))))) (dRet (dC (.bl false))) dNext)
    (dRet (dOrV (dOp (dEq false) (dOp dIx (dVar 0) (dC (.int 0))) (dC (.str "remove"))) (dAndV (dCall sp_is_key [] (dCons (dOp dIx (dVar 0) (dC (.int 2))) dNil)) (dOrV (dIsN (dOp dIx (dVar 0) (dC (.int 3)))) (dCall sp_is_key [] (dCons (dOp dIx (dVar 0) (dC (.int 3))) dNil))))))))
theorem read_is_operation : ∀ ds μ Q E, sp_is_operation ds μ Q E → t_is_operation { nx := fun _ μ' => Q .non μ', rt := Q } (begin_ ["value"] ds) μ := by
  rintro ds μ Q E ⟨d, m, rfl, v, wt, q⟩
  unfold t_is_operation
  refine r_var rfl ?_
  refine isi_tup v ?_
  have no : ∀ {d : SD}, isTup d = false → opB d = false := fun {d} h => by cases d <;> first | rfl | cases h
  by_cases ht : isTup d = true
  · obtain ⟨xs, rfl⟩ : ∃ xs, d = .tup xs := by cases d <;> first | exact ⟨_, rfl⟩ | cases ht
    refine ifF rfl ?_
    refine r_var rfl ⟨(by decide), ?_⟩
    refine ne_t0 ?_
    rw [okV] at v
    rw [wtV] at wt
    cases xs with
    | nil => exact ifT rfl (ifT rfl q)
    | cons e r =>
      refine ifF rfl ?_
      have ve := v; rw [okVL] at ve
      have we := wt; rw [wtVL] at we
      have wi : ∀ x : SD, x ∈ e :: r → okV m x ∧ wtV x ≤ 300000 := fun x hx => ⟨okVL_mem.mp v x hx, by have := wtVL_mem hx; omega⟩
      refine r_var rfl ?_
      refine ix_tup (d := e) (atI_nat (j := 0) rfl) ?_
      refine isi_str ve.1 ?_
      by_cases hs : isStr e = true
      · obtain ⟨w, rfl⟩ : ∃ w, e = .str w := by cases e <;> first | exact ⟨_, rfl⟩ | cases hs
        refine ifF rfl ?_
        refine r_var rfl ?_
        refine ix_tup (d := .str w) (atI_nat (j := 0) rfl) ?_
        refine gin_ok ?_
        rw [size_of]
        by_cases h1 : w = "remove"
        · rw [if_pos h1]
          refine ifF rfl ?_
          simp only [dNext]
          refine r_var rfl ?_
          refine l_lenT ?_
          refine r_var rfl ?_
          refine ix_tup (d := .str w) (atI_nat (j := 0) rfl) ?_
          refine gix_ok (i := 2) (by rw [size_of, if_pos h1]) ?_
          refine i_ne ?_
          match r, v, wt, wi, q with
          | [], _, _, _, q =>
            refine ifT rfl (ifT rfl ?_)
            rw [opB_tup, if_pos h1] at q; exact q
          | [x], v, wt, wi, q =>
            refine ifF rfl ?_
            refine r_var rfl ?_
            refine ix_tup (d := x) rfl ?_
            obtain ⟨vx, wx⟩ := wi x (by simp)
            refine ⟨x, m, rfl, vx, wx, ?_⟩
            have qq : Q (.bl (keyB x)) μ := by rw [opB_tup, if_pos h1] at q; exact q
            cases hk : keyB x with
            | false => rw [hk] at qq; exact ifT rfl qq
            | true =>
              rw [hk] at qq
              refine ifF rfl ?_
              simp only [dNext]
              refine r_var rfl ?_
              refine ix_tup (d := .str w) (atI_nat (j := 0) rfl) ?_
              refine eq_ss ?_
              rw [decide_eq_true h1]; exact qq
          | x :: y :: z, _, _, _, q =>
            refine ifT (by simp; omega) (ifT rfl ?_)
            rw [opB_tup, if_pos h1] at q; exact q
        · rw [if_neg h1]
          by_cases h2 : w = "create" ∨ w = "move"
          · rw [if_pos h2]
            refine ifF rfl ?_
            simp only [dNext]
            refine r_var rfl ?_
            refine l_lenT ?_
            refine r_var rfl ?_
            refine ix_tup (d := .str w) (atI_nat (j := 0) rfl) ?_
            refine gix_ok (i := 4) (by rw [size_of, if_neg h1, if_pos h2]) ?_
            refine i_ne ?_
            match r, v, wt, wi, q with
            | [], _, _, _, q => refine ifT rfl (ifT rfl ?_); rw [opB_tup, if_neg h1, if_pos h2] at q; exact q
            | [_], _, _, _, q => refine ifT rfl (ifT rfl ?_); rw [opB_tup, if_neg h1, if_pos h2] at q; exact q
            | [_, _], _, _, _, q => refine ifT rfl (ifT rfl ?_); rw [opB_tup, if_neg h1, if_pos h2] at q; exact q
            | [x, h, b], v, wt, wi, q =>
              refine ifF rfl ?_
              refine r_var rfl ?_
              refine ix_tup (d := x) rfl ?_
              obtain ⟨vx, wx⟩ := wi x (by simp)
              refine ⟨x, m, rfl, vx, wx, ?_⟩
              have qq : Q (.bl (keyB x && (keyB h && (isNon b || keyB b)))) μ := by rw [opB_tup, if_neg h1, if_pos h2] at q; exact q
              cases hk : keyB x with
              | false => rw [hk] at qq; exact ifT rfl qq
              | true =>
                rw [hk, Bool.true_and] at qq
                refine ifF rfl ?_
                simp only [dNext]
                refine r_var rfl ?_
                refine ix_tup (d := .str w) (atI_nat (j := 0) rfl) ?_
                refine eq_ss ?_
                rw [decide_eq_false h1, show (false != false) = false from rfl]
                refine r_var rfl ?_
                refine ix_tup (d := h) rfl ?_
                obtain ⟨vh, wh⟩ := wi h (by simp)
                refine ⟨h, m, rfl, vh, wh, ?_⟩
                cases hk2 : keyB h with
                | false => rw [hk2] at qq; exact qq
                | true =>
                  rw [hk2, Bool.true_and] at qq
                  refine r_var rfl ?_
                  refine ix_tup (d := b) rfl ?_
                  cases hb : isNon b with
                  | true => rw [hb] at qq; exact qq
                  | false =>
                    rw [hb, Bool.false_or] at qq
                    refine r_var rfl ?_
                    refine ix_tup (d := b) rfl ?_
                    obtain ⟨vb, wb⟩ := wi b (by simp)
                    exact ⟨b, m, rfl, vb, wb, qq⟩
            | _ :: _ :: _ :: _ :: z, _, _, _, q =>
              refine ifT (by simp; omega) (ifT rfl ?_)
              rw [opB_tup, if_neg h1, if_pos h2] at q; exact q
          · rw [if_neg h2]
            refine ifT rfl ?_
            rw [opB_tup, if_neg h1, if_neg h2] at q; exact q
      · have hs' : isStr e = false := by simpa using hs
        rw [hs']
        refine ifT rfl ?_
        refine ifT rfl ?_
        have : opB (.tup (e :: r)) = false := by cases e <;> first | rfl | cases hs'
        rw [this] at q; exact q
  · have ht' : isTup d = false := by simpa using ht
    rw [ht']
    rw [no ht'] at q
    refine ifT rfl ?_
    exact ifT rfl q
def sp_are_operations : DSp := fun ds μ Q _ => ∃ (d : SD) (m : Nat), ds = [d] ∧ okV m d ∧ wtV d ≤ 300000 ∧ Q (.bl (opsB d)) μ
theorem len_are_operations : ∀ ds μ Q E, sp_are_operations ds μ Q E → ds.length = 1 := by rintro ds μ Q E ⟨d, m, rfl, _⟩; rfl
def t_are_operations : DTS := (dSeq (dIfS (dOr (dNot (dTest (dCB drIsi (dCons (dVar 0) (dCons (dC (.ty "tuple")) dNil))))) (dTest (dOp dGt (dCB drLen (dCons (dVar 0) dNil)) (dC (.int 400))))) (dRet (dC (.bl false))) dNext)
    (dRet (dCB (drBls fun bs => bs.all _root_.id) (dCons (dLcS (jSeq (dVar 0)) (hName 1) dYes (dCall sp_is_operation [] (dCons (dVar 1) dNil)) [1]) dNil))))
theorem read_are_operations : ∀ ds μ Q E, sp_are_operations ds μ Q E → t_are_operations { nx := fun _ μ' => Q .non μ', rt := Q } (begin_ ["value", "operation"] ds) μ := by
  rintro ds μ Q E ⟨d, m, rfl, v, wt, q⟩
  unfold t_are_operations dLcS dLc
  refine r_var rfl ?_
  refine isi_tup v ?_
  have no : ∀ {d : SD}, isTup d = false → opsB d = false := fun {d} h => by cases d <;> first | rfl | cases h
  by_cases ht : isTup d = true
  · obtain ⟨xs, rfl⟩ : ∃ xs, d = .tup xs := by cases d <;> first | exact ⟨_, rfl⟩ | cases ht
    rw [okV] at v
    rw [wtV] at wt
    have ql : Q (.bl (decide (xs.length ≤ 400) && xs.all opB)) μ := q
    refine ifF rfl ?_
    refine r_var rfl ?_
    refine l_lenT ?_
    refine i_gt ?_
    by_cases hl : xs.length ≤ 400
    · refine ifF (by simp only [decide_eq_false_iff_not]; omega) ?_
      simp only [dNext]
      refine r_var rfl ?_
      refine lc_pure (zs := (xs.map opB).map SD.bl) rfl (by omega) (by simp) ?_ ?_
      · intro i d y hd hy R r
        rw [List.getElem?_map, List.getElem?_map, hd] at hy
        cases hy
        have hm := List.mem_of_getElem? hd
        refine r_var rfl ?_
        exact ⟨d, m, rfl, okVL_mem.mp v d hm, by have := wtVL_mem hm; omega, r⟩
      · refine bls_all ?_
        rw [decide_eq_true hl, Bool.true_and] at ql
        rw [List.all_map]; exact ql
    · refine ifT (by simp only [decide_eq_true_eq]; omega) ?_
      rw [decide_eq_false hl, Bool.false_and] at ql; exact ql
  · have ht' : isTup d = false := by simpa using ht
    rw [ht']
    rw [no ht'] at q
    exact ifT rfl q
theorem LowK.keyB {k : Str} (h : LowK k) : keyB (.str k) = true := by
  obtain ⟨h1, h2, h3⟩ := h
  rw [keyB_eq, decide_eq_true (show 1 ≤ k.length from h1), decide_eq_true (show k.length ≤ 8 from h2), Bool.true_and, Bool.true_and, List.all_eq_true]
  intro c hc
  obtain ⟨a, b⟩ := h3 c hc
  rw [decide_eq_true_eq]
  show c ∈ ("abcdefghijklmnopqrstuvwxyz" : Str).cps.toList
  rw [abc, List.mem_map]
  exact ⟨c - 97, List.mem_range.mpr (by omega), by omega⟩
theorem LowK.ok {k : Str} (h : LowK k) : KeyOk k := by
  obtain ⟨h1, h2, h3⟩ := h
  refine ⟨?_, by omega⟩
  unfold PyData.strOk
  rw [← Array.all_toList, List.all_eq_true]
  intro c hc
  have := h3 c hc
  simp; omega
theorem OpAll.mono {P R : Str → Prop} (h : ∀ k, P k → R k) {o : Op} (a : OpAll P o) : OpAll R o := by
  cases o with
  | create x k b => exact ⟨h _ a.1, h _ a.2.1, fun y e => h _ (a.2.2 y e)⟩
  | move x k b => exact ⟨h _ a.1, h _ a.2.1, fun y e => h _ (a.2.2 y e)⟩
  | remove x => exact h _ a
theorem ops_val {os : List Op} {n : Nat} (h : ∀ o ∈ os, OpAll LowK o) (hl : os.length ≤ n) : ValL 0 1 (n * 261) (os.map encO) :=
  ValL.of (fun d hd => by
    obtain ⟨o, ho, rfl⟩ := List.mem_map.mp hd
    exact op_val ((h o ho).mono fun _ => LowK.ok)) (by rw [List.length_map]; exact hl)
/-- moments -/
structure RunOk (r : Str) (m : Mo) (os : List Op) (ts : List T) (e : Mo) : Prop where
  ok : TOk m.t
  fo : Fo r m.f m.par m.t
  ch : Chain r m os ts e
  len : os.length ≤ 400
  low : ∀ o ∈ os, OpAll LowK o
  sz : ∀ t ∈ m.t :: ts, (pre t).length ≤ 900 ∧ dep t ≤ 70
/-- the first of what is left cannot be done -/
def Bad (r : Str) (e : Mo) (rest : List Op) : Prop := ∀ op r', rest = op :: r' → ¬ Poss r e.f e.t op
/-- what a run of any value does -/
def AnyRun (μ : Mu) (E : DXX) (d : SD) (r : Str) (m : Mo) (ret : List T → Mo → Mu → Prop) : Prop :=
  (opsB d = false → ∀ μ', Le μ μ' → E "BadOperations" [("value", d)] μ') ∧
  (opsB d = true → ∃ (os rest : List Op) (ts : List T) (e : Mo), d = .tup ((os ++ rest).map encO) ∧ RunOk r m os ts e ∧ (os ++ rest).length ≤ 400 ∧ (∀ o ∈ rest, OpAll LowK o) ∧ Bad r e rest ∧
    (rest = [] → ∀ μ', Le μ μ' → ret ts e μ') ∧ (rest ≠ [] → ∀ μ', Le μ μ' → E "Impossible" [("index", .int (os.length : Nat))] μ'))
def sp_moments : DSpX := fun ds μ Q E => ∃ (r : Str) (m : Mo) (d : SD) (n : Nat), ds = [enc m.t, d] ∧ okV n d ∧ wtV d ≤ 300000 ∧ AnyRun μ E d r m fun ts _ μ' => Q (.tup ((m.t :: ts).map enc)) μ'
theorem len_moments : ∀ ds μ Q E, sp_moments ds μ Q E → ds.length = 2 := by rintro ds μ Q E ⟨r, m, d, n, rfl, _⟩; rfl
def t_moments (Ex : DXX) : DTS := (dSeq (dIfS (dNot (dTest (dCall sp_are_operations [] (dCons (dVar 1) dNil)))) (dRaise "BadOperations" "value" Ex (dVar 1)) dNext)
    (dSeq (dPar 2 3 (dCons (dMkC "Places" sp_Places_init (dCons (dVar 0) dNil)) (dCons (dLstM (dCons (dVar 0) dNil)) dNil)))
    (dSeq (dFor (jEnumT (dCons (dVar 1) dNil)) (hTup 2 (hCons (hName 4) (hCons (hName 5) hNil))) (dSeq (dIfS (dNot (dTest (dMeth "Places" "is_possible" sp_Places_is_possible (dVar 2) (dCons (dVar 5) dNil)))) (dRaise "Impossible" "index" Ex (dVar 4)) dNext)
    (dSeq (dDrop (dMeth "Places" "execute" sp_Places_execute (dVar 2) (dCons (dVar 5) dNil)))
    (dDrop (dLM dmAppend (dVar 3) (dCons (dMeth0 "Places" "present_tree" sp_Places_present_tree (dVar 2)) dNil))))))
    (dRet (dCB drTuple (dCons (dVar 3) dNil))))))
theorem read_moments : ∀ ds μ Q E, sp_moments ds μ Q E → t_moments E { nx := fun _ μ' => Q .non μ', rt := Q } (begin_ ["tree", "operations", "places", "found", "index", "operation"] ds) μ := by
  rintro ds μ Q E ⟨r, m, dv, nv, rfl, okd, wtd, qF, qT⟩
  unfold t_moments
  refine r_var rfl ?_
  refine ⟨_, nv, rfl, okd, wtd, ?_⟩
  cases hb : opsB dv with
  | false =>
    refine ifT rfl ?_
    exact r_var rfl (qF hb μ (Le.refl μ))
  | true =>
  obtain ⟨os, rest, ts, e, rfl, R, hl4, rlow, bad, q, qE⟩ := qT hb
  have alow : ∀ o ∈ os ++ rest, OpAll LowK o := fun o ho => (List.mem_append.mp ho).elim (R.low o) (rlow o)
  refine ifF rfl ?_
  simp only [dNext]
  refine r_var rfl ?_
  refine fun a ha => ?_
  have hk := R.fo.key
  refine ⟨a, m.t, m.f, m.par, μ, rfl, rfl, ha, R.ok, by rw [hk]; exact R.fo, fun μ1 p c ad kp kc P => ⟨rfl, ?_⟩⟩
  rw [hk] at P
  refine r_var rfl ⟨(by show 1 ≤ sizeLine; decide), fun w hw => ?_⟩
  dsimp only
  have w0 : μ w = none := P.le.none hw
  have cl := R.ch.len
  unfold dFor
  refine r_var rfl ?_
  refine ⟨fun i ρ μ' => ∃ (m' : Mo) (ad : Str → Addr) (kp kc : List (Key × SD)) (a4 a5 : Option SD), ρ = [some (enc m.t), some (.tup ((os ++ rest).map encO)), some (.ref a), some (.ref w), a4, a5] ∧ i ≤ os.length ∧ Pl (up μ w (.lst ((m.t :: ts.take i).map enc))) μ' a p c ad kp kc r m'.f m'.par (pre m'.t) (pre m'.t) (1001 + 2 * i) ∧ Fo r m'.f m'.par m'.t ∧ Chain r m' (os.drop i) (ts.drop i) e ∧ (pre m'.t).length ≤ 900, ?_, fun _ _ _ _ _ => trivial, ?_, ?_⟩
  · exact ⟨m, ad, kp, kc, none, none, rfl, Nat.zero_le _, P.newq hw, R.fo, R.ch, (R.sz m.t (List.mem_cons_self ..)).1⟩
  · rintro i d ρ μ2 hd ⟨m', ad, kp, kc, a4, a5, rfl, hio, P2, o2, ch, hl⟩
    obtain ⟨y, hy, rfl⟩ := enums_at hd
    rw [List.getElem?_map] at hy
    cases eo : os[i]? with
    | none =>
      -- the first that cannot be done
      have ei : i = os.length := by have := List.getElem?_eq_none_iff.mp eo; omega
      subst ei
      rw [List.getElem?_append_right (Nat.le_refl _), Nat.sub_self] at hy
      cases er : rest with
      | nil => rw [er] at hy; cases hy
      | cons op r' =>
        rw [er] at hy; cases hy
        have em : m' = e := by
          rw [List.drop_length] at ch
          have := ch.len
          have z : ts.drop os.length = [] := List.drop_of_length_le (by omega)
          rw [z] at ch
          exact ch
        subst em
        have np := bad op r' er
        refine ⟨rfl, rfl, ?_⟩
        dsimp only
        refine r_var rfl ?_
        refine meth_ok P2.ho plF_m.2.2.2.1 ?_
        refine r_var rfl ?_
        refine ⟨_, a, p, c, ad, kp, kc, r, m'.f, m'.par, m'.t, _, op, rfl, P2, o2, by omega, fun z μ3 le hz => ?_⟩
        have hz : z = false := by
          cases z with
          | true => exact (np (hz.mp rfl)).elim
          | false => rfl
        subst hz
        refine ifT rfl ?_
        refine r_var rfl ?_
        have P3 := P2.mono le
        refine qE (by rw [er]; simp) _ (Le.trans (fun b o hb => ?_) P3.le)
        rw [up_ne (fun z => by subst z; rw [w0] at hb; cases hb)]; exact hb
    | some op =>
      have hlt := (List.getElem?_eq_some_iff.mp eo).1
      rw [List.getElem?_append_left hlt, eo] at hy; cases hy
      obtain ⟨hi, ei⟩ := List.getElem?_eq_some_iff.mp eo
      have hi2 : i < ts.length := by omega
      rw [List.drop_eq_getElem_cons hi, List.drop_eq_getElem_cons hi2, ei] at ch
      obtain ⟨ps, fo', ch'⟩ := ch
      obtain ⟨s1, s2⟩ := R.sz ts[i] (List.mem_cons_of_mem _ (List.getElem_mem hi2))
      have i400 := R.len
      refine ⟨rfl, rfl, ?_⟩
      dsimp only
      refine r_var rfl ?_
      refine meth_ok P2.ho plF_m.2.2.2.1 ?_
      refine r_var rfl ?_
      refine ⟨_, a, p, c, ad, kp, kc, r, m'.f, m'.par, m'.t, _, op, rfl, P2, o2, by omega, fun z μ3 le hz => ?_⟩
      have hz := hz.mpr ps
      subst hz
      have P3 := P2.mono le
      refine ifF rfl ?_
      simp only [dNext]
      refine r_var rfl ?_
      refine meth_ok P3.ho plF_m.2.2.2.2.1 ?_
      refine r_var rfl ?_
      refine ⟨_, a, p, c, ad, kp, kc, r, m'.f, m'.par, m'.t, _, op, rfl, P3, o2, ps, by omega, by omega, fun μ4 ad4 kp4 kc4 t4 P4 o4 => ?_⟩
      have et := o4.one fo'
      subst et
      dsimp only
      refine r_var rfl ?_
      have hw4 := P4.le w _ up_same
      refine ⟨isSome_ref hw4, ?_⟩
      refine r_var rfl ?_
      refine meth_ok P4.ho plF_m.2.2.2.2.2 ?_
      refine ⟨_, a, p, c, ad4, kp4, kc4, r, _, _, _, _, rfl, P4, o4, s2, by omega, ?_⟩
      refine dm_append hw4 (lt_line (m := 1000) (by simp; omega) (by omega)) ?_
      refine ⟨⟨_, _, ts[i]⟩, ad4, kp4, kc4, _, _, rfl, hlt, ?_, fo', ch', s1⟩
      have et : ts.take (i + 1) = ts.take i ++ [ts[i]] := by rw [List.take_succ, List.getElem?_eq_getElem hi2]; rfl
      rw [et, show 1001 + 2 * (i + 1) = 1001 + 2 * i + 2 by omega]
      rw [show (m.t :: (ts.take i ++ [ts[i]])).map enc = (m.t :: ts.take i).map enc ++ [enc ts[i]] by rw [← List.cons_append, List.map_append]; rfl]
      exact P4.upq
  · rintro ρ μ2 ⟨m', ad, kp, kc, a4, a5, rfl, hio, P2, o2, ch, hl⟩
    have el : (enums ((os ++ rest).map encO)).length = os.length + rest.length := by simp [enums]
    rw [el] at hio P2
    have er : rest = [] := List.length_eq_zero_iff.mp (by omega)
    have en : ts.take (os.length + rest.length) = ts := List.take_of_length_le (by omega)
    rw [en] at P2
    have hw2 := P2.le w _ up_same
    dsimp only
    refine r_var rfl ?_
    refine dr_tupleR hw2 ?_
    refine q er _ (Le.trans (fun b o hb => ?_) P2.le)
    rw [up_ne (fun z => by subst z; rw [w0] at hb; cases hb)]; exact hb
def sp_run : DSpX := fun ds μ Q E => ∃ (r : Str) (m : Mo) (d : SD) (n : Nat), ds = [enc m.t, d] ∧ okV n d ∧ wtV d ≤ 300000 ∧ AnyRun μ E d r m fun _ e μ' => Q (enc e.t) μ'
theorem len_run : ∀ ds μ Q E, sp_run ds μ Q E → ds.length = 2 := by rintro ds μ Q E ⟨r, m, d, n, rfl, _⟩; rfl
def t_run (Ex : DXX) : DTS := (dRet (dOp dIx (dCallX sp_moments [] Ex (dCons (dVar 0) (dCons (dVar 1) dNil))) (dUnI (fun i => -i) (dC (.int 1)))))
theorem read_run : ∀ ds μ Q E, sp_run ds μ Q E → t_run E { nx := fun _ μ' => Q .non μ', rt := Q } (begin_ ["tree", "operations"] ds) μ := by
  rintro ds μ Q E ⟨r, m, d, n, rfl, okd, wtd, qF, qT⟩
  unfold t_run
  refine r_var rfl ?_
  refine r_var rfl ?_
  refine ⟨r, m, d, n, rfl, okd, wtd, qF, fun hb => ?_⟩
  obtain ⟨os, rest, ts, e, ed, R, hl4, rlow, bad, q, qE⟩ := qT hb
  refine ⟨os, rest, ts, e, ed, R, hl4, rlow, bad, fun er μ' le => ?_, qE⟩
  obtain ⟨ys, hy⟩ := List.getLast?_eq_some_iff.mp R.ch.last
  refine ix_tup (d := enc e.t) ?_ (q er μ' le)
  rw [hy, List.map_append]
  exact atI_last _ _
theorem keyB_low {d : SD} (h : keyB d = true) : ∃ k, d = .str k ∧ LowK k := by
  obtain ⟨x, rfl⟩ := keyB_str h
  refine ⟨x, rfl, ?_⟩
  rw [keyB_eq, Bool.and_eq_true, Bool.and_eq_true, decide_eq_true_eq, decide_eq_true_eq, List.all_eq_true] at h
  obtain ⟨⟨h1, h2⟩, h3⟩ := h
  refine ⟨h1, h2, fun c hc => ?_⟩
  have := h3 c hc
  rw [decide_eq_true_eq] at this
  have this : c ∈ ("abcdefghijklmnopqrstuvwxyz" : Str).cps.toList := this
  rw [abc, List.mem_map] at this
  obtain ⟨i, hi, rfl⟩ := this
  have := List.mem_range.mp hi
  omega
theorem opB_inv {d : SD} (h : opB d = true) : ∃ o, d = encO o ∧ OpAll LowK o := by
  have shape : ∃ w xs, d = .tup (.str w :: xs) := by
    unfold opB at h
    split at h
    · exact ⟨_, _, rfl⟩
    · cases h
  obtain ⟨w, xs, rfl⟩ := shape
  rw [opB_tup] at h
  by_cases h1 : w = "remove"
  · rw [if_pos h1] at h
    subst h1
    match xs, h with
    | [x], h =>
      obtain ⟨k, rfl, lk⟩ := keyB_low h
      exact ⟨.remove k, rfl, lk⟩
    | [], h => cases h
    | _ :: _ :: _, h => cases h
  · rw [if_neg h1] at h
    by_cases h2 : w = "create" ∨ w = "move"
    · rw [if_pos h2] at h
      match xs, h with
      | [x, y, b], h =>
        have h : (keyB x && (keyB y && (isNon b || keyB b))) = true := h
        rw [Bool.and_eq_true, Bool.and_eq_true] at h
        obtain ⟨hx, hy, hb⟩ := h
        obtain ⟨kx, rfl, lx⟩ := keyB_low hx
        obtain ⟨ky, rfl, ly⟩ := keyB_low hy
        obtain ⟨bo, rfl, lb⟩ : ∃ bo : Option Str, b = optS bo ∧ ∀ y, bo = some y → LowK y := by
          cases hn : isNon b with
          | true =>
            have : b = .non := by cases b <;> first | rfl | cases hn
            exact ⟨none, this, fun y e => by cases e⟩
          | false =>
            rw [hn, Bool.false_or] at hb
            obtain ⟨k, rfl, lk⟩ := keyB_low hb
            exact ⟨some k, rfl, fun y e => by cases e; exact lk⟩
        rcases h2 with rfl | rfl
        · exact ⟨.create kx ky bo, rfl, lx, ly, lb⟩
        · exact ⟨.move kx ky bo, rfl, lx, ly, lb⟩
      | [], h => cases h
      | [_], h => cases h
      | [_, _], h => cases h
      | _ :: _ :: _ :: _ :: _, h => cases h
    · rw [if_neg h2] at h; cases h
theorem opsB_inv {d : SD} (h : opsB d = true) : ∃ os : List Op, d = .tup (os.map encO) ∧ os.length ≤ 400 ∧ ∀ o ∈ os, OpAll LowK o := by
  have shape : ∃ xs, d = .tup xs := by
    unfold opsB at h
    split at h
    · exact ⟨_, rfl⟩
    · cases h
  obtain ⟨xs, rfl⟩ := shape
  have h : (decide (xs.length ≤ 400) && xs.all opB) = true := h
  rw [Bool.and_eq_true, decide_eq_true_eq, List.all_eq_true] at h
  obtain ⟨hl, ha⟩ := h
  have : ∀ ys : List SD, (∀ d ∈ ys, opB d = true) → ∃ os : List Op, ys = os.map encO ∧ ∀ o ∈ os, OpAll LowK o := fun ys => by
    induction ys with
    | nil => exact fun _ => ⟨[], rfl, by simp⟩
    | cons y r ih =>
      intro hy
      obtain ⟨o, rfl, lo⟩ := opB_inv (hy y (List.mem_cons_self ..))
      obtain ⟨os, rfl, los⟩ := ih fun d hd => hy d (List.mem_cons_of_mem _ hd)
      exact ⟨o :: os, rfl, fun o' ho => (List.mem_cons.mp ho).elim (fun e => e ▸ lo) (los o')⟩
  obtain ⟨os, rfl, los⟩ := this xs ha
  exact ⟨os, rfl, by simpa using hl, los⟩
theorem split_ops {r : Str} {K : List Str} : ∀ (all : List Op) (m : Mo), Fo r m.f m.par m.t → (∀ k ∈ pre m.t, k ∈ K) → (∀ o ∈ all, o.key ∈ K) →
    ∃ (os rest : List Op) (ts : List T) (e : Mo), all = os ++ rest ∧ Chain r m os ts e ∧ Bad r e rest ∧ ∀ t ∈ m.t :: ts, (∀ k ∈ pre t, k ∈ K) ∧ (pre t).Nodup
  | [], m, o, hK, _ => ⟨[], [], [], m, rfl, rfl, fun op r' e => (by cases e), fun t ht => by rw [List.mem_singleton.mp ht]; exact ⟨hK, o.nd⟩⟩
  | op :: all, m, o, hK, ha => by
    by_cases ps : Poss r m.f m.t op
    · obtain ⟨t', o', s1, s2⟩ := o.step ps
      have hK' : ∀ k ∈ pre t', k ∈ K := fun k hk => by
        rcases s1 k hk with e | e
        · subst e; exact ha op (List.mem_cons_self ..)
        · exact hK k e
      obtain ⟨os, rest, ts, e, e1, ch, bad, hz⟩ := split_ops all ⟨stepF m.par m.f op, stepP m.par op, t'⟩ o' hK' fun o ho => ha o (List.mem_cons_of_mem _ ho)
      refine ⟨op :: os, rest, t' :: ts, e, by rw [e1]; rfl, ⟨ps, o', ch⟩, bad, fun t ht => ?_⟩
      rcases List.mem_cons.mp ht with rfl | ht
      · exact ⟨hK, o.nd⟩
      · exact hz t ht
    · exact ⟨[], op :: all, [], m, rfl, rfl, fun op' r' e => by cases e; exact ps, fun t ht => by rw [List.mem_singleton.mp ht]; exact ⟨hK, o.nd⟩⟩
/-- what run and moments do with any value -/
theorem any_run {μ : Mu} {E : DXX} {d : SD} {r : Str} {m : Mo} {ret : List T → Mo → Mu → Prop} {K : List Str} (ok : TOk m.t) (o : Fo r m.f m.par m.t) (hK : ∀ k ∈ pre m.t, k ∈ K) (kl : K.length ≤ 60) (ha : ∀ all : List Op, d = .tup (all.map encO) → ∀ o ∈ all, o.key ∈ K)
    (qF : opsB d = false → ∀ μ', Le μ μ' → E "BadOperations" [("value", d)] μ') (q : opsB d = true → ∀ ts e μ', Le μ μ' → ret ts e μ') (qE : opsB d = true → ∀ (i : Int) μ', Le μ μ' → E "Impossible" [("index", .int i)] μ') : AnyRun μ E d r m ret := by
  refine ⟨qF, fun hb => ?_⟩
  obtain ⟨all, rfl, hl, low⟩ := opsB_inv hb
  obtain ⟨os, rest, ts, e, rfl, ch, bad, hz⟩ := split_ops all m o hK (ha all rfl)
  refine ⟨os, rest, ts, e, rfl, ⟨ok, o, ch, by rw [List.length_append] at hl; omega, fun x hx => low x (List.mem_append_left _ hx), fun t ht => ?_⟩, hl, fun x hx => low x (List.mem_append_right _ hx), bad, fun _ μ' l => q hb _ _ μ' l, fun _ μ' l => qE hb _ μ' l⟩
  obtain ⟨h1, h2⟩ := hz t ht
  have h3 : (pre t).length ≤ K.length := len_sub h2 h1
  have := dep_len (dep t) (t := t) (Nat.le_refl _)
  exact ⟨by omega, by omega⟩
end LK
namespace LK
open PySem PySem.Spec PyProof.Rows L2 DS MA
def sp__law_is_deed : DSp := fun ds μ Q _ => ∃ (w : Str) (xs : List SD) (m : Nat), ds = [.tup (.str w :: xs)] ∧ okV m (.tup (.str w :: xs)) ∧ wtV (.tup (.str w :: xs)) ≤ 300000 ∧ Q (.bl (opB (.tup (.str w :: xs)))) μ
theorem len__law_is_deed : ∀ ds μ Q E, sp__law_is_deed ds μ Q E → ds.length = 1 := by rintro ds μ Q E ⟨w, xs, m, rfl, _⟩; rfl
def t__law_is_deed : DTS := (dSeq (dIfS (dOr (dNot (dTest (dCB drIsi (dCons (dVar 0) (dCons (dC (.ty "tuple")) dNil))))) (dOr (dTest (dOp dLt (dCB drLen (dCons (dVar 0) dNil)) (dC (.int 2)))) (dNot (dTest (dCall sp__law_is_key [] (dCons (dOp dIx (dVar 0) (dC (.int 1))) dNil)))))) (dRet (dC (.bl false))) dNext)
    (dSeq (dIfS (dTest (dOp (dEq false) (dOp dIx (dVar 0) (dC (.int 0))) (dC (.str "remove")))) (dRet (dOp (dEq false) (dCB drLen (dCons (dVar 0) dNil)) (dC (.int 2)))) dNext)
    (dSeq (dIfS (dOr (dTest (dOp (dIn true) (dOp dIx (dVar 0) (dC (.int 0))) (dTup (dCons (dC (.str "create")) (dCons (dC (.str "move")) dNil))))) (dOr (dTest (dOp (dEq true) (dCB drLen (dCons (dVar 0) dNil)) (dC (.int 4)))) (dNot (dTest (dCall sp__law_is_key [] (dCons (dOp dIx (dVar 0) (dC (.int 2))) dNil)))))) (dRet (dC (.bl false))) dNext)
    (dRet (dOrV (dIsN (dOp dIx (dVar 0) (dC (.int 3)))) (dCall sp__law_is_key [] (dCons (dOp dIx (dVar 0) (dC (.int 3))) dNil)))))))
theorem read__law_is_deed : ∀ ds μ Q E, sp__law_is_deed ds μ Q E → t__law_is_deed { nx := fun _ μ' => Q .non μ', rt := Q } (begin_ ["_law_thing"] ds) μ := by
  rintro ds μ Q E ⟨w, xs, m, rfl, v, wt, q⟩
  unfold t__law_is_deed
  refine r_var rfl ?_
  refine isi_tup v ?_
  refine ifF rfl ?_
  refine r_var rfl ?_
  refine l_lenT ?_
  refine i_lt ?_
  rw [okV] at v
  rw [wtV] at wt
  match xs, v, wt, q with
  | [], _, _, q =>
    refine ifT rfl (ifT rfl ?_)
    have : opB (.tup [.str w]) = false := by
      rw [opB_tup]
      by_cases h1 : w = "remove"
      · rw [if_pos h1]
      · rw [if_neg h1]; by_cases h2 : w = "create" ∨ w = "move"
        · rw [if_pos h2]
        · rw [if_neg h2]
    rw [this] at q; exact q
  | x :: r, v, wt, q =>
    have wi : ∀ y : SD, y ∈ .str w :: x :: r → okV m y ∧ wtV y ≤ 300000 := fun y hy => ⟨okVL_mem.mp v y hy, by have := wtVL_mem hy; omega⟩
    refine ifF (by simp only [decide_eq_false_iff_not, List.length_cons]; omega) ?_
    refine r_var rfl ?_
    refine ix_tup (d := x) (atI_nat (j := 1) rfl) ?_
    obtain ⟨vx, wx⟩ := wi x (by simp)
    refine ⟨x, m, rfl, vx, wx, ?_⟩
    cases hk : keyB x with
    | false =>
      refine ifT rfl ?_
      have : opB (.tup (.str w :: x :: r)) = false := by
        rw [opB_tup]
        by_cases h1 : w = "remove"
        · rw [if_pos h1]; cases r <;> simp [hk]
        · rw [if_neg h1]; by_cases h2 : w = "create" ∨ w = "move"
          · rw [if_pos h2]
            match r with
            | [] => rfl
            | [_] => rfl
            | [_, _] => simp [hk]
            | _ :: _ :: _ :: _ => rfl
          · rw [if_neg h2]
      rw [this] at q; exact q
    | true =>
      refine ifF rfl ?_
      simp only [dNext]
      refine r_var rfl ?_
      refine ix_tup (d := .str w) (atI_nat (j := 0) rfl) ?_
      refine eq_ss ?_
      rw [Bool.false_bne]
      by_cases h1 : w = "remove"
      · rw [decide_eq_true h1]
        refine ifT rfl ?_
        refine r_var rfl ?_
        refine l_lenT ?_
        refine i_eq ?_
        rw [opB_tup, if_pos h1] at q
        cases r with
        | nil =>
          have qq : Q (.bl (keyB x)) μ := q
          rw [hk] at qq; exact qq
        | cons y r =>
          rw [decide_eq_false (by simp only [List.length_cons]; omega)]; exact q
      · rw [decide_eq_false h1]
        refine ifF rfl ?_
        simp only [dNext]
        refine r_var rfl ?_
        refine ix_tup (d := .str w) (atI_nat (j := 0) rfl) ?_
        refine ⟨(by show 2 ≤ sizeLine; decide), ?_⟩
        refine in_sts (l := ["create", "move"]) rfl (fun _ z => by cases z) ?_
        rw [Bool.true_bne]
        rw [opB_tup, if_neg h1] at q
        by_cases h2 : w = "create" ∨ w = "move"
        · rw [if_pos h2] at q
          rw [decide_eq_true (show w ∈ (["create", "move"] : List Str) by simpa using h2)]
          refine ifF rfl ?_
          refine r_var rfl ?_
          refine l_lenT ?_
          refine i_ne ?_
          match r, v, wt, wi, q with
          | [], _, _, _, q => exact ifT rfl (ifT rfl q)
          | [_], _, _, _, q => exact ifT rfl (ifT rfl q)
          | [h, b], v, wt, wi, q =>
            refine ifF rfl ?_
            refine r_var rfl ?_
            refine ix_tup (d := h) rfl ?_
            obtain ⟨vh, wh⟩ := wi h (by simp)
            refine ⟨h, m, rfl, vh, wh, ?_⟩
            have qq : Q (.bl (keyB x && (keyB h && (isNon b || keyB b)))) μ := q
            rw [hk, Bool.true_and] at qq
            cases hk2 : keyB h with
            | false => rw [hk2] at qq; exact ifT rfl qq
            | true =>
              rw [hk2, Bool.true_and] at qq
              refine ifF rfl ?_
              simp only [dNext]
              refine r_var rfl ?_
              refine ix_tup (d := b) rfl ?_
              cases hb : isNon b with
              | true => rw [hb] at qq; exact qq
              | false =>
                rw [hb, Bool.false_or] at qq
                refine r_var rfl ?_
                refine ix_tup (d := b) rfl ?_
                obtain ⟨vb, wb⟩ := wi b (by simp)
                exact ⟨b, m, rfl, vb, wb, qq⟩
          | _ :: _ :: _ :: z, _, _, _, q =>
            refine ifT (by simp; omega) ?_
            exact ifT rfl q
        · rw [if_neg h2] at q
          rw [decide_eq_false (show ¬ w ∈ (["create", "move"] : List Str) by simpa using h2)]
          exact ifT rfl (ifT rfl q)
def sp__law_are_deeds : DSp := fun ds μ Q _ => ∃ (d : SD) (m : Nat), ds = [d] ∧ okV m d ∧ wtV d ≤ 300000 ∧ Q (.bl (opsB d)) μ
theorem len__law_are_deeds : ∀ ds μ Q E, sp__law_are_deeds ds μ Q E → ds.length = 1 := by rintro ds μ Q E ⟨d, m, rfl, _⟩; rfl
def t__law_are_deeds : DTS := (dSeq (dIfS (dOr (dNot (dTest (dCB drIsi (dCons (dVar 0) (dCons (dC (.ty "tuple")) dNil))))) (dTest (dOp dGt (dCB drLen (dCons (dVar 0) dNil)) (dC (.int 400))))) (dRet (dC (.bl false))) dNext)
    (dSeq (dFor (jSeq (dVar 0)) (hName 1) (dIfS (dOr (dNot (dTest (dCB drIsi (dCons (dVar 1) (dCons (dC (.ty "tuple")) dNil))))) (dOr (dTest (dOp (dT0 false) (dVar 1) (dTup dNil))) (dOr (dNot (dTest (dCB drIsi (dCons (dOp dIx (dVar 1) (dC (.int 0))) (dCons (dC (.ty "str")) dNil))))) (dNot (dTest (dCall sp__law_is_deed [] (dCons (dVar 1) dNil))))))) (dRet (dC (.bl false))) dNext))
    (dRet (dC (.bl true)))))
theorem read__law_are_deeds : ∀ ds μ Q E, sp__law_are_deeds ds μ Q E → t__law_are_deeds { nx := fun _ μ' => Q .non μ', rt := Q } (begin_ ["_law_thing", "_law_one"] ds) μ := by
  rintro ds μ Q E ⟨d, m, rfl, v, wt, q⟩
  unfold t__law_are_deeds dFor
  refine r_var rfl ?_
  refine isi_tup v ?_
  have no : ∀ {d : SD}, isTup d = false → opsB d = false := fun {d} h => by cases d <;> first | rfl | cases h
  by_cases ht : isTup d = true
  · obtain ⟨xs, rfl⟩ : ∃ xs, d = .tup xs := by cases d <;> first | exact ⟨_, rfl⟩ | cases ht
    rw [okV] at v
    rw [wtV] at wt
    have ql : Q (.bl (decide (xs.length ≤ 400) && xs.all opB)) μ := q
    refine ifF rfl ?_
    refine r_var rfl ?_
    refine l_lenT ?_
    refine i_gt ?_
    by_cases hl : xs.length ≤ 400
    · rw [decide_eq_true hl, Bool.true_and] at ql
      refine ifF (by simp only [decide_eq_false_iff_not]; omega) ?_
      simp only [dNext]
      refine r_var rfl ?_
      refine ⟨fun i ρ μ' => (∃ a, ρ = [some (.tup xs), a]) ∧ μ' = μ ∧ (xs.take i).all opB = true, ⟨⟨none, rfl⟩, rfl, by rw [List.take_zero]; rfl⟩, fun _ _ _ _ _ => rfl, ?_, ?_⟩
      · rintro i y ρ μ' hy ⟨⟨a, rfl⟩, rfl, hall⟩
        have hm := List.mem_of_getElem? hy
        have vy := okVL_mem.mp v y hm
        have wy : wtV y ≤ 300000 := by have := wtVL_mem hm; omega
        have bad : opB y = false → Q (.bl false) μ' := fun hb => by
          have : xs.all opB = false := by
            rw [List.all_eq_false]
            exact ⟨y, hm, by rw [hb]; decide⟩
          rw [this] at ql; exact ql
        have good : opB y = true → (xs.take (i + 1)).all opB = true := fun hb => by
          rw [List.take_succ, hy, List.all_append, hall]
          simp [hb]
        dsimp only [List.set_cons_zero, List.set_cons_succ]
        refine r_var rfl ?_
        refine isi_tup vy ?_
        have no1 : ∀ {d : SD}, isTup d = false → opB d = false := fun {d} h => by cases d <;> first | rfl | cases h
        cases hty : isTup y with
        | false => exact ifT rfl (ifT rfl (bad (no1 hty)))
        | true =>
          obtain ⟨ys, rfl⟩ : ∃ ys, y = .tup ys := by cases y <;> first | exact ⟨_, rfl⟩ | cases hty
          refine ifF rfl ?_
          refine r_var rfl ?_
          refine ⟨Nat.zero_le _, ?_⟩
          refine ne_t0 ?_
          match ys, vy, wy, bad, good with
          | [], _, _, bad, _ => exact ifT rfl (ifT rfl (bad rfl))
          | e :: r, vy, wy, bad, good =>
            refine ifF rfl ?_
            refine r_var rfl ?_
            refine ix_tup (d := e) (atI_nat (j := 0) rfl) ?_
            have vy' := vy
            rw [okV, okVL] at vy'
            refine isi_str vy'.1 ?_
            cases hs : isStr e with
            | false =>
              refine ifT rfl (ifT rfl (bad ?_))
              cases e <;> first | rfl | cases hs
            | true =>
              obtain ⟨w, rfl⟩ : ∃ w, e = .str w := by cases e <;> first | exact ⟨_, rfl⟩ | cases hs
              refine ifF rfl ?_
              refine r_var rfl ?_
              refine ⟨w, r, m, rfl, vy, wy, ?_⟩
              cases hb : opB (.tup (.str w :: r)) with
              | false => exact ifT rfl (bad hb)
              | true =>
                refine ifF rfl ?_
                simp only [dNext]
                exact ⟨⟨_, rfl⟩, trivial, good hb⟩
      · rintro ρ μ' ⟨⟨a, rfl⟩, rfl, hall⟩
        rw [List.take_length] at hall
        rw [hall] at ql
        exact ql
    · refine ifT (by simp only [decide_eq_true_eq]; omega) ?_
      rw [decide_eq_false hl, Bool.false_and] at ql; exact ql
  · have ht' : isTup d = false := by simpa using ht
    rw [ht']
    rw [no ht'] at q
    exact ifT rfl (ifT rfl q)
def sp__law_drawn : DSp := fun ds μ Q _ => ∃ (h : Addr) (T : Nat) (names : List Str), ds = [.ref h, .lst (sts names)] ∧ names ≠ [] ∧ names.length ≤ 1000 ∧ HandAt μ h T ∧ T ≤ 900000000 ∧ ∀ op μ', OpAll (fun k => k ∈ names) op → HandAt μ' h (T + 5) → LeX h μ μ' → Q (encO op) μ'
theorem len__law_drawn : ∀ ds μ Q E, sp__law_drawn ds μ Q E → ds.length = 2 := by rintro ds μ Q E ⟨h, T, names, rfl, _⟩; rfl
def t__law_drawn : DTS := (dSeq (dPar 2 3 (dCons (dCall sp__law_of [] (dCons (dVar 0) (dCons (dLst (dCons (dC (.str "create")) (dCons (dC (.str "move")) (dCons (dC (.str "move")) (dCons (dC (.str "remove")) dNil))))) dNil))) (dCons (dCall sp__law_of [] (dCons (dVar 0) (dCons (dLst (dCons (dC .non) (dCons (dCall sp__law_of [] (dCons (dVar 0) (dCons (dVar 1) dNil))) dNil))) dNil))) dNil)))
    (dRet (dSl (dTup (dCons (dVar 2) (dCons (dCall sp__law_of [] (dCons (dVar 0) (dCons (dVar 1) dNil))) (dCons (dCall sp__law_of [] (dCons (dVar 0) (dCons (dVar 1) dNil))) (dCons (dVar 3) dNil))))) dNoPart (dPart (dOp dAdd (dC (.int 2)) (dOp dMul (dC (.int 2)) (dCB drInt (dCons (dOp (dEq true) (dVar 2) (dC (.str "remove"))) dNil))))))))
theorem read__law_drawn : ∀ ds μ Q E, sp__law_drawn ds μ Q E → t__law_drawn { nx := fun _ μ' => Q .non μ', rt := Q } (begin_ ["_law_hand_here", "_law_names", "_law_word", "_law_before"] ds) μ := by
  rintro ds μ Q E ⟨h, T, names, rfl, ne, nl, H, hT, q⟩
  unfold t__law_drawn
  have sne : sts names ≠ [] := fun z => ne (by simpa [sts] using z)
  have sl : (sts names).length = names.length := by simp [sts]
  refine r_var rfl ?_
  refine ⟨(by show 4 ≤ sizeLine; decide), ?_⟩
  refine ⟨h, _, _, T, rfl, .inl rfl, by simp, (by show 4 ≤ 1000000; decide), by omega, H, fun j d μ1 hd H1 l1 => ?_⟩
  refine r_var rfl ?_
  refine r_var rfl ?_
  refine r_var rfl ?_
  refine ⟨h, _, _, T + 1, rfl, .inl rfl, sne, by rw [sl]; omega, by omega, H1, fun j1 d1 μ2 hd1 H2 l2 => ?_⟩
  obtain ⟨b0, hb0, rfl⟩ := List.mem_map.mp (List.mem_of_getElem? hd1)
  refine ⟨(by show 2 ≤ sizeLine; decide), ?_⟩
  refine ⟨h, _, _, T + 2, rfl, .inl rfl, by simp, (by show 2 ≤ 1000000; decide), by omega, H2, fun j2 d2 μ3 hd2 H3 l3 => ?_⟩
  obtain ⟨b, rfl, hb⟩ : ∃ b : Option Str, d2 = optS b ∧ ∀ y, b = some y → y ∈ names := by
    have := List.mem_of_getElem? hd2
    simp only [List.mem_cons, List.not_mem_nil, or_false] at this
    rcases this with rfl | rfl
    · exact ⟨none, rfl, fun y e => by cases e⟩
    · exact ⟨some b0, rfl, fun y e => by cases e; exact hb0⟩
  dsimp only [List.set_cons_zero, List.set_cons_succ]
  refine r_var (i := 2) rfl ?_
  refine r_var rfl ?_
  refine r_var rfl ?_
  refine ⟨h, _, _, T + 3, rfl, .inl rfl, sne, by rw [sl]; omega, by omega, H3, fun j3 d3 μ4 hd3 H4 l4 => ?_⟩
  obtain ⟨x, hx, rfl⟩ := List.mem_map.mp (List.mem_of_getElem? hd3)
  refine r_var rfl ?_
  refine r_var rfl ?_
  refine ⟨h, _, _, T + 4, rfl, .inl rfl, sne, by rw [sl]; omega, by omega, H4, fun j4 d4 μ5 hd4 H5 l5 => ?_⟩
  obtain ⟨y, hy, rfl⟩ := List.mem_map.mp (List.mem_of_getElem? hd4)
  refine r_var (i := 3) rfl ?_
  refine ⟨(by show 4 ≤ sizeLine; decide), ?_⟩
  have lx := (((l1.trans l2).trans l3).trans l4).trans l5
  have cut : ∀ (w : Str) (R : SD → Mu → Prop), (w = "create" ∨ w = "move" → R (.tup [.str w, .str x, .str y, optS b]) μ5) → (w = "remove" → R (.tup [.str w, .str x]) μ5) → (w = "create" ∨ w = "move" ∨ w = "remove") →
      dPart (dOp dAdd (dC (.int 2)) (dOp dMul (dC (.int 2)) (dCB drInt (dCons (dOp (dEq true) (dVar 2) (dC (.str "remove"))) dNil)))) [some (.ref h), some (.lst (sts names)), some (.str w), some (optS b)] μ5 fun o μ6 => drSl (.tup [.str w, .str x, .str y, optS b]) none o μ6 R := fun w R h1 h2 hw => by
    refine r_var rfl ?_
    refine eq_ss ?_
    rcases hw with rfl | rfl | rfl
    · rw [show (true != decide (Str.ofString "create" = Str.ofString "remove")) = true from by decide]
      exact ⟨mul_okS (by decide) (by decide), h1 (.inl rfl)⟩
    · rw [show (true != decide (Str.ofString "move" = Str.ofString "remove")) = true from by decide]
      exact ⟨mul_okS (by decide) (by decide), h1 (.inr rfl)⟩
    · rw [show (true != decide (Str.ofString "remove" = Str.ofString "remove")) = false from by decide]
      exact ⟨mul_okS (by decide) (by decide), h2 rfl⟩
  have words : ∃ w : Str, d = .str w ∧ (w = "create" ∨ w = "move" ∨ w = "remove") := by
    have := List.mem_of_getElem? hd
    simp only [List.mem_cons, List.not_mem_nil, or_false] at this
    rcases this with rfl | rfl | rfl | rfl
    · exact ⟨_, rfl, .inl rfl⟩
    · exact ⟨_, rfl, .inr (.inl rfl)⟩
    · exact ⟨_, rfl, .inr (.inl rfl)⟩
    · exact ⟨_, rfl, .inr (.inr rfl)⟩
  obtain ⟨w, rfl, hw⟩ := words
  refine cut w Q (fun hw => ?_) (fun hw => ?_) hw
  · rcases hw with rfl | rfl
    · exact q (.create x y b) μ5 ⟨hx, hy, hb⟩ H5 lx
    · exact q (.move x y b) μ5 ⟨hx, hy, hb⟩ H5 lx
  · subst hw
    exact q (.remove x) μ5 hx H5 lx
def xnames : List Str := ["NoElement", "BadOperations", "Impossible"]
def sp__law_told : DTH → Mu → (SD → Mu → Prop) → Prop := fun th μ Q => ∀ (Q1 : SD → Mu → Prop) (E1 : DXX), (∀ d μ1, Q (.lst []) μ1 → Q1 d μ1) → (∀ (x : Str) (fs : List (Str × SD)) (μ1 : Mu), (∃ v, x = "Impossible" ∧ fs = [(("index" : Str), v)] ∧ Q (.lst []) μ1) ∨ (∃ v, x = "BadOperations" ∧ fs = [(("value" : Str), v)] ∧ Q (.lst [v]) μ1) → E1 x fs μ1) → th μ Q1 E1
def t__law_told (f : Addr) (th : DTH) : DTS := (dSeq (dSet (dC .non) 1)
    (dSeq (dTryE f th (kX xnames "KeyedError") 2 1)
    (dSeq (dIfS (dOr (dTest (dIsN (dVar 1))) (dTest (dIsX (kX xnames "Impossible") (dVar 1)))) (dRet (dLst dNil)) dNext)
    (dRet (dIf (dAnd (dTest (dIsX (kX xnames "BadOperations") (dVar 1))) (dNot (dTest (dIsX (kX xnames "NoElement") (dVar 1))))) (dLst (dCons (dFld "value" (dVar 1)) dNil)) (dC (.str "other")))))))
theorem isX_ok {ρ : Rho} {μ : Mu} {i : Nat} {c x : Str} {fs : List (Str × SD)} {b : Bool} {Q : SD → Mu → Prop} (h : ρ[i]? = some (some (.exc x fs))) (k : kX xnames c x = some b) (q : Q (.bl b) μ) : dIsX (kX xnames c) (dVar i) ρ μ Q := by
  refine r_var h ?_
  unfold DS.isQ
  simp only [k]
  exact q
theorem fld_ok {ρ : Rho} {μ : Mu} {i : Nat} {f x : Str} {fs : List (Str × SD)} {v : SD} {Q : SD → Mu → Prop} (h : ρ[i]? = some (some (.exc x fs))) (k : fs.lookup f = some v) (q : Q v μ) : dFld f (dVar i) ρ μ Q := by
  refine r_var h ?_
  simp only [k]
  exact q
theorem read__law_told : ∀ f th μ Q, sp__law_told th μ Q → t__law_told f th { nx := fun _ μ' => Q .non μ', rt := Q } (begin_ ["_law_ask", "_law_caught", "error"] [.ref f]) μ := by
  intro f th μ Q h
  unfold t__law_told
  refine ⟨⟨rfl, (by show 2 < 3; decide)⟩, ?_⟩
  refine h _ _ (fun d μ1 q => ?_) fun x fs μ1 q => ?_
  · dsimp only [List.set_cons_zero, List.set_cons_succ]
    refine r_var (i := 1) rfl ?_
    first | exact ifT rfl (ifT rfl ⟨Nat.zero_le _, q⟩) | exact ifT rfl ⟨Nat.zero_le _, q⟩
  · rcases q with ⟨v, rfl, rfl, q⟩ | ⟨v, rfl, rfl, q⟩
    · refine ⟨by decide +kernel, ?_⟩
      dsimp only [List.set_cons_zero, List.set_cons_succ]
      refine r_var (i := 1) rfl ?_
      refine ifF rfl ?_
      refine isX_ok (i := 1) rfl (b := true) (by decide +kernel) ?_
      first | exact ifT rfl (ifT rfl ⟨Nat.zero_le _, q⟩) | exact ifT rfl ⟨Nat.zero_le _, q⟩
    · refine ⟨by decide +kernel, ?_⟩
      dsimp only [List.set_cons_zero, List.set_cons_succ]
      refine r_var (i := 1) rfl ?_
      refine ifF rfl ?_
      refine isX_ok (i := 1) rfl (b := false) (by decide +kernel) ?_
      refine ifF rfl ?_
      simp only [dNext]
      refine isX_ok (i := 1) rfl (b := true) (by decide +kernel) ?_
      refine ifT rfl ?_
      refine isX_ok (i := 1) rfl (b := false) (by decide +kernel) ?_
      refine ifT rfl ?_
      exact fld_ok (i := 1) rfl rfl ⟨(by show 1 ≤ sizeLine; decide), q⟩
end LK
namespace LK
open PySem PySem.Spec PyProof.Rows L2 DS MA
def keyOf : SD → Str
  | .tup (_ :: .str k :: _) => k
  | _ => ""
theorem keyOf_enc (o : Op) : keyOf (encO o) = o.key := by cases o <;> rfl
/-- the keys that operations of d may have lie within few -/
def KOk (d : SD) (pt : List Str) : Prop := ∃ K : List Str, K.length ≤ 60 ∧ (∀ k ∈ pt, k ∈ K) ∧ ∀ all : List Op, d = .tup (all.map encO) → ∀ o ∈ all, o.key ∈ K
theorem kok_len {d : SD} {pt : List Str} (h : tlen d ≤ 40) (hp : pt.length ≤ 10) : KOk d pt := by
  refine ⟨pt ++ (match d with
    | .tup xs => xs.map keyOf
    | _ => []), ?_, fun k hk => List.mem_append_left _ hk, fun all e o ho => ?_⟩
  · rw [List.length_append]
    cases d <;> first | (show _ + (List.map keyOf _).length ≤ 60; rw [List.length_map]; simp only [tlen] at h; omega) | (show _ + 0 ≤ 60; omega)
  · subst e
    refine List.mem_append_right _ ?_
    show o.key ∈ (all.map encO).map keyOf
    rw [List.map_map]
    exact List.mem_map.mpr ⟨o, ho, keyOf_enc o⟩
theorem kok_rem {pt : List Str} {k : Str} {n : Nat} (hk : k ∈ pt) (hp : pt.length ≤ 10) : KOk (.tup (List.replicate n (encO (.remove k)))) pt := by
  refine ⟨pt, by omega, fun k hk => hk, fun all e o ho => ?_⟩
  have e : List.replicate n (encO (.remove k)) = all.map encO := by injection e
  have h1 : encO o ∈ List.replicate n (encO (.remove k)) := by rw [e]; exact List.mem_map_of_mem ho
  have h2 := (List.mem_replicate.mp h1).2
  have h3 := keyOf_enc o
  rw [h2] at h3
  have : k = o.key := h3
  rw [← this]; exact hk
/-- what is asked of a thing -/
structure Thing (pt : List Str) (d : SD) : Prop where
  v : Val 4 30 40000 d
  k : KOk d pt
/-- the tree -/
def p4T (a b c : Str) : MA.T := .node a [.node b [], .node c []]
def p4F (a b c k : Str) : List Str := if k = a then [b, c] else []
def p4P (a b c k : Str) : Option Str := if k = b ∨ k = c then some a else none
theorem p4T_pre (a b c : Str) : pre (p4T a b c) = [a, b, c] := rfl
theorem p4T_fo {a b c : Str} (h1 : a ≠ b) (h2 : a ≠ c) (h3 : b ≠ c) : Fo a (p4F a b c) (p4P a b c) (p4T a b c) := by
  refine ⟨rfl, ?_, ?_, ?_, ?_⟩
  · refine ⟨by simp [p4F, T.key], ⟨by simp [p4F, Ne.symm h1], trivial⟩, ⟨by simp [p4F, Ne.symm h2], trivial⟩, trivial⟩
  · rw [p4T_pre]; simp [h1, h2, h3]
  · intro k hk x hx
    unfold p4F at hx
    split at hx
    · rename_i e
      subst e
      unfold p4P
      rw [if_pos (by simpa using hx)]
    · cases hx
  · unfold p4P; rw [if_neg (by simp [h1, h2])]
theorem p4T_ok {a b c : Str} (ha : KeyOk a) (hb : KeyOk b) (hc : KeyOk c) : TOk (p4T a b c) :=
  ⟨by rw [p4T_pre]; show 3 ≤ 1000; decide, by show 2 ≤ 30; decide, fun k hk => by
    rw [p4T_pre] at hk
    simp only [List.mem_cons, List.not_mem_nil, or_false] at hk
    rcases hk with rfl | rfl | rfl
    · exact ha
    · exact hb
    · exact hc⟩
section
variable {ρ : Rho} {μ : Mu} {P : Addr} {r : Str} {m : Mo} {Q : SD → Mu → Prop} {d : SD}
def dueD (d : SD) : SD := if opsB d then .lst [] else .lst [d]
theorem askRun04 (tab : μ P = some (.tab P "_law_right" "_law_right.<locals>.<lambda>")) (r3 : ρ[3]? = some (some (enc m.t))) (r6 : ρ[6]? = some (some d)) (ok : TOk m.t) (o : Fo r m.f m.par m.t) (th : Thing (pre m.t) d) (q : ∀ μ', Le μ μ' → Q (dueD d) μ') :
    dLam "_law_right" "_law_right.<locals>.<lambda>" sp__law_told (fun Ex => (dCallX sp_run [] Ex (dCons (dVar 3) (dCons (dVar 6) dNil)))) ρ μ Q := by
  refine ⟨P, tab, fun Q1 E1 h1 h2 => ?_⟩
  refine r_var r3 ?_
  refine r_var r6 ?_
  obtain ⟨K, kl, hK, ha⟩ := th.k
  have qT : opsB d = true → ∀ μ', Le μ μ' → Q (.lst []) μ' := fun hb μ' l => by have := q μ' l; unfold dueD at this; rwa [if_pos hb] at this
  have qF : opsB d = false → ∀ μ', Le μ μ' → Q (.lst [d]) μ' := fun hb μ' l => by have := q μ' l; unfold dueD at this; rwa [if_neg (by rw [hb]; decide)] at this
  exact ⟨r, m, d, 4, rfl, th.v.ok, Nat.le_trans th.v.wt (by decide), any_run ok o hK kl ha (fun hb μ' l => h2 _ _ _ (.inr ⟨d, rfl, rfl, qF hb μ' l⟩)) (fun hb _ _ μ' l => h1 _ _ (qT hb μ' l)) (fun hb i μ' l => h2 _ _ _ (.inl ⟨.int i, rfl, rfl, qT hb μ' l⟩))⟩
theorem askMo04 (tab : μ P = some (.tab P "_law_right" "_law_right.<locals>.<lambda>")) (r3 : ρ[3]? = some (some (enc m.t))) (r6 : ρ[6]? = some (some d)) (ok : TOk m.t) (o : Fo r m.f m.par m.t) (th : Thing (pre m.t) d) (q : ∀ μ', Le μ μ' → Q (dueD d) μ') :
    dLam "_law_right" "_law_right.<locals>.<lambda>" sp__law_told (fun Ex => (dCallX sp_moments [] Ex (dCons (dVar 3) (dCons (dVar 6) dNil)))) ρ μ Q := by
  refine ⟨P, tab, fun Q1 E1 h1 h2 => ?_⟩
  refine r_var r3 ?_
  refine r_var r6 ?_
  obtain ⟨K, kl, hK, ha⟩ := th.k
  have qT : opsB d = true → ∀ μ', Le μ μ' → Q (.lst []) μ' := fun hb μ' l => by have := q μ' l; unfold dueD at this; rwa [if_pos hb] at this
  have qF : opsB d = false → ∀ μ', Le μ μ' → Q (.lst [d]) μ' := fun hb μ' l => by have := q μ' l; unfold dueD at this; rwa [if_neg (by rw [hb]; decide)] at this
  exact ⟨r, m, d, 4, rfl, th.v.ok, Nat.le_trans th.v.wt (by decide), any_run ok o hK kl ha (fun hb μ' l => h2 _ _ _ (.inr ⟨d, rfl, rfl, qF hb μ' l⟩)) (fun hb _ _ μ' l => h1 _ _ (qT hb μ' l)) (fun hb i μ' l => h2 _ _ _ (.inl ⟨.int i, rfl, rfl, qT hb μ' l⟩))⟩
theorem r_reprQR04 {m D B : Nat} {a : Addr} {xs : List SD} (e : μ a = some (.lst xs)) (v : Val m D B (.lst xs)) (hm : m ≤ 10 ^ 20) (hD : D ≤ 64) (hB : B ≤ 250000) (q : Q (.str (shw (.lst xs))) μ) : drReprQ [.ref a] μ Q := by
  have h := r_reprQ v hm hD hB q
  have e2 : pq μ (.ref a) = pq μ (.lst xs) := by simp [pq, e, pqS]
  unfold drReprQ at h ⊢
  simp only [e2]
  exact h
theorem dueD_val (v : Val 4 30 40000 d) : Val 4 31 40010 (dueD d) := by
  unfold dueD
  split
  · exact (Val.lst ValL.nil).mono (by omega) (by omega) (by omega)
  · exact (Val.lst (ValL.one v)).mono (Nat.le_refl _) (Nat.le_refl _) (by omega)
end
end LK
namespace LK
open PySem PySem.Spec PyProof.Rows L2 DS MA
def Lam04 (μ : Mu) : Prop := ∃ P, μ P = some (.tab P "_law_right" "_law_right.<locals>.<lambda>")
theorem Lam04.le {μ μ' : Mu} (h : Lam04 μ) (l : Le μ μ') : Lam04 μ' := let ⟨P, e⟩ := h; ⟨P, l _ _ e⟩
theorem Lam04.lex {μ μ' : Mu} {h : Addr} {T : Nat} (L : Lam04 μ) (H : HandAt μ h T) (l : LeX h μ μ') : Lam04 μ' := by
  obtain ⟨P, e⟩ := L
  refine ⟨P, l _ _ (fun z => ?_) e⟩
  obtain ⟨g, m, t, e2, _⟩ := H.ex
  rw [z, e2] at e; cases e
theorem all_true {μ : Mu} {Q : SD → Mu → Prop} {n : Nat} (q : Q (.bl true) μ) : drBls (fun bs => bs.all _root_.id) [.lst ((List.replicate n true).map SD.bl)] μ Q := by
  unfold drBls
  simp only [lstD, blsOf_map]
  have : (List.replicate n true).all _root_.id = true := by rw [List.all_eq_true]; intro x hx; rw [(List.mem_replicate.mp hx).2]; rfl
  rw [this]; exact q
theorem rep_snoc {i : Nat} : (List.replicate (i + 1) true).map SD.bl = (List.replicate i true).map SD.bl ++ [.bl true] := by
  rw [List.replicate_succ', List.map_append]; rfl
theorem i_min {μ : Mu} {Q : SD → Mu → Prop} {m n : Int} (q : Q (.int (if n < m then n else m)) μ) : drI2 (fun i j => if j < i then j else i) [.int m, .int n] μ Q := q
theorem i_max {μ : Mu} {Q : SD → Mu → Prop} {m n : Int} (q : Q (.int (if n > m then n else m)) μ) : drI2 (fun i j => if j > i then j else i) [.int m, .int n] μ Q := q
theorem noneX04 {h w : Addr} {μ μ1 : Mu} (l : LeX h μ μ1) (n : w ≠ h) (e : μ1 w = none) : μ w = none := by
  cases z : μ w with
  | none => rfl
  | some m => rw [l w m n z] at e; cases e
theorem ref_add04 {μ : Mu} {Q : SD → Mu → Prop} {a : Addr} {xs ys : List SD} (m : μ a = some (.lst xs)) (l : xs.length + ys.length ≤ sizeLine) (q : Q (.lst (xs ++ ys)) μ) : dAdd (.ref a) (.lst ys) μ Q := by
  unfold dAdd
  simp only [lstD, m]
  exact ⟨l, q⟩
theorem dIf_due {ρ : Rho} {μ : Mu} {Q : SD → Mu → Prop} {d : SD} (r9 : ρ[9]? = some (some (.bl (opsB d)))) (r6 : ρ[6]? = some (some d)) (q : Q (dueD d) μ) : dIf (dTest (dVar 9)) (dLst dNil) (dLst (dCons (dVar 6) dNil)) ρ μ Q := by
  refine r_var r9 ?_
  unfold dueD at q
  by_cases hb : opsB d = true
  · rw [if_pos hb] at q
    exact ifT hb ⟨Nat.zero_le _, q⟩
  · rw [if_neg hb] at q
    exact ifF (by simpa using hb) (r_var r6 ⟨(by show 1 ≤ sizeLine; decide), q⟩)
def sp__law_right : DSp := fun ds μ Q _ => ∃ h, ds = [.ref h] ∧ HandAt μ h 0 ∧ Lam04 μ ∧ ∀ μ', LeX h μ μ' → Q (.bl true) μ'
theorem len__law_right : ∀ ds μ Q E, sp__law_right ds μ Q E → ds.length = 1 := by rintro ds μ Q E ⟨h, rfl, _⟩; rfl
def t__law_right : DTS := (dSeq (dSet (dCall sp__law_keys [] (dCons (dVar 0) (dCons (dC (.int 4)) dNil))) 1)
    (dSeq (dSet (dCB drTuple (dCons (dLcS (jRng1 (dCons (dOp dAdd (dC (.int 1)) (dCall sp__law_take [] (dCons (dVar 0) (dCons (dC (.int 8)) dNil)))) dNil)) (hName 5) dYes (dCall sp__law_drawn [] (dCons (dVar 0) (dCons (dVar 1) dNil))) [5]) dNil)) 2)
    (dSeq (dSet (dTup (dCons (dOp dIx (dVar 1) (dC (.int 0))) (dCons (dTup (dCons (dTup (dCons (dOp dIx (dVar 1) (dC (.int 1))) (dCons (dTup dNil) dNil))) (dCons (dTup (dCons (dOp dIx (dVar 1) (dC (.int 2))) (dCons (dTup dNil) dNil))) dNil))) dNil))) 3)
    (dSeq (dSet (dLstM (dCons (dVar 2) (dCons (dTup dNil) (dCons (dCB drList (dCons (dVar 2) dNil)) (dCons (dOp dIx (dVar 2) (dC (.int 0))) (dCons (dOp dMulT (dTup (dCons (dTup (dCons (dC (.str "remove")) (dCons (dOp dIx (dVar 1) (dC (.int 1))) dNil))) dNil)) (dC (.int 400))) (dCons (dOp dMulT (dTup (dCons (dTup (dCons (dC (.str "remove")) (dCons (dOp dIx (dVar 1) (dC (.int 1))) dNil))) dNil)) (dC (.int 401))) dNil))))))) 4)
    (dSeq (dFor (jRng1 (dCons (dC (.int 16)) dNil)) (hName 5) (dSeq (dSet (dCall (sp__law_bent 64) [] (dCons (dVar 0) (dCons (dVar 2) dNil))) 7)
    (dDrop (dLM dmAppend (dVar 4) (dCons (dIf (dTest (dOp (dEq false) (dCall sp__law_take [] (dCons (dVar 0) (dCons (dC (.int 2)) dNil))) (dC (.int 0)))) (dVar 7) (dCall (sp__law_bent 64) [] (dCons (dVar 0) (dCons (dVar 7) dNil)))) dNil)))))
    (dSeq (dFor (jSeq (dOp dAdd (dVar 4) (dLcS (jRng1 (dCons (dC (.int 6)) dNil)) (hName 5) dYes (dCall sp__law_odd [] (dCons (dVar 0) dNil)) [5]))) (hName 6) (dSeq (dPar 8 9 (dCons (dCB drReprQ (dCons (dVar 6) dNil)) (dCons (dCall sp__law_are_deeds [] (dCons (dVar 6) dNil)) dNil)))
    (dSeq (dIfS (dTest (dOp (dEq true) (dCB drReprQ (dCons (dLst (dCons (dCall sp_are_operations [] (dCons (dVar 6) dNil)) (dCons (dCallK sp_are_operations [.inr 0] 0 1 dNil (dCons (dVar 6) dNil)) dNil))) dNil)) (dCB drReprQ (dCons (dLst (dCons (dVar 9) (dCons (dVar 9) dNil))) dNil)))) (dRet (dC (.bl false))) dNext)
    (dSeq (dSet (dLstM (dCons (dLam "_law_right" "_law_right.<locals>.<lambda>" sp__law_told (fun Ex => (dCallX sp_run [] Ex (dCons (dVar 3) (dCons (dVar 6) dNil))))) dNil)) 10)
    (dSeq (dDrop (dLM dmAppend (dVar 10) (dCons (dLam "_law_right" "_law_right.<locals>.<lambda>" sp__law_told (fun Ex => (dCallX sp_moments [] Ex (dCons (dVar 3) (dCons (dVar 6) dNil))))) dNil)))
    (dIfS (dOr (dTest (dOp (dEq true) (dCB drReprQ (dCons (dVar 10) dNil)) (dCB drReprQ (dCons (dOp dMul (dLst (dCons (dIf (dTest (dVar 9)) (dLst dNil) (dLst (dCons (dVar 6) dNil))) dNil)) (dC (.int 2))) dNil)))) (dTest (dOp (dEq true) (dCB drReprQ (dCons (dVar 6) dNil)) (dVar 8)))) (dRet (dC (.bl false))) dNext))))))
    (dRet (dC (.bl true)))))))))
theorem read__law_right : ∀ ds μ Q E, sp__law_right ds μ Q E → t__law_right { nx := fun _ μ' => Q .non μ', rt := Q } (begin_ ["_law_hand_here", "_law_names", "_law_deeds", "_law_plant", "_law_things", "_law_turn", "_law_thing", "_law_bent_here", "_law_seen", "_law_due", "_law_told_here"] ds) μ := by
  rintro ds μ Q E ⟨h, rfl, H, lam, q⟩
  unfold t__law_right dLcS dLc dFor
  refine r_var rfl ?_
  refine ⟨h, 4, 0, rfl, by decide, by omega, H, fun names μ1 nd hlen hk H1 l1 => ?_⟩
  obtain ⟨n0, n1, n2, n3, rfl⟩ : ∃ a b c d, names = [a, b, c, d] := by
    match names, hlen with
    | [a, b, c, d], _ => exact ⟨_, _, _, _, rfl⟩
  have lk : ∀ k ∈ [n0, n1, n2, n3], LowK k := fun k hk' => (hk k hk').2
  have d01 : n0 ≠ n1 := fun e => by subst e; simp at nd
  have d02 : n0 ≠ n2 := fun e => by subst e; simp at nd
  have d12 : n1 ≠ n2 := fun e => by subst e; simp at nd
  have k0 : KeyOk n0 := (hk n0 (by simp)).1
  have k1 : KeyOk n1 := (hk n1 (by simp)).1
  have k2 : KeyOk n2 := (hk n2 (by simp)).1
  rw [show begin_ ["_law_hand_here", "_law_names", "_law_deeds", "_law_plant", "_law_things", "_law_turn", "_law_thing", "_law_bent_here", "_law_seen", "_law_due", "_law_told_here"] [.ref h] = [some (.ref h), none, none, none, none, none, none, none, none, none, none] from rfl]
  dsimp only [List.set_cons_zero, List.set_cons_succ]
  refine r_var rfl ?_
  refine ⟨h, 8, 4, rfl, by decide, by decide, by omega, H1, fun x μ2 x0 x1 H2 l2 => ?_⟩
  obtain ⟨n, rfl⟩ := Int.eq_ofNat_of_zero_le x0
  refine i_add ?_
  refine ⟨⟨by omega, by omega⟩, le_line (m := 100) (by simp; omega) (by omega), fun i acc μ' => ∃ os : List Op, acc = os.map encO ∧ os.length = i ∧ (∀ o ∈ os, OpAll (fun k => k ∈ [n0, n1, n2, n3]) o) ∧ HandAt μ' h (5 + 5 * i) ∧ LeX h μ μ', ⟨[], rfl, rfl, by simp, H2, l1.trans l2⟩, fun _ _ _ _ _ => trivial, ?_, ?_⟩
  · rintro i d acc μ3 hd ⟨os, rfl, ol, oa, H3, l3⟩
    have hi := (List.getElem?_eq_some_iff.mp hd).1
    simp at hi
    refine ifT rfl ?_
    refine r_var rfl ?_
    refine r_var rfl ?_
    refine ⟨h, 5 + 5 * i, _, rfl, by simp, by simp, H3, by omega, fun op μ4 ao H4 l4 => ?_⟩
    refine ⟨os ++ [op], by rw [List.map_append]; rfl, by simp [ol], fun o ho => ?_, H4.mono (by omega), l3.trans l4⟩
    rcases List.mem_append.mp ho with ho | ho
    · exact oa o ho
    · rw [List.mem_singleton.mp ho]; exact ao
  · rintro acc μ3 ⟨os, rfl, ol, oa, H3, l3⟩
    have ol8 : 1 ≤ os.length ∧ os.length ≤ 8 := by rw [ol]; simp; omega
    obtain ⟨o0, osr, eo⟩ : ∃ o r, os = o :: r := by cases os with
      | nil => simp at ol8
      | cons a r => exact ⟨a, r, rfl⟩
    have olow : ∀ o ∈ os, OpAll LowK o := fun o ho => (oa o ho).mono lk
    have H3 := H3.mono (T' := 50) (by rw [← ol]; omega)
    refine dr_tupleL ?_
    dsimp only [List.set_cons_zero, List.set_cons_succ]
    refine r_var rfl ?_
    refine ix_lst (d := .str n0) (atI_nat (j := 0) rfl) ?_
    refine r_var rfl ?_
    refine ix_lst (d := .str n1) (atI_nat (j := 1) rfl) ?_
    refine ⟨Nat.zero_le _, ?_⟩
    refine ⟨(by show 2 ≤ sizeLine; decide), ?_⟩
    refine r_var rfl ?_
    refine ix_lst (d := .str n2) (atI_nat (j := 2) rfl) ?_
    refine ⟨Nat.zero_le _, ?_⟩
    refine ⟨(by show 2 ≤ sizeLine; decide), ?_⟩
    refine ⟨(by show 2 ≤ sizeLine; decide), ?_⟩
    refine ⟨(by show 2 ≤ sizeLine; decide), ?_⟩
    dsimp only [List.set_cons_zero, List.set_cons_succ]
    refine r_var rfl ?_
    refine ⟨Nat.zero_le _, ?_⟩
    refine r_var rfl ?_
    show drList [.tup (os.map encO)] μ3 _
    unfold drList
    simp only [seqD]
    refine r_var rfl ?_
    refine ix_tup (d := encO o0) (atI_nat (j := 0) (by rw [eo]; rfl)) ?_
    refine r_var rfl ?_
    refine ix_lst (d := .str n1) (atI_nat (j := 1) rfl) ?_
    refine ⟨(by show 2 ≤ sizeLine; decide), ?_⟩
    refine ⟨(by show 1 ≤ sizeLine; decide), ?_⟩
    refine ⟨by simp, by decide, by decide, by simp, ?_⟩
    refine r_var rfl ?_
    refine ix_lst (d := .str n1) (atI_nat (j := 1) rfl) ?_
    refine ⟨(by show 2 ≤ sizeLine; decide), ?_⟩
    refine ⟨(by show 1 ≤ sizeLine; decide), ?_⟩
    refine ⟨by simp, by decide, by decide, by simp, ?_⟩
    refine ⟨(by show 6 ≤ sizeLine; decide), fun p hp => ?_⟩
    have hph := H3.ne hp
    have hp0 : μ p = none := noneX04 l3 (Ne.symm hph) hp
    have fl : ∀ (k : Nat) (x : SD), (List.replicate k [x]).flatten = List.replicate k x := fun k x => by
      induction k with
      | zero => rfl
      | succ k ih => rw [List.replicate_succ, List.flatten_cons, ih, List.replicate_succ]; rfl
    rw [show ((400 : Int).toNat) = 400 from rfl, show ((401 : Int).toNat) = 401 from rfl, fl, fl]
    have vd : Val 0 2 2100 (.tup (os.map encO)) := (Val.tup (ops_val olow ol8.2)).mono (Nat.le_refl _) (Nat.le_refl _) (by omega)
    have vr : ∀ k, k ≤ 401 → Val 4 30 40000 (.tup (List.replicate k (SD.tup [.str "remove", .str n1]))) := fun k hk => by
      have a1 : ValL 0 0 (6 + 1 + (61 + 1)) [.str "remove", .str n1] := ValL.cons ((Val.str (by decide +kernel)).mono (Nat.le_refl _) (Nat.le_refl _) (by decide)) (ValL.one ((Val.str k1.1).mono (Nat.le_refl _) (Nat.le_refl _) k1.2))
      refine (Val.tup (ValL.of (n := 401) (B := 80) (D := 1) (m := 0) (fun d hd => ?_) (by rw [List.length_replicate]; exact hk))).mono (by omega) (by omega) (by omega)
      rw [(List.mem_replicate.mp hd).2]
      exact (Val.tup a1).mono (Nat.le_refl _) (by omega) (by omega)
    have n1in : n1 ∈ pre (p4T n0 n1 n2) := by rw [p4T_pre]; simp
    have pl : (pre (p4T n0 n1 n2)).length ≤ 10 := by rw [p4T_pre]; show 3 ≤ 10; decide
    have th0 : ∀ d ∈ [SD.tup (os.map encO), .tup [], .lst (os.map encO), encO o0, .tup (List.replicate 400 (SD.tup [.str "remove", .str n1])), .tup (List.replicate 401 (SD.tup [.str "remove", .str n1]))], Thing (pre (p4T n0 n1 n2)) d := fun d hd => by
      simp only [List.mem_cons, List.not_mem_nil, or_false] at hd
      rcases hd with rfl | rfl | rfl | rfl | rfl | rfl
      · exact ⟨vd.mono (by omega) (by omega) (by omega), kok_len (by show (os.map encO).length ≤ 40; rw [List.length_map]; omega) pl⟩
      · exact ⟨(Val.tup ValL.nil).mono (by omega) (by omega) (by omega), kok_len (Nat.zero_le _) pl⟩
      · exact ⟨(Val.lst (ops_val olow ol8.2)).mono (by omega) (by omega) (by omega), kok_len (Nat.zero_le _) pl⟩
      · refine ⟨(op_val ((olow o0 (by rw [eo]; simp)).mono fun _ => LowK.ok)).mono (by omega) (by omega) (by omega), kok_len ?_ pl⟩
        cases o0 <;> simp [encO, tlen]
      · exact ⟨vr 400 (by decide), kok_rem n1in pl⟩
      · exact ⟨vr 401 (by decide), kok_rem n1in pl⟩
    generalize hL0 : [SD.tup (os.map encO), .tup [], .lst (os.map encO), encO o0, .tup (List.replicate 400 (SD.tup [.str "remove", .str n1])), .tup (List.replicate 401 (SD.tup [.str "remove", .str n1]))] = L0 at th0
    have len0 : L0.length = 6 := by rw [← hL0]; rfl
    dsimp only [List.set_cons_zero, List.set_cons_succ]
    refine ⟨⟨by decide, by decide⟩, fun i ρ μ' => ∃ (L : List SD) (a5 a7 : Option SD), ρ = [some (.ref h), some (.lst (sts [n0, n1, n2, n3])), some (.tup (os.map encO)), some (enc (p4T n0 n1 n2)), some (.ref p), a5, none, a7, none, none, none] ∧ L.length = 6 + i ∧ (∀ d ∈ L, Thing (pre (p4T n0 n1 n2)) d) ∧ HandAt μ' h (50 + 3000 * i) ∧ LeX h μ μ' ∧ μ' p = some (.lst L), ⟨L0, _, _, rfl, by omega, th0, H3.up hph, l3.up hp0, up_same⟩, fun _ _ _ _ _ => trivial, ?_, ?_⟩
    · rintro i d ρ μ4 hd ⟨L, a5, a7, rfl, Ll, Lt, H4, l4, m4⟩
      have hi := (List.getElem?_eq_some_iff.mp hd).1
      simp at hi
      have i16 : i < 16 := by omega
      have dp2 := vd.dp
      refine r_var rfl ?_
      refine r_var rfl ?_
      refine ⟨h, _, 0, 2, 2100, 50 + 3000 * i, rfl, by omega, vd, by omega, by omega, by omega, H4, fun d1 μ5 v1 t1 H5 l5 => ?_⟩
      have H5 := H5.mono (T' := 50 + 3000 * i + 300) (by omega)
      have m5 := l5 _ _ (Ne.symm hph) m4
      have dp3 := v1.dp
      have tl : tlen (.tup (os.map encO)) ≤ 8 := by show (os.map encO).length ≤ 8; rw [List.length_map]; omega
      dsimp only [List.set_cons_zero, List.set_cons_succ]
      refine r_var rfl ⟨isSome_ref m5, ?_⟩
      refine r_var rfl ?_
      refine ⟨h, 2, _, rfl, by decide, by decide, by omega, H5, fun y μ6 _ _ H6 l6 => ?_⟩
      have m6 := l6 _ _ (Ne.symm hph) m5
      have fin : ∀ d2 μ7, Thing (pre (p4T n0 n1 n2)) d2 → HandAt μ7 h (50 + 3000 * (i + 1)) → LeX h μ μ7 → μ7 p = some (.lst L) → dmAppend (.ref p) [d2] μ7 fun _ μ8 => ∃ (L : List SD) (a5 a7' : Option SD), [some (.ref h), some (.lst (sts [n0, n1, n2, n3])), some (.tup (os.map encO)), some (enc (p4T n0 n1 n2)), some (.ref p), some d, none, some d1, none, none, none] = [some (.ref h), some (.lst (sts [n0, n1, n2, n3])), some (.tup (os.map encO)), some (enc (p4T n0 n1 n2)), some (.ref p), a5, none, a7', none, none, none] ∧ L.length = 6 + (i + 1) ∧ (∀ d ∈ L, Thing (pre (p4T n0 n1 n2)) d) ∧ HandAt μ8 h (50 + 3000 * (i + 1)) ∧ LeX h μ μ8 ∧ μ8 p = some (.lst L) := fun d2 μ7 t7 H7 l7 m7 => by
        refine dm_append m7 (lt_line (m := 1000) (by omega) (by omega)) ?_
        refine ⟨L ++ [d2], _, _, rfl, by rw [List.length_append, Ll]; rfl, fun z hz => ?_, H7.up hph, l7.up hp0, up_same⟩
        rcases List.mem_append.mp hz with hz | hz
        · exact Lt z hz
        · rw [List.mem_singleton.mp hz]; exact t7
      refine i_eq ?_
      by_cases hy : y = 0
      · refine ifT (decide_eq_true hy) ?_
        refine r_var rfl ?_
        exact fin d1 μ6 ⟨v1.mono (by omega) (by omega) (by omega), kok_len (by omega) pl⟩ (H6.mono (by omega)) ((l4.trans l5).trans l6) m6
      · refine ifF (decide_eq_false hy) ?_
        refine r_var rfl ?_
        refine r_var rfl ?_
        refine ⟨h, d1, 2, 16, 8500, _, rfl, by omega, v1, by omega, by omega, by omega, H6, fun d2 μ7 v2 t2 H7 l7 => ?_⟩
        exact fin d2 μ7 ⟨v2.mono (by omega) (by omega) (by omega), kok_len (by omega) pl⟩ (H7.mono (by omega)) (((l4.trans l5).trans l6).trans l7) (l7 _ _ (Ne.symm hph) m6)
    · rintro ρ μ4 ⟨L, a5, a7, rfl, Ll, Lt, H4, l4, m4⟩
      have Ll : L.length = 22 := by rw [Ll]; simp
      have H4 := H4.mono (T' := 48050 + 100) (by simp)
      dsimp only [List.set_cons_zero, List.set_cons_succ]
      refine r_var rfl ?_
      refine ⟨⟨by decide, by decide⟩, le_line (m := 100) (by simp) (by omega), fun i acc μ' => acc.length = i ∧ (∀ d ∈ acc, Thing (pre (p4T n0 n1 n2)) d) ∧ HandAt μ' h (48150 + 20 * i) ∧ LeX h μ μ' ∧ μ' p = some (.lst L), ⟨rfl, by simp, H4, l4, m4⟩, fun _ _ _ _ _ => trivial, ?_, ?_⟩
      · rintro i d acc μ5 hd ⟨al, at_, H5, l5, m5⟩
        have hi := (List.getElem?_eq_some_iff.mp hd).1
        simp at hi
        refine ifT rfl ?_
        refine r_var rfl ?_
        refine ⟨h, _, rfl, by omega, H5, fun d1 μ6 v1 t1 H6 l6 => ?_⟩
        refine ⟨by simp [al], fun z hz => ?_, H6.mono (by omega), l5.trans l6, l6 _ _ (Ne.symm hph) m5⟩
        rcases List.mem_append.mp hz with hz | hz
        · exact at_ z hz
        · rw [List.mem_singleton.mp hz]; exact ⟨v1.mono (by omega) (by omega) (by omega), kok_len (by omega) pl⟩
      · rintro acc μ5 ⟨al, at_, H5, l5, m5⟩
        have al : acc.length = 6 := by rw [al]; simp
        have H5 := H5.mono (T' := 50000) (by simp)
        refine ref_add04 m5 (le_line (m := 100) (by omega) (by omega)) ?_
        have allT : ∀ d ∈ L ++ acc, Thing (pre (p4T n0 n1 n2)) d := fun d hd => (List.mem_append.mp hd).elim (Lt d) (at_ d)
        refine ⟨fun i ρ μ' => ∃ (a5 a6 a7 a8 a9 a10 : Option SD), ρ = [some (.ref h), some (.lst (sts [n0, n1, n2, n3])), some (.tup (os.map encO)), some (enc (p4T n0 n1 n2)), some (.ref p), a5, a6, a7, a8, a9, a10] ∧ HandAt μ' h 50000 ∧ LeX h μ μ', ⟨_, _, _, _, _, _, rfl, H5, l5⟩, fun _ _ _ _ _ => rfl, ?_, ?_⟩
        · rintro i d ρ μ6 hd ⟨a5, a6, a7, a8, a9, a10, rfl, H6, l6⟩
          have th := allT d (List.mem_of_getElem? hd)
          have tv := th.v
          dsimp only [List.set_cons_zero, List.set_cons_succ]
          refine r_var rfl ?_
          refine r_reprQ tv (by decide) (by decide) (by decide) ?_
          refine r_var rfl ?_
          refine ⟨d, 4, rfl, tv.ok, Nat.le_trans tv.wt (by decide), ?_⟩
          dsimp only [List.set_cons_zero, List.set_cons_succ]
          have bv : ∀ b : Bool, Val 0 1 100 (.lst [.bl b, .bl b]) := fun b => (Val.lst (ValL.cons (Val.bl b) (ValL.one (Val.bl b)))).mono (Nat.le_refl _) (by omega) (by omega)
          refine r_var rfl ?_
          refine ⟨d, 4, rfl, tv.ok, Nat.le_trans tv.wt (by decide), ?_⟩
          refine r_var rfl ?_
          refine ⟨d, 4, rfl, tv.ok, Nat.le_trans tv.wt (by decide), ?_⟩
          refine ⟨(by show 2 ≤ sizeLine; decide), ?_⟩
          refine r_reprQ (bv _) (by decide) (by decide) (by decide) ?_
          refine r_var rfl ?_
          refine r_var rfl ?_
          refine ⟨(by show 2 ≤ sizeLine; decide), ?_⟩
          refine r_reprQ (bv _) (by decide) (by decide) (by decide) ?_
          refine ne_sameQ ?_
          refine ifF rfl ?_
          simp only [dNext]
          obtain ⟨P, tab⟩ := lam.lex H l6
          have fo := p4T_fo d01 d02 d12
          have ok := p4T_ok k0 k1 k2
          refine askRun04 (m := ⟨p4F n0 n1 n2, p4P n0 n1 n2, p4T n0 n1 n2⟩) tab rfl rfl ok fo th fun μ7 l7 => ?_
          refine ⟨(by show 1 ≤ sizeLine; decide), fun z hz => ?_⟩
          have hz6 : μ6 z = none := l7.none hz
          have hz0 : μ z = none := noneX04 l6 (Ne.symm (H6.ne hz6)) hz6
          have hPz : P ≠ z := fun e => by rw [e, hz6] at tab; cases tab
          dsimp only [List.set_cons_zero, List.set_cons_succ]
          have m7 : up μ7 z (.lst [dueD d]) z = some (.lst [dueD d]) := up_same
          refine r_var rfl ⟨isSome_ref m7, ?_⟩
          have tab7 : up μ7 z (.lst [dueD d]) P = some (.tab P "_law_right" "_law_right.<locals>.<lambda>") := by rw [up_ne hPz]; exact l7 _ _ tab
          refine askMo04 (m := ⟨p4F n0 n1 n2, p4P n0 n1 n2, p4T n0 n1 n2⟩) tab7 rfl rfl ok fo th fun μ8 l8 => ?_
          refine dm_append (l8 _ _ m7) (lt_line (m := 1000) (by simp) (by omega)) ?_
          dsimp only
          have m8 : up μ8 z (.lst ([dueD d] ++ [dueD d])) z = some (.lst [dueD d, dueD d]) := up_same
          have l9 : LeX h μ (up μ8 z (.lst ([dueD d] ++ [dueD d]))) := ((((l6.trans (l7.x h)).up hz0).trans (l8.x h))).up hz0
          have H9 : HandAt (up μ8 z (.lst ([dueD d] ++ [dueD d]))) h 50000 := (((H6.le l7).up (H6.ne hz6)).le l8).up (H6.ne hz6)
          generalize up μ8 z (.lst ([dueD d] ++ [dueD d])) = μ9 at m8 l9 H9
          have dv := dueD_val tv
          have v2 : Val 4 32 90000 (.lst [dueD d, dueD d]) := (Val.lst (ValL.cons dv (ValL.one dv))).mono (Nat.le_refl _) (Nat.le_refl _) (by omega)
          refine r_var rfl ?_
          refine r_reprQR04 m8 v2 (by decide) (by decide) (by decide) ?_
          refine dIf_due rfl rfl ?_
          refine ⟨(by show 1 ≤ sizeLine; decide), ?_⟩
          refine l_mul ⟨by decide, by decide, by show 1 * 2 ≤ sizeLine; decide⟩ ?_
          refine r_reprQ (d := .lst [dueD d, dueD d]) v2 (by decide) (by decide) (by decide) ?_
          refine ne_sameQ ?_
          refine ifF rfl ?_
          refine r_var rfl ?_
          refine r_reprQ tv (by decide) (by decide) (by decide) ?_
          refine r_var rfl ?_
          refine ne_sameQ ?_
          refine ifF rfl ?_
          simp only [dNext]
          exact ⟨_, _, _, _, _, _, rfl, H9, l9⟩
        · rintro ρ μ6 ⟨a5, a6, a7, a8, a9, a10, rfl, H6, l6⟩
          exact q μ6 l6
theorem clipN (ns : List Int) {N : Int} {n : Nat} (hN : N = (n : Nat)) (h1 : 1 ≤ n) : ∃ r : Nat, r ≤ n ∧ (if (if ((ns.map SD.int).length : Int) < N then ((ns.map SD.int).length : Int) else N) > 1 then (if ((ns.map SD.int).length : Int) < N then ((ns.map SD.int).length : Int) else N) else 1) = (r : Int) := by
  subst hN
  refine ⟨(if (if ((ns.map SD.int).length : Int) < (n : Int) then ((ns.map SD.int).length : Int) else (n : Int)) > 1 then (if ((ns.map SD.int).length : Int) < (n : Int) then ((ns.map SD.int).length : Int) else (n : Int)) else 1).toNat, ?_, ?_⟩ <;> split <;> split <;> omega
def sp_law : DSp := fun ds μ Q _ => ∃ ns : List Int, ds = [.rol (ns.map SD.int)] ∧ ns.length ≤ 63 ∧ Lam04 μ ∧ ∀ μ', Q (.bl true) μ'
theorem len_law : ∀ ds μ Q E, sp_law ds μ Q E → ds.length = 1 := by rintro ds μ Q E ⟨ns, rfl, _⟩; rfl
theorem law_takes {ns : List Int} {T : Addr} (hl : ns.length ≤ 63) : ∀ μ, μ T = some (.tab T "_law_right" "_law_right.<locals>.<lambda>") → sp_law [.rol (ns.map SD.int)] μ (fun d _ => d = .bl true) (fun _ _ _ => False) := fun μ h => ⟨ns, rfl, hl, ⟨T, h⟩, fun _ => rfl⟩
/-- the law's text, over the promise sp of one hand -/
abbrev tLawC (sp : DSp) (N : Int) : DTS := (dRet (dCB (drBls fun bs => bs.all _root_.id) (dCons (dLcS (jRng1 (dCons (dCB (drI2 fun i j => if j > i then j else i) (dCons (dC (.int 1)) (dCons (dCB (drI2 fun i j => if j < i then j else i) (dCons (dC (.int N)) (dCons (dCB drLen (dCons (dVar 0) dNil)) dNil))) dNil))) dNil)) (hName 1) dYes (dCall sp [] (dCons (dCall sp__law_hand [] (dCons (dVar 0) (dCons (dVar 1) dNil))) dNil)) [1]) dNil)))
theorem lawC_loop {sp : DSp} {n : Nat} (hsp : ∀ μ h Q E, HandAt μ h 0 → Lam04 μ → (∀ μ', LeX h μ μ' → Q (.bl true) μ') → sp [.ref h] μ Q E) {N : Int} (hN : N = (n : Nat)) (h1 : 1 ≤ n) (hn : n ≤ 60) : ∀ ds μ Q E, sp_law ds μ Q E → tLawC sp N { nx := fun _ μ' => Q .non μ', rt := Q } (begin_ ["_law_script", "_law_k"] ds) μ := by
  rintro ds μ Q E ⟨ns, rfl, hl, L, q⟩
  unfold tLawC dLcS dLc
  refine r_var rfl ?_
  refine l_lenO ?_
  refine i_min ?_
  refine i_max ?_
  obtain ⟨r, r3, hre⟩ := clipN ns hN h1
  rw [hre]
  refine ⟨⟨by omega, by omega⟩, le_line (m := 100) (by simp; omega) (by omega), fun i acc μ' => acc = (List.replicate i true).map SD.bl ∧ Lam04 μ', ⟨rfl, L⟩, fun _ _ _ _ _ => trivial, ?_, ?_⟩
  · rintro i d acc μ1 hd ⟨rfl, L1⟩
    have hi := (List.getElem?_eq_some_iff.mp hd).1
    simp at hi
    have hdv : d = .int (i : Nat) := by
      rw [List.getElem?_map, List.getElem?_range (by simpa using hi)] at hd
      exact (Option.some.inj hd).symm
    subst hdv
    refine ifT rfl ?_
    refine r_var rfl ?_
    refine r_var rfl ?_
    refine ⟨ns, i, rfl, by omega, fun p μ2 hp le H => ?_⟩
    refine hsp _ p _ _ H (L1.le le) fun μ3 l3 => ?_
    exact ⟨rep_snoc.symm, (L1.le le).lex H l3⟩
  · rintro acc μ1 ⟨rfl, L1⟩
    exact all_true (q μ1)
def t_law : DTS := (dRet (dCB (drBls fun bs => bs.all _root_.id) (dCons (dLcS (jRng1 (dCons (dCB (drI2 fun i j => if j > i then j else i) (dCons (dC (.int 1)) (dCons (dCB (drI2 fun i j => if j < i then j else i) (dCons (dC (.int 3)) (dCons (dCB drLen (dCons (dVar 0) dNil)) dNil))) dNil))) dNil)) (hName 1) dYes (dCall sp__law_right [] (dCons (dCall sp__law_hand [] (dCons (dVar 0) (dCons (dVar 1) dNil))) dNil)) [1]) dNil)))
theorem read_law : ∀ ds μ Q E, sp_law ds μ Q E → t_law { nx := fun _ μ' => Q .non μ', rt := Q } (begin_ ["_law_script", "_law_k"] ds) μ := lawC_loop (n := 3) (fun μ h Q E H L q => ⟨h, rfl, H, L, q⟩) rfl (by decide) (by decide)
end LK
namespace LK
open PySem PySem.Spec PyProof.Rows L2 DS MA
def top (i : Nat) : Stmt := PySem.Challenge.pw_keyedmoves_k04_operations_of_any_value.main.body.getD i (.Pass ⟨0, 0, 0, 0⟩)
abbrev s_is_key : Stmt := top 8
abbrev s_parents_by_key : Stmt := top 9
abbrev s_children_by_key : Stmt := top 10
abbrev s_tree_from : Stmt := top 11
abbrev s_is_operation : Stmt := top 18
abbrev s_are_operations : Stmt := top 19
abbrev s_moments : Stmt := top 21
abbrev s_run : Stmt := top 22
abbrev s__law_hand : Stmt := top 24
abbrev s__law_take : Stmt := top 25
abbrev s__law_of : Stmt := top 26
abbrev s__law_keys : Stmt := top 27
abbrev s__law_odd : Stmt := top 28
abbrev s__law_bent : Stmt := top 29
abbrev s__law_is_key : Stmt := top 30
abbrev s__law_drawn : Stmt := top 31
abbrev s__law_is_deed : Stmt := top 32
abbrev s__law_are_deeds : Stmt := top 33
abbrev s__law_told : Stmt := top 34
abbrev s__law_right : Stmt := top 35
abbrev s_law : Stmt := top 36
abbrev s_Places_init : Stmt := (inCls (top 20)).getD 0 (.Pass ⟨0, 0, 0, 0⟩)
abbrev s_Places_present_tree : Stmt := (inCls (top 20)).getD 1 (.Pass ⟨0, 0, 0, 0⟩)
abbrev s_Places_keys_inside : Stmt := (inCls (top 20)).getD 2 (.Pass ⟨0, 0, 0, 0⟩)
abbrev s_Places_is_target : Stmt := (inCls (top 20)).getD 3 (.Pass ⟨0, 0, 0, 0⟩)
abbrev s_Places_is_possible : Stmt := (inCls (top 20)).getD 4 (.Pass ⟨0, 0, 0, 0⟩)
abbrev s_Places_put : Stmt := (inCls (top 20)).getD 5 (.Pass ⟨0, 0, 0, 0⟩)
abbrev s_Places_execute : Stmt := (inCls (top 20)).getD 6 (.Pass ⟨0, 0, 0, 0⟩)
theorem sc_is_key : FnScope ["value", "letter"] ["value"] (defScope s_is_key) := ⟨rfl, rfl, rfl, by decide +kernel, rfl, by decide +kernel, by decide +kernel⟩
theorem sc_parents_by_key : FnScope ["tree", "found", "waiting", "key", "children", "child"] ["tree"] (defScope s_parents_by_key) := ⟨rfl, rfl, rfl, by decide +kernel, rfl, by decide +kernel, by decide +kernel⟩
theorem sc_children_by_key : FnScope ["tree", "found", "waiting", "key", "children", "child"] ["tree"] (defScope s_children_by_key) := ⟨rfl, rfl, rfl, by decide +kernel, rfl, by decide +kernel, by decide +kernel⟩
theorem sc_tree_from : FnScope ["key", "children", "child"] ["key", "children"] (defScope s_tree_from) := ⟨rfl, rfl, rfl, by decide +kernel, rfl, by decide +kernel, by decide +kernel⟩
theorem sc_is_operation : FnScope ["value"] ["value"] (defScope s_is_operation) := ⟨rfl, rfl, rfl, by decide +kernel, rfl, by decide +kernel, by decide +kernel⟩
theorem sc_are_operations : FnScope ["value", "operation"] ["value"] (defScope s_are_operations) := ⟨rfl, rfl, rfl, by decide +kernel, rfl, by decide +kernel, by decide +kernel⟩
theorem sc_moments : FnScope ["tree", "operations", "places", "found", "index", "operation"] ["tree", "operations"] (defScope s_moments) := ⟨rfl, rfl, rfl, by decide +kernel, rfl, by decide +kernel, by decide +kernel⟩
theorem sc_run : FnScope ["tree", "operations"] ["tree", "operations"] (defScope s_run) := ⟨rfl, rfl, rfl, by decide +kernel, rfl, by decide +kernel, by decide +kernel⟩
theorem sc__law_hand : FnScope ["_law_script", "_law_k", "_law_cell", "_law_great"] ["_law_script", "_law_k"] (defScope s__law_hand) := ⟨rfl, rfl, rfl, by decide +kernel, rfl, by decide +kernel, by decide +kernel⟩
theorem sc__law_take : FnScope ["_law_hand_here", "_law_many", "_law_turn", "_law_prime", "_law_mixed", "_law_digit"] ["_law_hand_here", "_law_many"] (defScope s__law_take) := ⟨rfl, rfl, rfl, by decide +kernel, rfl, by decide +kernel, by decide +kernel⟩
theorem sc__law_of : FnScope ["_law_hand_here", "_law_items"] ["_law_hand_here", "_law_items"] (defScope s__law_of) := ⟨rfl, rfl, rfl, by decide +kernel, rfl, by decide +kernel, by decide +kernel⟩
theorem sc__law_keys : FnScope ["_law_hand_here", "_law_many", "_law_letters", "_law_first", "_law_leap", "_law_stem", "_law_found", "_law_nth", "_law_tail"] ["_law_hand_here", "_law_many"] (defScope s__law_keys) := ⟨rfl, rfl, rfl, by decide +kernel, rfl, by decide +kernel, by decide +kernel⟩
theorem sc__law_odd : FnScope ["_law_hand_here", "_law_some", "_law_thing", "_law_turn"] ["_law_hand_here"] (defScope s__law_odd) := ⟨rfl, rfl, rfl, by decide +kernel, rfl, by decide +kernel, by decide +kernel⟩
theorem sc__law_bent : FnScope ["_law_hand_here", "_law_thing", "_law_at", "_law_way"] ["_law_hand_here", "_law_thing"] (defScope s__law_bent) := ⟨rfl, rfl, rfl, by decide +kernel, rfl, by decide +kernel, by decide +kernel⟩
theorem sc__law_is_key : FnScope ["_law_thing", "_law_letter"] ["_law_thing"] (defScope s__law_is_key) := ⟨rfl, rfl, rfl, by decide +kernel, rfl, by decide +kernel, by decide +kernel⟩
theorem sc__law_drawn : FnScope ["_law_hand_here", "_law_names", "_law_word", "_law_before"] ["_law_hand_here", "_law_names"] (defScope s__law_drawn) := ⟨rfl, rfl, rfl, by decide +kernel, rfl, by decide +kernel, by decide +kernel⟩
theorem sc__law_is_deed : FnScope ["_law_thing"] ["_law_thing"] (defScope s__law_is_deed) := ⟨rfl, rfl, rfl, by decide +kernel, rfl, by decide +kernel, by decide +kernel⟩
theorem sc__law_are_deeds : FnScope ["_law_thing", "_law_one"] ["_law_thing"] (defScope s__law_are_deeds) := ⟨rfl, rfl, rfl, by decide +kernel, rfl, by decide +kernel, by decide +kernel⟩
theorem sc__law_told : FnScope ["_law_ask", "_law_caught", "error"] ["_law_ask"] (defScope s__law_told) := ⟨rfl, rfl, rfl, by decide +kernel, rfl, by decide +kernel, by decide +kernel⟩
theorem sc__law_right : FnScope ["_law_hand_here", "_law_names", "_law_deeds", "_law_plant", "_law_things", "_law_turn", "_law_thing", "_law_bent_here", "_law_seen", "_law_due", "_law_told_here"] ["_law_hand_here"] (defScope s__law_right) := ⟨rfl, rfl, rfl, by decide +kernel, rfl, by decide +kernel, by decide +kernel⟩
theorem sc_law : FnScope ["_law_script", "_law_k"] ["_law_script"] (defScope s_law) := ⟨rfl, rfl, rfl, by decide +kernel, rfl, by decide +kernel, by decide +kernel⟩
theorem sc_Places_init : FnScope ["self", "tree", "key", "children"] ["self", "tree"] (defScope s_Places_init) := ⟨rfl, rfl, rfl, by decide +kernel, rfl, by decide +kernel, by decide +kernel⟩
theorem sc_Places_present_tree : FnScope ["self"] ["self"] (defScope s_Places_present_tree) := ⟨rfl, rfl, rfl, by decide +kernel, rfl, by decide +kernel, by decide +kernel⟩
theorem sc_Places_keys_inside : FnScope ["self", "key", "found", "at"] ["self", "key"] (defScope s_Places_keys_inside) := ⟨rfl, rfl, rfl, by decide +kernel, rfl, by decide +kernel, by decide +kernel⟩
theorem sc_Places_is_target : FnScope ["self", "parent", "before", "taken"] ["self", "parent", "before", "taken"] (defScope s_Places_is_target) := ⟨rfl, rfl, rfl, by decide +kernel, rfl, by decide +kernel, by decide +kernel⟩
theorem sc_Places_is_possible : FnScope ["self", "operation", "key"] ["self", "operation"] (defScope s_Places_is_possible) := ⟨rfl, rfl, rfl, by decide +kernel, rfl, by decide +kernel, by decide +kernel⟩
theorem sc_Places_put : FnScope ["self", "key", "parent", "before", "siblings"] ["self", "key", "parent", "before"] (defScope s_Places_put) := ⟨rfl, rfl, rfl, by decide +kernel, rfl, by decide +kernel, by decide +kernel⟩
theorem sc_Places_execute : FnScope ["self", "operation", "key", "gone"] ["self", "operation"] (defScope s_Places_execute) := ⟨rfl, rfl, rfl, by decide +kernel, rfl, by decide +kernel, by decide +kernel⟩
abbrev s_NoElement_init : Stmt := (inCls (top 2)).getD 0 (.Pass ⟨0, 0, 0, 0⟩)
abbrev s_BadOperations_init : Stmt := (inCls (top 3)).getD 0 (.Pass ⟨0, 0, 0, 0⟩)
theorem sc_BadOperations_init : FnScope ["self", "value"] ["self", "value"] (defScope s_BadOperations_init) := ⟨rfl, rfl, rfl, by decide +kernel, rfl, by decide +kernel, by decide +kernel⟩
abbrev s_Impossible_init : Stmt := (inCls (top 4)).getD 0 (.Pass ⟨0, 0, 0, 0⟩)
theorem sc_Impossible_init : FnScope ["self", "index"] ["self", "index"] (defScope s_Impossible_init) := ⟨rfl, rfl, rfl, by decide +kernel, rfl, by decide +kernel, by decide +kernel⟩
structure All (K : PySem.W.Frag) (mg : Str → Option Value) (wp : Params) where
  x_NoElement : XDef K mg "NoElement" "key" "key" "NoElement.__init__" s_NoElement_init
  x_BadOperations : XDef K mg "BadOperations" "value" "value" "BadOperations.__init__" s_BadOperations_init
  x_Impossible : XDef K mg "Impossible" "index" "index" "Impossible.__init__" s_Impossible_init
  b_KeyedError : XBase K mg "KeyedError"
  a_BadOperations : Addr
  m_BadOperations : mg "BadOperations" = some (.ref a_BadOperations)
  kit_BadOperations : ∀ y b C, kX xnames "BadOperations" y = some b → PySem.W.nsIn K mainGlobals y = some (some (.ref C)) → PySem.W.kitOne K (.ref C) (.ref a_BadOperations) = some b
  a_Impossible : Addr
  m_Impossible : mg "Impossible" = some (.ref a_Impossible)
  kit_Impossible : ∀ y b C, kX xnames "Impossible" y = some b → PySem.W.nsIn K mainGlobals y = some (some (.ref C)) → PySem.W.kitOne K (.ref C) (.ref a_Impossible) = some b
  a_KeyedError : Addr
  m_KeyedError : mg "KeyedError" = some (.ref a_KeyedError)
  exm_KeyedError : ∀ y b C, kX xnames "KeyedError" y = some b → PySem.W.nsIn K mainGlobals y = some (some (.ref C)) → PySem.W.exmOne K (.ref C) (.ref a_KeyedError) = some b
  kit_KeyedError : ∀ y b C, kX xnames "KeyedError" y = some b → PySem.W.nsIn K mainGlobals y = some (some (.ref C)) → PySem.W.kitOne K (.ref C) (.ref a_KeyedError) = some b
  a_NoElement : Addr
  m_NoElement : mg "NoElement" = some (.ref a_NoElement)
  kit_NoElement : ∀ y b C, kX xnames "NoElement" y = some b → PySem.W.nsIn K mainGlobals y = some (some (.ref C)) → PySem.W.kitOne K (.ref C) (.ref a_NoElement) = some b
  o_Places : OCls K mg "Places"
  n_Places_child_keys : NoAttr K o_Places.C "child_keys"
  n_Places_parent_keys : NoAttr K o_Places.C "parent_keys"
  n_Places_root_key : NoAttr K o_Places.C "root_key"
  is_key : Def K mg "is_key" s_is_key ["value"]
  parents_by_key : Def K mg "parents_by_key" s_parents_by_key ["tree"]
  children_by_key : Def K mg "children_by_key" s_children_by_key ["tree"]
  tree_from : Def K mg "tree_from" s_tree_from ["key", "children"]
  is_operation : Def K mg "is_operation" s_is_operation ["value"]
  are_operations : Def K mg "are_operations" s_are_operations ["value"]
  moments : Def K mg "moments" s_moments ["tree", "operations"]
  run : Def K mg "run" s_run ["tree", "operations"]
  _law_hand : Def K mg "_law_hand" s__law_hand ["_law_script", "_law_k"]
  _law_take : Def K mg "_law_take" s__law_take ["_law_hand_here", "_law_many"]
  _law_of : Def K mg "_law_of" s__law_of ["_law_hand_here", "_law_items"]
  _law_keys : Def K mg "_law_keys" s__law_keys ["_law_hand_here", "_law_many"]
  _law_odd : Def K mg "_law_odd" s__law_odd ["_law_hand_here"]
  _law_bent : Def K mg "_law_bent" s__law_bent ["_law_hand_here", "_law_thing"]
  _law_is_key : Def K mg "_law_is_key" s__law_is_key ["_law_thing"]
  _law_drawn : Def K mg "_law_drawn" s__law_drawn ["_law_hand_here", "_law_names"]
  _law_is_deed : Def K mg "_law_is_deed" s__law_is_deed ["_law_thing"]
  _law_are_deeds : Def K mg "_law_are_deeds" s__law_are_deeds ["_law_thing"]
  _law_told : Def K mg "_law_told" s__law_told ["_law_ask"]
  _law_right : Def K mg "_law_right" s__law_right ["_law_hand_here"]
  law : Def K mg "law" s_law ["_law_script"]
  i_Places : IDef o_Places "Places.__init__" s_Places_init ["self", "tree"]
  m_Places_present_tree : MDef o_Places "present_tree" "Places.present_tree" s_Places_present_tree ["self"]
  m_Places_keys_inside : MDef o_Places "keys_inside" "Places.keys_inside" s_Places_keys_inside ["self", "key"]
  m_Places_is_target : MDef o_Places "is_target" "Places.is_target" s_Places_is_target ["self", "parent", "before", "taken"]
  m_Places_is_possible : MDef o_Places "is_possible" "Places.is_possible" s_Places_is_possible ["self", "operation"]
  m_Places_put : MDef o_Places "put" "Places.put" s_Places_put ["self", "key", "parent", "before"]
  m_Places_execute : MDef o_Places "execute" "Places.execute" s_Places_execute ["self", "operation"]
  z_abs : mg "abs" = none
  z_all : mg "all" = none
  z_enumerate : mg "enumerate" = none
  z_int : mg "int" = none
  z_isinstance : mg "isinstance" = none
  z_len : mg "len" = none
  z_list : mg "list" = none
  z_max : mg "max" = none
  z_min : mg "min" = none
  z_range : mg "range" = none
  z_repr : mg "repr" = none
  z_str : mg "str" = none
  z_tuple : mg "tuple" = none
  g_SIZES : GDic K wp mg "SIZES" d_SIZES
  c_CREATE : ∃ t, mg "CREATE" = some (.str "create" t)
  c_LETTERS : ∃ t, mg "LETTERS" = some (.str "abcdefghijklmnopqrstuvwxyz" t)
  c_LONGEST_KEY : ∃ t, mg "LONGEST_KEY" = some (.int 8 t)
  c_MOST_OPERATIONS : ∃ t, mg "MOST_OPERATIONS" = some (.int 400 t)
  c_REMOVE : ∃ t, mg "REMOVE" = some (.str "remove" t)
  kb_are_operations_0_value : KBinds K are_operations.fd ["value"] ["value"] (kwG [.inr 0] 0 1) (kwG [.inr 0] 0 1)
section
variable {P : Program} {w : World} {K : PySem.W.Frag} {mg : Str → Option Value} {base : Heap}
theorem okx_BadOperations (T : All K mg w.params) : XIni P w base T.x_BadOperations 2 :=
  xini_ok T.x_BadOperations T.b_KeyedError sc_BadOperations_init rfl rfl (.inl rfl) (.inl rfl) (by decide) (by decide) (by decide) fun _ _ => ⟨_, rfl⟩
theorem okx_Impossible (T : All K mg w.params) : XIni P w base T.x_Impossible 2 :=
  xini_ok T.x_Impossible T.b_KeyedError sc_Impossible_init rfl rfl (.inl rfl) (.inl rfl) (by decide) (by decide) (by decide) fun _ _ => ⟨_, rfl⟩
theorem ok_is_key (T : All K mg w.params) (Bm : BM base mg) : FnD P w base T.is_key 1 sp_is_key := by
  exact def_ok (k := 0) T.is_key.F sc_is_key _ (len_of (n := 1) len_is_key) (fun cdv A outer s H E hq hr => (dss_cons (ds_if (PW.pt (dw_or (dt_not (dt_val (de_callB call_isi lc_isi rfl T.z_isinstance bt_isinstance (da_cons (dv 0) (da_cons (de_ty rfl T.z_str bt_str) da_nil))))) (dw_or1 (dt_not (dt_chain opr_le lr_cmp opr_le lr_cmp de_int (de_callB cr_len lc_len rfl T.z_len bt_len (da_cons (dv 0) da_nil)) (de_gint T.c_LONGEST_KEY)))))) (dss_one (ds_ret de_bl)) dss_nil)
    (dss_one (ds_ret (de_callB (cr_all rfl) lc_all rfl T.z_all bt_all (da_cons (de_lc (own := [("letter", 1)]) rfl sc_is_key.nd (blkOk_by (show blkC ["value", "letter"] (defScope s_is_key) _ [("letter", 1)] = true by decide +kernel)) (own_name (by decide)) (di_seq (dv 0)) (fun _ _ _ _ _ => (pg_name (i := 1) sc_is_key.nd rfl (by first | exact Or.inl rfl | exact Or.inr rfl) (by first | exact .inl rfl | exact .inr rfl))) (fun _ _ _ _ _ => dts_nil) (fun _ _ _ _ _ => (de_cmp opr_in lr_in (dv 1) (de_gstr T.c_LETTERS) (by with_unfolding_all rfl)))) da_nil)))))) fun ds μ Q E h => read_is_key ds μ Q E h
theorem ok_parents_by_key (T : All K mg w.params) (Bm : BM base mg) : FnD P w base T.parents_by_key 1 sp_parents_by_key := by
  exact def_ok (k := 0) T.parents_by_key.F sc_parents_by_key _ (len_of (n := 1) len_parents_by_key) (fun cdv A outer s H E hq hr => (dss_cons (ds_par (i := 1) (j := 2) rfl sc_parents_by_key.nd rfl rfl (by decide) rfl rfl (da_cons (de_dispM (dps_cons (de_ix (dv 0) de_int (fun _ _ => rfl)) de_non dps_nil) rfl rfl (by simp) (by decide) (by decide)) (da_cons (de_lstM (da_cons (dv 0) da_nil)) da_nil)) rfl)
    (dss_cons (ds_while PassesOwn.never (dt_cmp (opr_ne (unit64 hr)) lr_ne (dv 2) (de_lst da_nil) (nomark _)) (dss_cons (ds_asg (de_pop (dv 2)) (dg_tup rfl (dgs_cons (dg_name (i := 3) sc_parents_by_key.nd rfl (by first | exact Or.inl rfl | exact Or.inr rfl)) (dgs_cons (dg_name (i := 4) sc_parents_by_key.nd rfl (by first | exact Or.inl rfl | exact Or.inr rfl)) dgs_nil))))
    (dss_one (ds_for PassesOwn.never rfl (di_seq (dv 4)) (dg_name (i := 5) sc_parents_by_key.nd rfl (by first | exact Or.inl rfl | exact Or.inr rfl)) (dss_cons (ds_dput (hu_of hr) (dv 1) (de_ix (dv 5) de_int (fun _ _ => rfl)) (dv 3) rfl)
    (dss_one (ds_expr (de_append (dv 2) (dv 5)))))))))
    (dss_one (ds_ret (dv 1)))))) fun ds μ Q E h => read_parents_by_key ds μ Q E h
theorem ok_children_by_key (T : All K mg w.params) (Bm : BM base mg) : FnD P w base T.children_by_key 1 sp_children_by_key := by
  exact def_ok (k := 0) T.children_by_key.F sc_children_by_key _ (len_of (n := 1) len_children_by_key) (fun cdv A outer s H E hq hr => (dss_cons (ds_par (i := 1) (j := 2) rfl sc_children_by_key.nd rfl rfl (by decide) rfl rfl (da_cons de_dict0M (da_cons (de_lstM (da_cons (dv 0) da_nil)) da_nil)) rfl)
    (dss_cons (ds_while PassesOwn.never (dt_cmp (opr_ne (unit64 hr)) lr_ne (dv 2) (de_lst da_nil) (nomark _)) (dss_cons (ds_asg (de_pop (dv 2)) (dg_tup rfl (dgs_cons (dg_name (i := 3) sc_children_by_key.nd rfl (by first | exact Or.inl rfl | exact Or.inr rfl)) (dgs_cons (dg_name (i := 4) sc_children_by_key.nd rfl (by first | exact Or.inl rfl | exact Or.inr rfl)) dgs_nil))))
    (dss_cons (ds_dput (hu_of hr) (dv 1) (dv 3) (de_callT call_tuple_of lc_tuple rfl T.z_tuple bt_tuple (da_cons (de_lc (own := [("child", 5)]) rfl sc_children_by_key.nd (blkOk_by (show blkC ["tree", "found", "waiting", "key", "children", "child"] (defScope s_children_by_key) _ [("child", 5)] = true by decide +kernel)) (own_name (by decide)) (di_seq (dv 4)) (fun _ _ _ _ _ => (pg_name (i := 5) sc_children_by_key.nd rfl (by first | exact Or.inl rfl | exact Or.inr rfl) (by first | exact .inl rfl | exact .inr rfl))) (fun _ _ _ _ _ => dts_nil) (fun _ _ _ _ _ => (de_ix (dv 5) de_int (fun _ _ => rfl)))) da_nil)) rfl)
    (dss_one (ds_expr (de_extend (dv 2) (dv 4)))))))
    (dss_one (ds_retF (dv 1)))))) fun ds μ Q E h => read_children_by_key ds μ Q E h
theorem ok__law_hand (T : All K mg w.params) (Bm : BM base mg) : FnD P w base T._law_hand 1 sp__law_hand := by
  exact def_ok (k := 0) T._law_hand.F sc__law_hand _ (len_of (n := 2) len__law_hand) (fun cdv A outer s H E hq hr => (dss_cons (ds_set (i := 2) sc__law_hand.nd rfl (by first | exact Or.inl rfl | exact Or.inr rfl) (de_ifExp (dt_cmp opr_lt lr_lt (dv 1) (de_callB cr_len lc_len rfl T.z_len bt_len (da_cons (dv 0) da_nil)) (nomark _)) (de_ix (dv 0) (dv 1) (fun _ _ => rfl)) (de_op opr_add lr_add (de_op opr_mul lr_mul de_int (dv 1)) de_int)))
    (dss_cons (ds_set (i := 3) sc__law_hand.nd rfl (by first | exact Or.inl rfl | exact Or.inr rfl) (de_op opr_mul lr_mul (de_op op_mod lr_i2 (de_callB call_abs lc_abs rfl T.z_abs bt_abs (da_cons (dv 2) da_nil)) (de_op op_powW lr_i2 (de_op op_powW lr_i2 de_int de_int) de_int)) (de_callT call_int1 lc_int rfl T.z_int bt_int (da_cons (de_cmp opr_ge lr_cmp (de_callB call_abs lc_abs rfl T.z_abs bt_abs (da_cons (dv 2) da_nil)) (de_op op_powW lr_i2 de_int de_int) (nomark _)) da_nil))))
    (dss_one (ds_ret (de_lstM (da_cons (dv 3) (da_cons (de_op op_mod lr_i2 (de_op opr_mul lr_mul (de_op opr_add lr_add (de_op opr_add lr_add (de_op op_mod lr_i2 (dv 2) de_int) (de_op opr_mul lr_mul (de_op opr_mul lr_mul de_int (dv 1)) (dv 1))) de_int) de_int) de_int) (da_cons de_int da_nil))))))))) fun ds μ Q E h => read__law_hand ds μ Q E h
theorem ok__law_take (T : All K mg w.params) (Bm : BM base mg) : FnD P w base T._law_take 1 sp__law_take := by
  exact def_ok (k := 0) T._law_take.F sc__law_take _ (len_of (n := 2) len__law_take) (fun cdv A outer s H E hq hr => (dss_cons (ds_if (dt_cmp opr_gt lr_cmp (de_ix (dv 0) de_int (fun _ _ => rfl)) de_int (nomark _)) (dss_cons (ds_set (i := 5) sc__law_take.nd rfl (by first | exact Or.inl rfl | exact Or.inr rfl) (de_op op_mod lr_i2 (de_ix (dv 0) de_int (fun _ _ => rfl)) (dv 1)))
    (dss_cons (ds_asg (de_op op_fdivW lr_i2 (de_ix (dv 0) de_int (fun _ _ => rfl)) (dv 1)) (dg_sub (dv 0) de_int set_list ls_list))
    (dss_one (ds_ret (dv 5))))) dss_nil)
    (dss_cons (ds_set (i := 2) sc__law_take.nd rfl (by first | exact Or.inl rfl | exact Or.inr rfl) (de_op opr_add lr_add (de_ix (dv 0) de_int (fun _ _ => rfl)) de_int))
    (dss_cons (ds_asg (dv 2) (dg_sub (dv 0) de_int set_list ls_list))
    (dss_cons (ds_set (i := 3) sc__law_take.nd rfl (by first | exact Or.inl rfl | exact Or.inr rfl) (de_ix (de_lst (da_cons de_int (da_cons de_int (da_cons de_int (da_cons de_int (da_cons de_int (da_cons de_int da_nil))))))) (de_op op_mod lr_i2 (dv 2) de_int) (fun _ _ => rfl)))
    (dss_cons (ds_set (i := 4) sc__law_take.nd rfl (by first | exact Or.inl rfl | exact Or.inr rfl) (de_op op_mod lr_i2 (de_op op_powW lr_i2 (de_op opr_add lr_add (de_op opr_add lr_add (de_ix (dv 0) de_int (fun _ _ => rfl)) (de_op opr_mul lr_mul (de_op opr_mul lr_mul de_int (dv 2)) (dv 2))) (de_op opr_mul lr_mul de_int (dv 2))) de_int) (dv 3)))
    (dss_one (ds_ret (de_op op_mod lr_i2 (de_op op_fdivW lr_i2 (de_op op_mod lr_i2 (de_op opr_mul lr_mul (dv 4) (de_op opr_add lr_add (de_op op_mod lr_i2 (dv 4) de_int) (de_op opr_mul lr_mul de_int (dv 2)))) de_int) de_int) (dv 1)))))))))) fun ds μ Q E h => read__law_take ds μ Q E h
theorem ok__law_is_key (T : All K mg w.params) (Bm : BM base mg) : FnD P w base T._law_is_key 1 sp__law_is_key := by
  exact def_ok (k := 0) T._law_is_key.F sc__law_is_key _ (len_of (n := 1) len__law_is_key) (fun cdv A outer s H E hq hr => (dss_cons (ds_if (PW.pt (dw_or (dt_not (dt_val (de_callB call_isi lc_isi rfl T.z_isinstance bt_isinstance (da_cons (dv 0) (da_cons (de_ty rfl T.z_str bt_str) da_nil))))) (dw_or1 (dt_not (dt_chain opr_lt lr_lt opr_lt lr_lt de_int (de_callB cr_len lc_len rfl T.z_len bt_len (da_cons (dv 0) da_nil)) de_int))))) (dss_one (ds_ret de_bl)) dss_nil)
    (dss_one (ds_ret (de_callB (cr_all rfl) lc_all rfl T.z_all bt_all (da_cons (de_lc (own := [("_law_letter", 1)]) rfl sc__law_is_key.nd (blkOk_by (show blkC ["_law_thing", "_law_letter"] (defScope s__law_is_key) _ [("_law_letter", 1)] = true by decide +kernel)) (own_name (by decide)) (di_seq (dv 0)) (fun _ _ _ _ _ => (pg_name (i := 1) sc__law_is_key.nd rfl (by first | exact Or.inl rfl | exact Or.inr rfl) (by first | exact .inl rfl | exact .inr rfl))) (fun _ _ _ _ _ => dts_nil) (fun _ _ _ _ _ => (de_cmp opr_in lr_in (dv 1) de_str (by with_unfolding_all rfl)))) da_nil)))))) fun ds μ Q E h => read__law_is_key ds μ Q E h
theorem gv__law_told {X : Cx} (T : All X.K X.mg X.w.params) (cdv : Value) (hq : Quiet X.A) (hr : Room 1 X.A) {q : Str} : GivesS X ["_law_ask", "_law_caught", "error"] "_law_told" (defScope s__law_told) T._law_told.f cdv (defBody s__law_told) "_law_ask" q (TTd X.K q sp__law_told) := by
  exact gives_d _ (fun s H f An th hA ask => have hr := hr.deeper (envOfC "_law_told" (defScope s__law_told) s.heap.objs.size T._law_told.f cdv)
    (sas_cons hA (sa (ds_set (i := 1) sc__law_told.nd rfl (by first | exact Or.inl rfl | exact Or.inr rfl) de_non))
    (sas_cons hA (sa_tryE (i := 2) (j := 1) hA ask rfl rfl rfl sc__law_told.nd ⟨rfl, by decide, .inl T.m_KeyedError⟩ T.exm_KeyedError rfl rfl rfl (by first | exact Or.inl rfl | exact Or.inr rfl | exact Or.inr (Or.inl rfl) | exact Or.inr (Or.inr rfl)) (by first | exact Or.inl rfl | exact Or.inr rfl | exact Or.inr (Or.inl rfl) | exact Or.inr (Or.inr rfl)))
    (sas_cons hA (sa (ds_if (PW.pt (dw_or (dt_isN (dv 1)) (dw_or1 (dt_val (de_isX (dv 1) rfl T.z_isinstance rfl T.m_Impossible T.kit_Impossible))))) (dss_one (ds_ret (de_lst da_nil))) dss_nil))
    (sas_one (sa (ds_ret (de_ifExp (PW.pt (dw_and (dt_val (de_isX (dv 1) rfl T.z_isinstance rfl T.m_BadOperations T.kit_BadOperations)) (dw_and1 (dt_not (dt_val (de_isX (dv 1) rfl T.z_isinstance rfl T.m_NoElement T.kit_NoElement)))))) (de_lst (da_cons (de_fld (dv 1)) da_nil)) de_str)))))))) fun f th μ Q h => read__law_told f th μ Q h
theorem ok_Places_keys_inside (T : All K mg w.params) (Bm : BM base mg) : FnM P w base T.m_Places_keys_inside 1 sp_Places_keys_inside := by
  exact def_ok (k := 0) T.m_Places_keys_inside.F sc_Places_keys_inside _ (len_of (n := 2) len_Places_keys_inside) (fun cdv A outer s H E hq hr => (dss_cons (ds_par (i := 2) (j := 3) rfl sc_Places_keys_inside.nd rfl rfl (by decide) rfl rfl (da_cons (de_lstM (da_cons (dv 1) da_nil)) (da_cons de_int da_nil)) rfl)
    (dss_cons (ds_while PassesOwn.never (dt_cmp opr_lt lr_lt (dv 3) (de_callB cr_len lc_len rfl T.z_len bt_len (da_cons (dv 2) da_nil)) (nomark _)) (dss_cons (ds_expr (de_extend (dv 2) (de_dget (hu_of hr) (de_attr T.o_Places T.n_Places_child_keys (dv 0)) (de_ix (dv 2) (dv 3) (fun _ _ => rfl)) (fun _ _ => rfl))))
    (dss_one (ds_augI (i := 3) ip_add sc_Places_keys_inside.nd rfl (by first | exact Or.inl rfl | exact Or.inr rfl) de_int))))
    (dss_one (ds_retF (dv 2)))))) fun ds μ Q E h => read_Places_keys_inside ds μ Q E h
theorem ok_Places_is_target (T : All K mg w.params) (Bm : BM base mg) : FnM P w base T.m_Places_is_target 1 sp_Places_is_target := by
  exact def_ok (k := 0) T.m_Places_is_target.F sc_Places_is_target _ (len_of (n := 4) len_Places_is_target) (fun cdv A outer s H E hq hr => (dss_cons (ds_if (dt_dnotin (hu_of hr) (dv 1) (de_attr T.o_Places T.n_Places_parent_keys (dv 0))) (dss_one (ds_ret de_bl)) dss_nil)
    (dss_one (ds_ret (de_or (de_isN (dv 2)) (de_one (de_and (de_cmp (opr_ne (unit64 hr)) lr_ne (dv 2) (dv 3) (nomark _)) (de_one (de_cmp (opr_eq (unit64 hr)) lr_eq (de_dget1 (hu_of hr) (de_attr T.o_Places T.n_Places_parent_keys (dv 0)) (dv 2) ⟨by rfl, by rfl, by rfl, by rfl⟩) (dv 1) (nomark _)))))))))) fun ds μ Q E h => read_Places_is_target ds μ Q E h
theorem ok_Places_put (T : All K mg w.params) (Bm : BM base mg) : FnM P w base T.m_Places_put 1 sp_Places_put := by
  exact def_ok (k := 0) T.m_Places_put.F sc_Places_put _ (len_of (n := 4) len_Places_put) (fun cdv A outer s H E hq hr => (dss_cons (ds_set (i := 4) sc_Places_put.nd rfl (by first | exact Or.inl rfl | exact Or.inr rfl) (de_dget (hu_of hr) (de_attr T.o_Places T.n_Places_child_keys (dv 0)) (dv 2) (fun _ _ => rfl)))
    (dss_cons (ds_expr (de_insert (dv 4) (de_ifExp (dt_isN (dv 3)) (de_callB cr_len lc_len rfl T.z_len bt_len (da_cons (dv 4) da_nil)) (de_index (dv 4) (dv 3))) (dv 1)))
    (dss_one (ds_dput (hu_of hr) (de_attr T.o_Places T.n_Places_parent_keys (dv 0)) (dv 1) (dv 2) rfl))))) fun ds μ Q E h => read_Places_put ds μ Q E h
theorem ok_is_operation (T : All K mg w.params) (Bm : BM base mg) : FnD P w base T.is_operation 2 sp_is_operation := by
  have F_is_key := ok_is_key (P := P) (w := w) (base := base) T Bm
  exact def_ok (k := 1) T.is_operation.F sc_is_operation _ (len_of (n := 1) len_is_operation) (fun cdv A outer s H E hq hr => (dss_cons (ds_if (PW.pt (dw_or (dt_not (dt_val (de_callB call_isi lc_isi rfl T.z_isinstance bt_isinstance (da_cons (dv 0) (da_cons (de_ty rfl T.z_tuple bt_tuple) da_nil))))) (dw_or (dt_cmp (opr_eqT0 (unit64 hr)) lr_T0 (dv 0) (de_tup da_nil) (nomark _)) (dw_or (dt_not (dt_val (de_callB call_isi lc_isi rfl T.z_isinstance bt_isinstance (da_cons (de_ix (dv 0) de_int (fun _ _ => rfl)) (da_cons (de_ty rfl T.z_str bt_str) da_nil))))) (dw_or1 (dt_gNotIn T.g_SIZES (de_ix (dv 0) de_int (fun _ _ => rfl)))))))) (dss_one (ds_ret de_bl)) dss_nil)
    (dss_cons (ds_if (PW.pt (dw_or (dt_cmp (opr_ne (unit64 hr)) lr_ne (de_callB cr_len lc_len rfl T.z_len bt_len (da_cons (dv 0) da_nil)) (de_gIx T.g_SIZES (de_ix (dv 0) de_int (fun _ _ => rfl)) (fun _ _ => rfl)) (nomark _)) (dw_or1 (dt_not (dt_val (de_def F_is_key hq hr (da_cons (de_ix (dv 0) de_int (fun _ _ => rfl)) da_nil))))))) (dss_one (ds_ret de_bl)) dss_nil)
    (dss_one (ds_ret (de_or (de_cmp (opr_eq (unit64 hr)) lr_eq (de_ix (dv 0) de_int (fun _ _ => rfl)) (de_gstr T.c_REMOVE) (nomark _)) (de_one (de_and (de_def F_is_key hq hr (da_cons (de_ix (dv 0) de_int (fun _ _ => rfl)) da_nil)) (de_one (de_or (de_isN (de_ix (dv 0) de_int (fun _ _ => rfl))) (de_one (de_def F_is_key hq hr (da_cons (de_ix (dv 0) de_int (fun _ _ => rfl)) da_nil))))))))))))) fun ds μ Q E h => read_is_operation ds μ Q E h
theorem ok__law_of (T : All K mg w.params) (Bm : BM base mg) : FnD P w base T._law_of 2 sp__law_of := by
  have F__law_take := ok__law_take (P := P) (w := w) (base := base) T Bm
  exact def_ok (k := 1) T._law_of.F sc__law_of _ (len_of (n := 2) len__law_of) (fun cdv A outer s H E hq hr => (dss_one (ds_ret (de_ix (dv 1) (de_def F__law_take hq hr (da_cons (dv 0) (da_cons (de_callB cr_len lc_len rfl T.z_len bt_len (da_cons (dv 1) da_nil)) da_nil))) (fun _ _ => rfl))))) fun ds μ Q E h => read__law_of ds μ Q E h
theorem ok__law_is_deed (T : All K mg w.params) (Bm : BM base mg) : FnD P w base T._law_is_deed 2 sp__law_is_deed := by
  have F__law_is_key := ok__law_is_key (P := P) (w := w) (base := base) T Bm
  exact def_ok (k := 1) T._law_is_deed.F sc__law_is_deed _ (len_of (n := 1) len__law_is_deed) (fun cdv A outer s H E hq hr => (dss_cons (ds_if (PW.pt (dw_or (dt_not (dt_val (de_callB call_isi lc_isi rfl T.z_isinstance bt_isinstance (da_cons (dv 0) (da_cons (de_ty rfl T.z_tuple bt_tuple) da_nil))))) (dw_or (dt_cmp opr_lt lr_lt (de_callB cr_len lc_len rfl T.z_len bt_len (da_cons (dv 0) da_nil)) de_int (nomark _)) (dw_or1 (dt_not (dt_val (de_def F__law_is_key hq hr (da_cons (de_ix (dv 0) de_int (fun _ _ => rfl)) da_nil)))))))) (dss_one (ds_ret de_bl)) dss_nil)
    (dss_cons (ds_if (dt_cmp (opr_eq (unit64 hr)) lr_eq (de_ix (dv 0) de_int (fun _ _ => rfl)) de_str (nomark _)) (dss_one (ds_ret (de_cmp (opr_eq (unit64 hr)) lr_eq (de_callB cr_len lc_len rfl T.z_len bt_len (da_cons (dv 0) da_nil)) de_int (nomark _)))) dss_nil)
    (dss_cons (ds_if (PW.pt (dw_or (dt_cmp opr_notIn lr_in (de_ix (dv 0) de_int (fun _ _ => rfl)) (de_tup (da_cons de_str (da_cons de_str da_nil))) (by with_unfolding_all rfl)) (dw_or (dt_cmp (opr_ne (unit64 hr)) lr_ne (de_callB cr_len lc_len rfl T.z_len bt_len (da_cons (dv 0) da_nil)) de_int (nomark _)) (dw_or1 (dt_not (dt_val (de_def F__law_is_key hq hr (da_cons (de_ix (dv 0) de_int (fun _ _ => rfl)) da_nil)))))))) (dss_one (ds_ret de_bl)) dss_nil)
    (dss_one (ds_ret (de_or (de_isN (de_ix (dv 0) de_int (fun _ _ => rfl))) (de_one (de_def F__law_is_key hq hr (da_cons (de_ix (dv 0) de_int (fun _ _ => rfl)) da_nil)))))))))) fun ds μ Q E h => read__law_is_deed ds μ Q E h
theorem ok_Places_init (T : All K mg w.params) (Bm : BM base mg) : FnI P w base T.i_Places 2 sp_Places_init := by
  have F_children_by_key := ok_children_by_key (P := P) (w := w) (base := base) T Bm
  have F_parents_by_key := ok_parents_by_key (P := P) (w := w) (base := base) T Bm
  exact def_ok (k := 1) T.i_Places.F sc_Places_init _ (len_of (n := 2) len_Places_init) (fun cdv A outer s H E hq hr => (dss_cons (ds_putA T.o_Places T.n_Places_root_key (dv 0) (de_ix (dv 1) de_int (fun _ _ => rfl)))
    (dss_cons (ds_putA T.o_Places T.n_Places_parent_keys (dv 0) (de_def F_parents_by_key hq hr (da_cons (dv 1) da_nil)))
    (dss_one (ds_putA T.o_Places T.n_Places_child_keys (dv 0) (de_dcItems (own := [("key", 2), ("children", 3)]) rfl sc_Places_init.nd (blkOk_by (show blkC ["self", "tree", "key", "children"] (defScope s_Places_init) _ [("key", 2), ("children", 3)] = true by decide +kernel)) (own_tup (by decide)) (de_def F_children_by_key hq hr (da_cons (dv 1) da_nil)) (fun _ _ _ _ _ => (pg_tup rfl (pgs_cons (pg_name (i := 2) sc_Places_init.nd rfl (by first | exact Or.inl rfl | exact Or.inr rfl) (by first | exact .inl rfl | exact .inr rfl)) (pgs_cons (pg_name (i := 3) sc_Places_init.nd rfl (by first | exact Or.inl rfl | exact Or.inr rfl) (by first | exact .inl rfl | exact .inr rfl)) pgs_nil rfl) rfl) rfl)) (fun _ _ _ _ _ => dts_nil) (fun _ _ _ _ _ => (dv 2)) (fun _ _ _ _ _ => (de_callT call_list_of lc_listM rfl T.z_list bt_list (da_cons (dv 3) da_nil))))))))) fun ds μ Q E h => read_Places_init ds μ Q E h
theorem ok_Places_is_possible (T : All K mg w.params) (Bm : BM base mg) : FnM P w base T.m_Places_is_possible 2 sp_Places_is_possible := by
  have F_Places_keys_inside := ok_Places_keys_inside (P := P) (w := w) (base := base) T Bm
  have F_Places_is_target := ok_Places_is_target (P := P) (w := w) (base := base) T Bm
  exact def_ok (k := 1) T.m_Places_is_possible.F sc_Places_is_possible _ (len_of (n := 2) len_Places_is_possible) (fun cdv A outer s H E hq hr => (dss_cons (ds_set (i := 2) sc_Places_is_possible.nd rfl (by first | exact Or.inl rfl | exact Or.inr rfl) (de_ix (dv 1) de_int (fun _ _ => rfl)))
    (dss_cons (ds_if (dt_cmp (opr_eq (unit64 hr)) lr_eq (de_ix (dv 1) de_int (fun _ _ => rfl)) (de_gstr T.c_CREATE) (nomark _)) (dss_one (ds_ret (de_and (de_dnotin (hu_of hr) (dv 2) (de_attr T.o_Places T.n_Places_parent_keys (dv 0))) (de_one (de_meth (M := T.m_Places_is_target) F_Places_is_target hq hr (dv 0) (da_cons (de_ix (dv 1) de_int (fun _ _ => rfl)) (da_cons (de_ix (dv 1) de_int (fun _ _ => rfl)) (da_cons de_non da_nil)))))))) dss_nil)
    (dss_cons (ds_if (PW.pt (dw_or (dt_dnotin (hu_of hr) (dv 2) (de_attr T.o_Places T.n_Places_parent_keys (dv 0))) (dw_or1 (dt_cmp (opr_eq (unit64 hr)) lr_eq (dv 2) (de_attr T.o_Places T.n_Places_root_key (dv 0)) (nomark _))))) (dss_one (ds_ret de_bl)) dss_nil)
    (dss_cons (ds_if (dt_cmp (opr_eq (unit64 hr)) lr_eq (de_ix (dv 1) de_int (fun _ _ => rfl)) (de_gstr T.c_REMOVE) (nomark _)) (dss_one (ds_ret de_bl)) dss_nil)
    (dss_one (ds_ret (de_and (de_cmp opr_notIn lr_in (de_ix (dv 1) de_int (fun _ _ => rfl)) (de_meth (M := T.m_Places_keys_inside) F_Places_keys_inside hq hr (dv 0) (da_cons (dv 2) da_nil)) (by with_unfolding_all rfl)) (de_one (de_meth (M := T.m_Places_is_target) F_Places_is_target hq hr (dv 0) (da_cons (de_ix (dv 1) de_int (fun _ _ => rfl)) (da_cons (de_ix (dv 1) de_int (fun _ _ => rfl)) (da_cons (dv 2) da_nil))))))))))))) fun ds μ Q E h => read_Places_is_possible ds μ Q E h
theorem ok_Places_execute (T : All K mg w.params) (Bm : BM base mg) : FnM P w base T.m_Places_execute 2 sp_Places_execute := by
  have F_Places_keys_inside := ok_Places_keys_inside (P := P) (w := w) (base := base) T Bm
  have F_Places_put := ok_Places_put (P := P) (w := w) (base := base) T Bm
  exact def_ok (k := 1) T.m_Places_execute.F sc_Places_execute _ (len_of (n := 2) len_Places_execute) (fun cdv A outer s H E hq hr => (dss_cons (ds_set (i := 2) sc_Places_execute.nd rfl (by first | exact Or.inl rfl | exact Or.inr rfl) (de_ix (dv 1) de_int (fun _ _ => rfl)))
    (dss_cons (ds_if (dt_cmp (opr_eq (unit64 hr)) lr_eq (de_ix (dv 1) de_int (fun _ _ => rfl)) (de_gstr T.c_CREATE) (nomark _)) (dss_one (ds_dput (hu_of hr) (de_attr T.o_Places T.n_Places_child_keys (dv 0)) (dv 2) (de_lstM da_nil) rfl)) (dss_one (ds_expr (de_remove (de_dget (hu_of hr) (de_attr T.o_Places T.n_Places_child_keys (dv 0)) (de_dget (hu_of hr) (de_attr T.o_Places T.n_Places_parent_keys (dv 0)) (dv 2) (fun _ _ => rfl)) (fun _ _ => rfl)) (dv 2)))))
    (dss_one (ds_if (dt_cmp (opr_eq (unit64 hr)) lr_eq (de_ix (dv 1) de_int (fun _ _ => rfl)) (de_gstr T.c_REMOVE) (nomark _)) (dss_one (ds_for PassesOwn.never rfl (di_seq (de_meth (M := T.m_Places_keys_inside) F_Places_keys_inside hq hr (dv 0) (da_cons (dv 2) da_nil))) (dg_name (i := 3) sc_Places_execute.nd rfl (by first | exact Or.inl rfl | exact Or.inr rfl)) (dss_cons (ds_expr (de_dpop1 (de_attr T.o_Places T.n_Places_parent_keys (dv 0)) (dv 3) ⟨by rfl, by rfl, by rfl, by rfl⟩))
    (dss_one (ds_expr (de_dpop1 (de_attr T.o_Places T.n_Places_child_keys (dv 0)) (dv 3) ⟨by rfl, by rfl, by rfl, by rfl⟩)))))) (dss_one (ds_expr (de_meth (M := T.m_Places_put) F_Places_put hq hr (dv 0) (da_cons (dv 2) (da_cons (de_ix (dv 1) de_int (fun _ _ => rfl)) (da_cons (de_ix (dv 1) de_int (fun _ _ => rfl)) da_nil))))))))))) fun ds μ Q E h => read_Places_execute ds μ Q E h
theorem ok_are_operations (T : All K mg w.params) (Bm : BM base mg) : FnD P w base T.are_operations 3 sp_are_operations := by
  have F_is_operation := ok_is_operation (P := P) (w := w) (base := base) T Bm
  exact def_ok (k := 2) T.are_operations.F sc_are_operations _ (len_of (n := 1) len_are_operations) (fun cdv A outer s H E hq hr => (dss_cons (ds_if (PW.pt (dw_or (dt_not (dt_val (de_callB call_isi lc_isi rfl T.z_isinstance bt_isinstance (da_cons (dv 0) (da_cons (de_ty rfl T.z_tuple bt_tuple) da_nil))))) (dw_or1 (dt_cmp opr_gt lr_cmp (de_callB cr_len lc_len rfl T.z_len bt_len (da_cons (dv 0) da_nil)) (de_gint T.c_MOST_OPERATIONS) (nomark _))))) (dss_one (ds_ret de_bl)) dss_nil)
    (dss_one (ds_ret (de_callB (cr_all rfl) lc_all rfl T.z_all bt_all (da_cons (de_lc (own := [("operation", 1)]) rfl sc_are_operations.nd (blkOk_by (show blkC ["value", "operation"] (defScope s_are_operations) _ [("operation", 1)] = true by decide +kernel)) (own_name (by decide)) (di_seq (dv 0)) (fun _ _ _ _ _ => (pg_name (i := 1) sc_are_operations.nd rfl (by first | exact Or.inl rfl | exact Or.inr rfl) (by first | exact .inl rfl | exact .inr rfl))) (fun _ _ _ _ _ => dts_nil) (fun _ _ _ _ _ => (de_def F_is_operation hq hr (da_cons (dv 1) da_nil)))) da_nil)))))) fun ds μ Q E h => read_are_operations ds μ Q E h
theorem ok__law_keys (T : All K mg w.params) (Bm : BM base mg) : FnD P w base T._law_keys 3 sp__law_keys := by
  have F__law_take := ok__law_take (P := P) (w := w) (base := base) T Bm
  have F__law_of := ok__law_of (P := P) (w := w) (base := base) T Bm
  exact def_ok (k := 2) T._law_keys.F sc__law_keys _ (len_of (n := 2) len__law_keys) (fun cdv A outer s H E hq hr => (dss_cons (ds_set (i := 2) sc__law_keys.nd rfl (by first | exact Or.inl rfl | exact Or.inr rfl) de_str)
    (dss_cons (ds_par (i := 3) (j := 4) rfl sc__law_keys.nd rfl rfl (by decide) rfl rfl (da_cons (de_def F__law_take hq hr (da_cons (dv 0) (da_cons de_int da_nil))) (da_cons (de_def F__law_of hq hr (da_cons (dv 0) (da_cons (de_lst (da_cons de_int (da_cons de_int (da_cons de_int (da_cons de_int (da_cons de_int (da_cons de_int da_nil))))))) da_nil))) da_nil)) rfl)
    (dss_cons (ds_set (i := 5) sc__law_keys.nd rfl (by first | exact Or.inl rfl | exact Or.inr rfl) (de_op opr_mul lr_mul (de_def F__law_of hq hr (da_cons (dv 0) (da_cons (dv 2) da_nil))) (de_def F__law_of hq hr (da_cons (dv 0) (da_cons (de_lst (da_cons de_int (da_cons de_int (da_cons de_int (da_cons de_int (da_cons de_int da_nil)))))) da_nil)))))
    (dss_cons (ds_set (i := 6) sc__law_keys.nd rfl (by first | exact Or.inl rfl | exact Or.inr rfl) (de_lstM da_nil))
    (dss_cons (ds_for PassesOwn.never rfl (di_range1 rfl T.z_range (da_cons (dv 1) da_nil)) (dg_name (i := 7) sc__law_keys.nd rfl (by first | exact Or.inl rfl | exact Or.inr rfl)) (dss_cons (ds_set (i := 8) sc__law_keys.nd rfl (by first | exact Or.inl rfl | exact Or.inr rfl) (de_ifExp (dt_cmp opr_gt lr_cmp (dv 7) de_int (nomark _)) (de_ix (dv 2) (de_op op_sub lr_sub (de_op op_fdivW lr_i2 (dv 7) de_int) de_int) (fun _ _ => rfl)) de_str))
    (dss_one (ds_expr (de_append (dv 6) (de_op opr_add lr_add (de_op opr_add lr_add (dv 5) (de_ix (dv 2) (de_op op_mod lr_i2 (de_op opr_add lr_add (dv 3) (de_op opr_mul lr_mul (dv 4) (dv 7))) de_int) (fun _ _ => rfl))) (dv 8)))))))
    (dss_one (ds_retF (dv 6))))))))) fun ds μ Q E h => read__law_keys ds μ Q E h
theorem ok__law_odd (T : All K mg w.params) (Bm : BM base mg) : FnD P w base T._law_odd 3 sp__law_odd := by
  have F__law_take := ok__law_take (P := P) (w := w) (base := base) T Bm
  have F__law_of := ok__law_of (P := P) (w := w) (base := base) T Bm
  exact def_ok (k := 2) T._law_odd.F sc__law_odd _ (len_of (n := 1) len__law_odd) (fun cdv A outer s H E hq hr => (dss_cons (ds_set (i := 1) sc__law_odd.nd rfl (by first | exact Or.inl rfl | exact Or.inr rfl) (de_lst (da_cons de_non (da_cons de_bl (da_cons de_bl (da_cons de_int (da_cons de_int (da_cons (de_neg de_int) (da_cons (de_op op_powW lr_i2 de_int de_int) (da_cons de_str (da_cons de_str (da_cons de_str (da_cons de_str (da_cons de_str (da_cons de_str (da_cons (de_tup da_nil) (da_cons (de_lst da_nil) (da_cons de_dict0S (da_cons (de_tup (da_cons de_str (da_cons (de_tup da_nil) da_nil))) (da_cons (de_tup (da_cons de_str da_nil)) da_nil))))))))))))))))))))
    (dss_cons (ds_set (i := 2) sc__law_odd.nd rfl (by first | exact Or.inl rfl | exact Or.inr rfl) (de_def F__law_of hq hr (da_cons (dv 0) (da_cons (de_op opr_add lr_add (dv 1) (de_lst (da_cons (de_tup (da_cons de_str (da_cons de_str (da_cons de_str (da_cons de_non da_nil))))) (da_cons (de_tup (da_cons de_str (da_cons de_str da_nil))) (da_cons (de_tup (da_cons (de_tup (da_cons de_str (da_cons de_int da_nil))) da_nil)) da_nil))))) da_nil))))
    (dss_cons (ds_for PassesOwn.never rfl (di_range1 rfl T.z_range (da_cons (de_def F__law_of hq hr (da_cons (dv 0) (da_cons (de_lst (da_cons de_int (da_cons de_int (da_cons de_int (da_cons de_int (da_cons de_int (da_cons de_int da_nil))))))) da_nil))) da_nil)) (dg_name (i := 3) sc__law_odd.nd rfl (by first | exact Or.inl rfl | exact Or.inr rfl)) (dss_one (ds_set (i := 2) sc__law_odd.nd rfl (by first | exact Or.inl rfl | exact Or.inr rfl) (de_ifExp (dt_cmp (opr_eq (unit64 hr)) lr_eq (de_def F__law_take hq hr (da_cons (dv 0) (da_cons de_int da_nil))) de_int (nomark _)) (de_tup (da_cons (dv 2) da_nil)) (de_lst (da_cons (dv 2) da_nil))))))
    (dss_one (ds_ret (dv 2))))))) fun ds μ Q E h => read__law_odd ds μ Q E h
theorem ok__law_drawn (T : All K mg w.params) (Bm : BM base mg) : FnD P w base T._law_drawn 3 sp__law_drawn := by
  have F__law_of := ok__law_of (P := P) (w := w) (base := base) T Bm
  exact def_ok (k := 2) T._law_drawn.F sc__law_drawn _ (len_of (n := 2) len__law_drawn) (fun cdv A outer s H E hq hr => (dss_cons (ds_par (i := 2) (j := 3) rfl sc__law_drawn.nd rfl rfl (by decide) rfl rfl (da_cons (de_def F__law_of hq hr (da_cons (dv 0) (da_cons (de_lst (da_cons de_str (da_cons de_str (da_cons de_str (da_cons de_str da_nil))))) da_nil))) (da_cons (de_def F__law_of hq hr (da_cons (dv 0) (da_cons (de_lst (da_cons de_non (da_cons (de_def F__law_of hq hr (da_cons (dv 0) (da_cons (dv 1) da_nil))) da_nil))) da_nil))) da_nil)) rfl)
    (dss_one (ds_ret (de_slice (de_tup (da_cons (dv 2) (da_cons (de_def F__law_of hq hr (da_cons (dv 0) (da_cons (dv 1) da_nil))) (da_cons (de_def F__law_of hq hr (da_cons (dv 0) (da_cons (dv 1) da_nil))) (da_cons (dv 3) da_nil))))) do_none (do_some (de_op opr_add lr_add de_int (de_op opr_mul lr_mul de_int (de_callT call_int1 lc_int rfl T.z_int bt_int (da_cons (de_cmp (opr_ne (unit64 hr)) lr_ne (dv 2) de_str (nomark _)) da_nil)))))))))) fun ds μ Q E h => read__law_drawn ds μ Q E h
theorem ok__law_are_deeds (T : All K mg w.params) (Bm : BM base mg) : FnD P w base T._law_are_deeds 3 sp__law_are_deeds := by
  have F__law_is_deed := ok__law_is_deed (P := P) (w := w) (base := base) T Bm
  exact def_ok (k := 2) T._law_are_deeds.F sc__law_are_deeds _ (len_of (n := 1) len__law_are_deeds) (fun cdv A outer s H E hq hr => (dss_cons (ds_if (PW.pt (dw_or (dt_not (dt_val (de_callB call_isi lc_isi rfl T.z_isinstance bt_isinstance (da_cons (dv 0) (da_cons (de_ty rfl T.z_tuple bt_tuple) da_nil))))) (dw_or1 (dt_cmp opr_gt lr_cmp (de_callB cr_len lc_len rfl T.z_len bt_len (da_cons (dv 0) da_nil)) de_int (nomark _))))) (dss_one (ds_ret de_bl)) dss_nil)
    (dss_cons (ds_for PassesOwn.never rfl (di_seq (dv 0)) (dg_name (i := 1) sc__law_are_deeds.nd rfl (by first | exact Or.inl rfl | exact Or.inr rfl)) (dss_one (ds_if (PW.pt (dw_or (dt_not (dt_val (de_callB call_isi lc_isi rfl T.z_isinstance bt_isinstance (da_cons (dv 1) (da_cons (de_ty rfl T.z_tuple bt_tuple) da_nil))))) (dw_or (dt_cmp (opr_eqT0 (unit64 hr)) lr_T0 (dv 1) (de_tup da_nil) (nomark _)) (dw_or (dt_not (dt_val (de_callB call_isi lc_isi rfl T.z_isinstance bt_isinstance (da_cons (de_ix (dv 1) de_int (fun _ _ => rfl)) (da_cons (de_ty rfl T.z_str bt_str) da_nil))))) (dw_or1 (dt_not (dt_val (de_def F__law_is_deed hq hr (da_cons (dv 1) da_nil))))))))) (dss_one (ds_ret de_bl)) dss_nil)))
    (dss_one (ds_ret de_bl))))) fun ds μ Q E h => read__law_are_deeds ds μ Q E h
theorem ok__law_bent (T : All K mg w.params) (Bm : BM base mg) : ∀ n, FnD P w base T._law_bent (n + 4) (sp__law_bent n) := by
  have F__law_odd := ok__law_odd (P := P) (w := w) (base := base) T Bm
  have F__law_of := ok__law_of (P := P) (w := w) (base := base) T Bm
  have F__law_take := ok__law_take (P := P) (w := w) (base := base) T Bm
  intro n
  induction n with
  | zero => exact (FnG.no _ _ _).imp fun vs H Q E h => by obtain ⟨_, _, _, _, _, _, _, h, _⟩ := h; exact (no__law_bent h).elim
  | succ n ih =>
    have F__law_bent := ih
    exact def_ok (k := n + 4) T._law_bent.F sc__law_bent _ (len_of (n := 2) len__law_bent) (fun cdv A outer s H E hq hr => (dss_cons (ds_if (PW.pt (dw_and (dt_val (de_callB call_isi lc_isi rfl T.z_isinstance bt_isinstance (da_cons (dv 1) (da_cons (de_ty rfl T.z_tuple bt_tuple) da_nil)))) (dw_and (dt_cmp (opr_neT0 (unit64 hr)) lr_T0 (dv 1) (de_tup da_nil) (nomark _)) (dw_and1 (dt_cmp opr_gt lr_cmp (de_def F__law_take hq hr (da_cons (dv 0) (da_cons de_int da_nil))) de_int (nomark _)))))) (dss_cons (ds_par (i := 2) (j := 3) rfl sc__law_bent.nd rfl rfl (by decide) rfl rfl (da_cons (de_def F__law_take hq hr (da_cons (dv 0) (da_cons (de_callB cr_len lc_len rfl T.z_len bt_len (da_cons (dv 1) da_nil)) da_nil))) (da_cons (de_def F__law_take hq hr (da_cons (dv 0) (da_cons de_int da_nil))) da_nil)) rfl)
    (dss_cons (ds_if (dt_cmp opr_lt lr_lt (dv 3) de_int (nomark _)) (dss_one (ds_ret (de_op opr_add lr_add (de_op opr_add lr_add (de_slice (dv 1) do_none (do_some (dv 2))) (de_tup (da_cons (de_def F__law_bent hq hr (da_cons (dv 0) (da_cons (de_ix (dv 1) (dv 2) (fun _ _ => rfl)) da_nil))) da_nil))) (de_slice (dv 1) (do_some (de_op opr_add lr_add (dv 2) de_int)) do_none)))) dss_nil)
    (dss_one (ds_ret (de_ix (de_lst (da_cons (de_op opr_add lr_add (de_slice (dv 1) do_none (do_some (dv 2))) (de_slice (dv 1) (do_some (de_op opr_add lr_add (dv 2) de_int)) do_none)) (da_cons (de_op opr_add lr_add (de_slice (dv 1) do_none (do_some (de_op opr_add lr_add (dv 2) de_int))) (de_slice (dv 1) (do_some (dv 2)) do_none)) (da_cons (de_revX (dv 1)) (da_cons (de_callT call_list_of lc_list rfl T.z_list bt_list (da_cons (dv 1) da_nil)) da_nil))))) (de_op op_sub lr_sub (dv 3) de_int) (fun _ _ => rfl)))))) dss_nil)
    (dss_cons (ds_if (PW.pt (dw_and (dt_val (de_callB call_isi lc_isi rfl T.z_isinstance bt_isinstance (da_cons (dv 1) (da_cons (de_ty rfl T.z_str bt_str) da_nil)))) (dw_and1 (dt_cmp opr_gt lr_cmp (de_def F__law_take hq hr (da_cons (dv 0) (da_cons de_int da_nil))) de_int (nomark _))))) (dss_one (ds_ret (de_def F__law_of hq hr (da_cons (dv 0) (da_cons (de_lst (da_cons (de_op opr_add lr_add (dv 1) de_str) (da_cons (de_slice (dv 1) (do_some de_int) do_none) (da_cons (de_upper (dv 1)) (da_cons (de_op opr_add lr_add (dv 1) de_str) (da_cons (de_revX (dv 1)) (da_cons (de_lst (da_cons (dv 1) da_nil)) (da_cons de_str (da_cons de_str da_nil))))))))) da_nil))))) dss_nil)
    (dss_cons (ds_if (PW.pt (dw_and (dt_val (de_callB call_isi lc_isi rfl T.z_isinstance bt_isinstance (da_cons (dv 1) (da_cons (de_ty rfl T.z_int bt_int) da_nil)))) (dw_and1 (dt_cmp opr_gt lr_cmp (de_def F__law_take hq hr (da_cons (dv 0) (da_cons de_int da_nil))) de_int (nomark _))))) (dss_one (ds_ret (de_def F__law_of hq hr (da_cons (dv 0) (da_cons (de_lst (da_cons (de_op opr_addB lr_IB (dv 1) de_int) (da_cons (de_op opr_subB lr_IB (dv 1) de_int) (da_cons (de_op opr_subB lr_IB de_int (dv 1)) (da_cons de_int (da_cons de_int (da_cons (de_cmp (opr_eq (unit64 hr)) lr_eq (dv 1) de_int (nomark _)) (da_cons (de_callT cr_strOf lc_strOf rfl T.z_str bt_str (da_cons (dv 1) da_nil)) (da_cons de_non da_nil))))))))) da_nil))))) dss_nil)
    (dss_one (ds_ret (de_def F__law_of hq hr (da_cons (dv 0) (da_cons (de_lst (da_cons (de_def F__law_odd hq hr (da_cons (dv 0) da_nil)) (da_cons (de_def F__law_odd hq hr (da_cons (dv 0) da_nil)) (da_cons (de_tup (da_cons (dv 1) da_nil)) (da_cons (de_lst (da_cons (dv 1) da_nil)) da_nil))))) da_nil))))))))) fun ds μ Q E h => read__law_bent n ds μ Q E h
theorem ok_tree_from (T : All K mg w.params) (Bm : BM base mg) : ∀ n, FnD P w base T.tree_from (n + 1) (sp_tree_from n) := by
  intro n
  induction n with
  | zero => exact (FnG.no _ _ _).imp fun vs H Q E h => by obtain ⟨_, _, _, _, _, _, _, h, _⟩ := h; exact (no_tree_from h).elim
  | succ n ih =>
    have F_tree_from := ih
    exact def_ok (k := n + 1) T.tree_from.F sc_tree_from _ (len_of (n := 2) len_tree_from) (fun cdv A outer s H E hq hr => (dss_one (ds_ret (de_tup (da_cons (dv 0) (da_cons (de_callT call_tuple_of lc_tuple rfl T.z_tuple bt_tuple (da_cons (de_lc (own := [("child", 2)]) rfl sc_tree_from.nd (blkOk_by (show blkC ["key", "children", "child"] (defScope s_tree_from) _ [("child", 2)] = true by decide +kernel)) (own_name (by decide)) (di_seq (de_dget (hu_of hr) (dv 1) (dv 0) (fun _ _ => rfl))) (fun _ _ _ _ _ => (pg_name (i := 2) sc_tree_from.nd rfl (by first | exact Or.inl rfl | exact Or.inr rfl) (by first | exact .inl rfl | exact .inr rfl))) (fun _ _ _ _ _ => dts_nil) (fun _ _ _ _ _ => (de_def F_tree_from hq hr (da_cons (dv 2) (da_cons (dv 1) da_nil))))) da_nil)) da_nil)))))) fun ds μ Q E h => read_tree_from n ds μ Q E h
theorem ok_Places_present_tree (T : All K mg w.params) (Bm : BM base mg) : FnM P w base T.m_Places_present_tree 72 sp_Places_present_tree := by
  have F_tree_from := ok_tree_from (P := P) (w := w) (base := base) T Bm 70
  exact def_ok (k := 71) T.m_Places_present_tree.F sc_Places_present_tree _ (len_of (n := 1) len_Places_present_tree) (fun cdv A outer s H E hq hr => (dss_one (ds_ret (de_def F_tree_from hq hr (da_cons (de_attr T.o_Places T.n_Places_root_key (dv 0)) (da_cons (de_attr T.o_Places T.n_Places_child_keys (dv 0)) da_nil)))))) fun ds μ Q E h => read_Places_present_tree ds μ Q E h
theorem ok_moments (T : All K mg w.params) (Bm : BM base mg) : FnX P w base T.moments 73 sp_moments := by
  have X_BadOperations := okx_BadOperations (P := P) (w := w) (base := base) T
  have X_Impossible := okx_Impossible (P := P) (w := w) (base := base) T
  have F_Places_init := ok_Places_init (P := P) (w := w) (base := base) T Bm
  have F_Places_is_possible := ok_Places_is_possible (P := P) (w := w) (base := base) T Bm
  have F_Places_present_tree := ok_Places_present_tree (P := P) (w := w) (base := base) T Bm
  have F_Places_execute := ok_Places_execute (P := P) (w := w) (base := base) T Bm
  have F_are_operations := ok_are_operations (P := P) (w := w) (base := base) T Bm
  exact def_okR (k := 72) T.moments.F sc_moments _ len_moments (fun cdv A outer s H E Ex An hq hr hz => (sas_cons hz.gr (sa_if hz.gr (ta_ (dt_not (dt_val (de_def F_are_operations hq hr (da_cons (dv 1) da_nil))))) (sas_one (sa_raise X_BadOperations hq hr hz (ea (dv 1)))) (sas dss_nil))
    (sas_cons hz.gr (sa (ds_par (i := 2) (j := 3) rfl sc_moments.nd rfl rfl (by decide) rfl rfl (da_cons (de_mkC (M := T.i_Places) F_Places_init hq hr (da_cons (dv 0) da_nil)) (da_cons (de_lstM (da_cons (dv 0) da_nil)) da_nil)) rfl))
    (sas_cons hz.gr (sa_for hz.gr (passes_of rfl) rfl (di_enumT rfl T.z_enumerate (da_cons (dv 1) da_nil)) (dg_tup rfl (dgs_cons (dg_name (i := 4) sc_moments.nd rfl (by first | exact Or.inl rfl | exact Or.inr rfl)) (dgs_cons (dg_name (i := 5) sc_moments.nd rfl (by first | exact Or.inl rfl | exact Or.inr rfl)) dgs_nil))) (sas_cons hz.gr (sa_if hz.gr (ta_ (dt_not (dt_val (de_meth (M := T.m_Places_is_possible) F_Places_is_possible hq hr (dv 2) (da_cons (dv 5) da_nil))))) (sas_one (sa_raise X_Impossible hq hr hz (ea (dv 4)))) (sas dss_nil))
    (sas_cons hz.gr (sa (ds_expr (de_meth (M := T.m_Places_execute) F_Places_execute hq hr (dv 2) (da_cons (dv 5) da_nil))))
    (sas_one (sa (ds_expr (de_append (dv 3) (de_meth0 (M := T.m_Places_present_tree) F_Places_present_tree hq hr (dv 2)))))))))
    (sas_one (sa (ds_ret (de_callT call_tuple_of lc_tuple rfl T.z_tuple bt_tuple (da_cons (dv 3) da_nil))))))))) fun ds μ Q E h => read_moments ds μ Q E h
theorem ok_run (T : All K mg w.params) (Bm : BM base mg) : FnX P w base T.run 74 sp_run := by
  have F_moments := ok_moments (P := P) (w := w) (base := base) T Bm
  exact def_okR (k := 73) T.run.F sc_run _ len_run (fun cdv A outer s H E Ex An hq hr hz => (sas_one (sa_ret (ea_ix hz.gr (ea_def F_moments hq hr hz (aa (da_cons (dv 0) (da_cons (dv 1) da_nil)))) (ea (de_neg de_int)) (fun _ _ => rfl))))) fun ds μ Q E h => read_run ds μ Q E h
theorem ok__law_right (T : All K mg w.params) (Bm : BM base mg) : FnD P w base T._law_right 77 sp__law_right := by
  have F__law_are_deeds := ok__law_are_deeds (P := P) (w := w) (base := base) T Bm
  have F__law_odd := ok__law_odd (P := P) (w := w) (base := base) T Bm
  have F_run := ok_run (P := P) (w := w) (base := base) T Bm
  have F__law_bent := ok__law_bent (P := P) (w := w) (base := base) T Bm 64
  have F__law_take := ok__law_take (P := P) (w := w) (base := base) T Bm
  have F__law_drawn := ok__law_drawn (P := P) (w := w) (base := base) T Bm
  have F__law_keys := ok__law_keys (P := P) (w := w) (base := base) T Bm
  have F_moments := ok_moments (P := P) (w := w) (base := base) T Bm
  have F_are_operations := ok_are_operations (P := P) (w := w) (base := base) T Bm
  exact def_okL (k := 76) T._law_right sc__law_right _ (len_of (n := 1) len__law_right) (fun cdv A outer s H E hq hr how => (dss_cons (ds_set (i := 1) sc__law_right.nd rfl (by first | exact Or.inl rfl | exact Or.inr rfl) (de_def F__law_keys hq hr (da_cons (dv 0) (da_cons de_int da_nil))))
    (dss_cons (ds_set (i := 2) sc__law_right.nd rfl (by first | exact Or.inl rfl | exact Or.inr rfl) (de_callT call_tuple_of lc_tuple rfl T.z_tuple bt_tuple (da_cons (de_lc (own := [("_law_turn", 5)]) rfl sc__law_right.nd (blkOk_by (show blkC ["_law_hand_here", "_law_names", "_law_deeds", "_law_plant", "_law_things", "_law_turn", "_law_thing", "_law_bent_here", "_law_seen", "_law_due", "_law_told_here"] (defScope s__law_right) _ [("_law_turn", 5)] = true by decide +kernel)) (own_name (by decide)) (di_range1 rfl T.z_range (da_cons (de_op opr_add lr_add de_int (de_def F__law_take hq hr (da_cons (dv 0) (da_cons de_int da_nil)))) da_nil)) (fun _ _ _ _ _ => (pg_name (i := 5) sc__law_right.nd rfl (by first | exact Or.inl rfl | exact Or.inr rfl) (by first | exact .inl rfl | exact .inr rfl))) (fun _ _ _ _ _ => dts_nil) (fun _ _ _ _ _ => (de_def F__law_drawn hq hr (da_cons (dv 0) (da_cons (dv 1) da_nil))))) da_nil)))
    (dss_cons (ds_set (i := 3) sc__law_right.nd rfl (by first | exact Or.inl rfl | exact Or.inr rfl) (de_tup (da_cons (de_ix (dv 1) de_int (fun _ _ => rfl)) (da_cons (de_tup (da_cons (de_tup (da_cons (de_ix (dv 1) de_int (fun _ _ => rfl)) (da_cons (de_tup da_nil) da_nil))) (da_cons (de_tup (da_cons (de_ix (dv 1) de_int (fun _ _ => rfl)) (da_cons (de_tup da_nil) da_nil))) da_nil))) da_nil))))
    (dss_cons (ds_set (i := 4) sc__law_right.nd rfl (by first | exact Or.inl rfl | exact Or.inr rfl) (de_lstM (da_cons (dv 2) (da_cons (de_tup da_nil) (da_cons (de_callT call_list_of lc_list rfl T.z_list bt_list (da_cons (dv 2) da_nil)) (da_cons (de_ix (dv 2) de_int (fun _ _ => rfl)) (da_cons (de_op op_repT lr_mulT (de_tup (da_cons (de_tup (da_cons de_str (da_cons (de_ix (dv 1) de_int (fun _ _ => rfl)) da_nil))) da_nil)) de_int) (da_cons (de_op op_repT lr_mulT (de_tup (da_cons (de_tup (da_cons de_str (da_cons (de_ix (dv 1) de_int (fun _ _ => rfl)) da_nil))) da_nil)) de_int) da_nil))))))))
    (dss_cons (ds_for PassesOwn.never rfl (di_range1 rfl T.z_range (da_cons de_int da_nil)) (dg_name (i := 5) sc__law_right.nd rfl (by first | exact Or.inl rfl | exact Or.inr rfl)) (dss_cons (ds_set (i := 7) sc__law_right.nd rfl (by first | exact Or.inl rfl | exact Or.inr rfl) (de_def F__law_bent hq hr (da_cons (dv 0) (da_cons (dv 2) da_nil))))
    (dss_one (ds_expr (de_append (dv 4) (de_ifExp (dt_cmp (opr_eq (unit64 hr)) lr_eq (de_def F__law_take hq hr (da_cons (dv 0) (da_cons de_int da_nil))) de_int (nomark _)) (dv 7) (de_def F__law_bent hq hr (da_cons (dv 0) (da_cons (dv 7) da_nil)))))))))
    (dss_cons (ds_for PassesOwn.never rfl (di_seq (de_op opr_add lr_add (dv 4) (de_lc (own := [("_law_turn", 5)]) rfl sc__law_right.nd (blkOk_by (show blkC ["_law_hand_here", "_law_names", "_law_deeds", "_law_plant", "_law_things", "_law_turn", "_law_thing", "_law_bent_here", "_law_seen", "_law_due", "_law_told_here"] (defScope s__law_right) _ [("_law_turn", 5)] = true by decide +kernel)) (own_name (by decide)) (di_range1 rfl T.z_range (da_cons de_int da_nil)) (fun _ _ _ _ _ => (pg_name (i := 5) sc__law_right.nd rfl (by first | exact Or.inl rfl | exact Or.inr rfl) (by first | exact .inl rfl | exact .inr rfl))) (fun _ _ _ _ _ => dts_nil) (fun _ _ _ _ _ => (de_def F__law_odd hq hr (da_cons (dv 0) da_nil)))))) (dg_name (i := 6) sc__law_right.nd rfl (by first | exact Or.inl rfl | exact Or.inr rfl)) (dss_cons (ds_par (i := 8) (j := 9) rfl sc__law_right.nd rfl rfl (by decide) rfl rfl (da_cons (de_callB (cr_reprQ hq (unit66 hr)) lc_reprQ rfl T.z_repr bt_repr (da_cons (dv 6) da_nil)) (da_cons (de_def F__law_are_deeds hq hr (da_cons (dv 6) da_nil)) da_nil)) rfl)
    (dss_cons (ds_if (dt_cmp (opr_ne (unit64 hr)) lr_ne (de_callB (cr_reprQ hq (unit66 hr)) lc_reprQ rfl T.z_repr bt_repr (da_cons (de_lst (da_cons (de_def F_are_operations hq hr (da_cons (dv 6) da_nil)) (da_cons (de_defK0 F_are_operations hq hr (T.kb_are_operations_0_value) (dk_cons (dv 6) dk_nil)) da_nil))) da_nil)) (de_callB (cr_reprQ hq (unit66 hr)) lc_reprQ rfl T.z_repr bt_repr (da_cons (de_lst (da_cons (dv 9) (da_cons (dv 9) da_nil))) da_nil)) (nomark _)) (dss_one (ds_ret de_bl)) dss_nil)
    (dss_cons (ds_set (i := 10) sc__law_right.nd rfl (by first | exact Or.inl rfl | exact Or.inr rfl) (de_lstM (da_cons (de_lam (D := T._law_told) (k := 74) (ttd := sp__law_told) Bm how hq hr (fun cdv2 => gv__law_told (X := (cxOf CX0 P w K mg base ["_law_hand_here", "_law_names", "_law_deeds", "_law_plant", "_law_things", "_law_turn", "_law_thing", "_law_bent_here", "_law_seen", "_law_due", "_law_told_here"] "_law_right" (defScope s__law_right) T._law_right.f cdv A outer s H E).nox) T cdv2 hq (hr.mono (by omega))) sc__law_told (LamX.lamS_by (show LamX.lamSB (defScope s__law_right) _ = true by decide +kernel)) (fun A outer s H E f c' An Ex hq hr hz => (ea_def F_run hq hr hz (aa (da_cons (dv 3) (da_cons (dv 6) da_nil)))))) da_nil)))
    (dss_cons (ds_expr (de_append (dv 10) (de_lam (D := T._law_told) (k := 74) (ttd := sp__law_told) Bm how hq hr (fun cdv2 => gv__law_told (X := (cxOf CX0 P w K mg base ["_law_hand_here", "_law_names", "_law_deeds", "_law_plant", "_law_things", "_law_turn", "_law_thing", "_law_bent_here", "_law_seen", "_law_due", "_law_told_here"] "_law_right" (defScope s__law_right) T._law_right.f cdv A outer s H E).nox) T cdv2 hq (hr.mono (by omega))) sc__law_told (LamX.lamS_by (show LamX.lamSB (defScope s__law_right) _ = true by decide +kernel)) (fun A outer s H E f c' An Ex hq hr hz => (ea_def F_moments hq hr hz (aa (da_cons (dv 3) (da_cons (dv 6) da_nil))))))))
    (dss_one (ds_if (PW.pt (dw_or (dt_cmp (opr_ne (unit64 hr)) lr_ne (de_callB (cr_reprQ hq (unit66 hr)) lc_reprQ rfl T.z_repr bt_repr (da_cons (dv 10) da_nil)) (de_callB (cr_reprQ hq (unit66 hr)) lc_reprQ rfl T.z_repr bt_repr (da_cons (de_op opr_mul lr_mul (de_lst (da_cons (de_ifExp (dt_val (dv 9)) (de_lst da_nil) (de_lst (da_cons (dv 6) da_nil))) da_nil)) de_int) da_nil)) (nomark _)) (dw_or1 (dt_cmp (opr_ne (unit64 hr)) lr_ne (de_callB (cr_reprQ hq (unit66 hr)) lc_reprQ rfl T.z_repr bt_repr (da_cons (dv 6) da_nil)) (dv 8) (nomark _))))) (dss_one (ds_ret de_bl)) dss_nil)))))))
    (dss_one (ds_ret de_bl))))))))) fun ds μ Q E h => read__law_right ds μ Q E h
theorem ok_law (T : All K mg w.params) (Bm : BM base mg) : FnD P w base T.law 78 sp_law := by
  have F__law_hand := ok__law_hand (P := P) (w := w) (base := base) T Bm
  have F__law_right := ok__law_right (P := P) (w := w) (base := base) T Bm
  exact def_ok (k := 77) T.law.F sc_law _ (len_of (n := 1) len_law) (fun cdv A outer s H E hq hr => (dss_one (ds_ret (de_callB (cr_all rfl) lc_all rfl T.z_all bt_all (da_cons (de_lc (own := [("_law_k", 1)]) rfl sc_law.nd (blkOk_by (show blkC ["_law_script", "_law_k"] (defScope s_law) _ [("_law_k", 1)] = true by decide +kernel)) (own_name (by decide)) (di_range1 rfl T.z_range (da_cons (de_callB (call_max2 rfl) lc_i2 rfl T.z_max bt_max (da_cons de_int (da_cons (de_callB (call_min2 rfl) lc_i2 rfl T.z_min bt_min (da_cons de_int (da_cons (de_callB cr_len lc_len rfl T.z_len bt_len (da_cons (dv 0) da_nil)) da_nil))) da_nil))) da_nil)) (fun _ _ _ _ _ => (pg_name (i := 1) sc_law.nd rfl (by first | exact Or.inl rfl | exact Or.inr rfl) (by first | exact .inl rfl | exact .inr rfl))) (fun _ _ _ _ _ => dts_nil) (fun _ _ _ _ _ => (de_def F__law_right hq hr (da_cons (de_def F__law_hand hq hr (da_cons (dv 0) (da_cons (dv 1) da_nil))) da_nil)))) da_nil))))) fun ds μ Q E h => read_law ds μ Q E h
end
theorem all_mk {l : PySem.W.OpenLaw} {w : World} {K : PySem.W.Frag} {h : Heap} {mg : Str → Option Value} {fa f0 f1 f2 f3 f4 f5 f6 f7 f8 f9 f10 f11 f12 f13 f14 f15 f16 f17 f18 f19 f20 f21 f22 f23 f24 f25 f26 f27 : Addr} (X : K.In h) (G : h.Ns mainGlobals mg) (hfa : mg "law" = some (.ref fa))
    {O0 : Addr} (oa0 : PySem.W.nsIn K mainGlobals "Places" = some (some (.ref O0))) (og0 : PySem.W.plainGet K O0 Str.empty = true) (oh0 : PySem.W.hasDictIn K O0 = true) (oo0 : PySem.W.plainOver K O0 = true) (os0 : PySem.W.findIn K (.ref O0) "__setattr__" = some (some (.builtin "object.__setattr__"))) (om0 : PySem.W.makesIn K O0 = true) (ok0 : PySem.W.keepIn K (.ref O0) = true)
    (on0_child_keys : PySem.W.findIn K (.ref O0) "child_keys" = some none) (on0_parent_keys : PySem.W.findIn K (.ref O0) "parent_keys" = some none) (on0_root_key : PySem.W.findIn K (.ref O0) "root_key" = some none)
    {od0 an0 : Option Addr} {sl0 : Array (Option Value)} {oc0 kV0 dc0 pm0 cd0 ct0 : Value} (a0 : PySem.W.nsIn K mainGlobals "is_key" = some (some (.ref f0))) (l0 : K.lookup f0 = some ⟨oc0, od0, .func (PySem.W.fnOf "is_key" "is_key" (defArgs s_is_key) (defBody s_is_key) (defScope s_is_key) .none kV0 dc0 pm0 an0 cd0 ct0), sl0⟩) (c0 : PySem.W.codeIn K cd0 "is_key" = true) (k0 : PySem.W.keepIn K (.ref f0) = true)
    {od1 an1 : Option Addr} {sl1 : Array (Option Value)} {oc1 kV1 dc1 pm1 cd1 ct1 : Value} (a1 : PySem.W.nsIn K mainGlobals "parents_by_key" = some (some (.ref f1))) (l1 : K.lookup f1 = some ⟨oc1, od1, .func (PySem.W.fnOf "parents_by_key" "parents_by_key" (defArgs s_parents_by_key) (defBody s_parents_by_key) (defScope s_parents_by_key) .none kV1 dc1 pm1 an1 cd1 ct1), sl1⟩) (c1 : PySem.W.codeIn K cd1 "parents_by_key" = true) (k1 : PySem.W.keepIn K (.ref f1) = true)
    {od2 an2 : Option Addr} {sl2 : Array (Option Value)} {oc2 kV2 dc2 pm2 cd2 ct2 : Value} (a2 : PySem.W.nsIn K mainGlobals "children_by_key" = some (some (.ref f2))) (l2 : K.lookup f2 = some ⟨oc2, od2, .func (PySem.W.fnOf "children_by_key" "children_by_key" (defArgs s_children_by_key) (defBody s_children_by_key) (defScope s_children_by_key) .none kV2 dc2 pm2 an2 cd2 ct2), sl2⟩) (c2 : PySem.W.codeIn K cd2 "children_by_key" = true) (k2 : PySem.W.keepIn K (.ref f2) = true)
    {od3 an3 : Option Addr} {sl3 : Array (Option Value)} {oc3 kV3 dc3 pm3 cd3 ct3 : Value} (a3 : PySem.W.nsIn K mainGlobals "tree_from" = some (some (.ref f3))) (l3 : K.lookup f3 = some ⟨oc3, od3, .func (PySem.W.fnOf "tree_from" "tree_from" (defArgs s_tree_from) (defBody s_tree_from) (defScope s_tree_from) .none kV3 dc3 pm3 an3 cd3 ct3), sl3⟩) (c3 : PySem.W.codeIn K cd3 "tree_from" = true) (k3 : PySem.W.keepIn K (.ref f3) = true)
    {od4 an4 : Option Addr} {sl4 : Array (Option Value)} {oc4 kV4 dc4 pm4 cd4 ct4 : Value} (a4 : PySem.W.nsIn K mainGlobals "is_operation" = some (some (.ref f4))) (l4 : K.lookup f4 = some ⟨oc4, od4, .func (PySem.W.fnOf "is_operation" "is_operation" (defArgs s_is_operation) (defBody s_is_operation) (defScope s_is_operation) .none kV4 dc4 pm4 an4 cd4 ct4), sl4⟩) (c4 : PySem.W.codeIn K cd4 "is_operation" = true) (k4 : PySem.W.keepIn K (.ref f4) = true)
    {od5 an5 : Option Addr} {sl5 : Array (Option Value)} {oc5 kV5 dc5 pm5 cd5 ct5 : Value} (a5 : PySem.W.nsIn K mainGlobals "are_operations" = some (some (.ref f5))) (l5 : K.lookup f5 = some ⟨oc5, od5, .func (PySem.W.fnOf "are_operations" "are_operations" (defArgs s_are_operations) (defBody s_are_operations) (defScope s_are_operations) .none kV5 dc5 pm5 an5 cd5 ct5), sl5⟩) (c5 : PySem.W.codeIn K cd5 "are_operations" = true) (k5 : PySem.W.keepIn K (.ref f5) = true)
    {od6 an6 : Option Addr} {sl6 : Array (Option Value)} {oc6 kV6 dc6 pm6 cd6 ct6 : Value} (a6 : PySem.W.nsIn K mainGlobals "moments" = some (some (.ref f6))) (l6 : K.lookup f6 = some ⟨oc6, od6, .func (PySem.W.fnOf "moments" "moments" (defArgs s_moments) (defBody s_moments) (defScope s_moments) .none kV6 dc6 pm6 an6 cd6 ct6), sl6⟩) (c6 : PySem.W.codeIn K cd6 "moments" = true) (k6 : PySem.W.keepIn K (.ref f6) = true)
    {od7 an7 : Option Addr} {sl7 : Array (Option Value)} {oc7 kV7 dc7 pm7 cd7 ct7 : Value} (a7 : PySem.W.nsIn K mainGlobals "run" = some (some (.ref f7))) (l7 : K.lookup f7 = some ⟨oc7, od7, .func (PySem.W.fnOf "run" "run" (defArgs s_run) (defBody s_run) (defScope s_run) .none kV7 dc7 pm7 an7 cd7 ct7), sl7⟩) (c7 : PySem.W.codeIn K cd7 "run" = true) (k7 : PySem.W.keepIn K (.ref f7) = true)
    {od8 an8 : Option Addr} {sl8 : Array (Option Value)} {oc8 kV8 dc8 pm8 cd8 ct8 : Value} (a8 : PySem.W.nsIn K mainGlobals "_law_hand" = some (some (.ref f8))) (l8 : K.lookup f8 = some ⟨oc8, od8, .func (PySem.W.fnOf "_law_hand" "_law_hand" (defArgs s__law_hand) (defBody s__law_hand) (defScope s__law_hand) .none kV8 dc8 pm8 an8 cd8 ct8), sl8⟩) (c8 : PySem.W.codeIn K cd8 "_law_hand" = true) (k8 : PySem.W.keepIn K (.ref f8) = true)
    {od9 an9 : Option Addr} {sl9 : Array (Option Value)} {oc9 kV9 dc9 pm9 cd9 ct9 : Value} (a9 : PySem.W.nsIn K mainGlobals "_law_take" = some (some (.ref f9))) (l9 : K.lookup f9 = some ⟨oc9, od9, .func (PySem.W.fnOf "_law_take" "_law_take" (defArgs s__law_take) (defBody s__law_take) (defScope s__law_take) .none kV9 dc9 pm9 an9 cd9 ct9), sl9⟩) (c9 : PySem.W.codeIn K cd9 "_law_take" = true) (k9 : PySem.W.keepIn K (.ref f9) = true)
    {od10 an10 : Option Addr} {sl10 : Array (Option Value)} {oc10 kV10 dc10 pm10 cd10 ct10 : Value} (a10 : PySem.W.nsIn K mainGlobals "_law_of" = some (some (.ref f10))) (l10 : K.lookup f10 = some ⟨oc10, od10, .func (PySem.W.fnOf "_law_of" "_law_of" (defArgs s__law_of) (defBody s__law_of) (defScope s__law_of) .none kV10 dc10 pm10 an10 cd10 ct10), sl10⟩) (c10 : PySem.W.codeIn K cd10 "_law_of" = true) (k10 : PySem.W.keepIn K (.ref f10) = true)
    {od11 an11 : Option Addr} {sl11 : Array (Option Value)} {oc11 kV11 dc11 pm11 cd11 ct11 : Value} (a11 : PySem.W.nsIn K mainGlobals "_law_keys" = some (some (.ref f11))) (l11 : K.lookup f11 = some ⟨oc11, od11, .func (PySem.W.fnOf "_law_keys" "_law_keys" (defArgs s__law_keys) (defBody s__law_keys) (defScope s__law_keys) .none kV11 dc11 pm11 an11 cd11 ct11), sl11⟩) (c11 : PySem.W.codeIn K cd11 "_law_keys" = true) (k11 : PySem.W.keepIn K (.ref f11) = true)
    {od12 an12 : Option Addr} {sl12 : Array (Option Value)} {oc12 kV12 dc12 pm12 cd12 ct12 : Value} (a12 : PySem.W.nsIn K mainGlobals "_law_odd" = some (some (.ref f12))) (l12 : K.lookup f12 = some ⟨oc12, od12, .func (PySem.W.fnOf "_law_odd" "_law_odd" (defArgs s__law_odd) (defBody s__law_odd) (defScope s__law_odd) .none kV12 dc12 pm12 an12 cd12 ct12), sl12⟩) (c12 : PySem.W.codeIn K cd12 "_law_odd" = true) (k12 : PySem.W.keepIn K (.ref f12) = true)
    {od13 an13 : Option Addr} {sl13 : Array (Option Value)} {oc13 kV13 dc13 pm13 cd13 ct13 : Value} (a13 : PySem.W.nsIn K mainGlobals "_law_bent" = some (some (.ref f13))) (l13 : K.lookup f13 = some ⟨oc13, od13, .func (PySem.W.fnOf "_law_bent" "_law_bent" (defArgs s__law_bent) (defBody s__law_bent) (defScope s__law_bent) .none kV13 dc13 pm13 an13 cd13 ct13), sl13⟩) (c13 : PySem.W.codeIn K cd13 "_law_bent" = true) (k13 : PySem.W.keepIn K (.ref f13) = true)
    {od14 an14 : Option Addr} {sl14 : Array (Option Value)} {oc14 kV14 dc14 pm14 cd14 ct14 : Value} (a14 : PySem.W.nsIn K mainGlobals "_law_is_key" = some (some (.ref f14))) (l14 : K.lookup f14 = some ⟨oc14, od14, .func (PySem.W.fnOf "_law_is_key" "_law_is_key" (defArgs s__law_is_key) (defBody s__law_is_key) (defScope s__law_is_key) .none kV14 dc14 pm14 an14 cd14 ct14), sl14⟩) (c14 : PySem.W.codeIn K cd14 "_law_is_key" = true) (k14 : PySem.W.keepIn K (.ref f14) = true)
    {od15 an15 : Option Addr} {sl15 : Array (Option Value)} {oc15 kV15 dc15 pm15 cd15 ct15 : Value} (a15 : PySem.W.nsIn K mainGlobals "_law_drawn" = some (some (.ref f15))) (l15 : K.lookup f15 = some ⟨oc15, od15, .func (PySem.W.fnOf "_law_drawn" "_law_drawn" (defArgs s__law_drawn) (defBody s__law_drawn) (defScope s__law_drawn) .none kV15 dc15 pm15 an15 cd15 ct15), sl15⟩) (c15 : PySem.W.codeIn K cd15 "_law_drawn" = true) (k15 : PySem.W.keepIn K (.ref f15) = true)
    {od16 an16 : Option Addr} {sl16 : Array (Option Value)} {oc16 kV16 dc16 pm16 cd16 ct16 : Value} (a16 : PySem.W.nsIn K mainGlobals "_law_is_deed" = some (some (.ref f16))) (l16 : K.lookup f16 = some ⟨oc16, od16, .func (PySem.W.fnOf "_law_is_deed" "_law_is_deed" (defArgs s__law_is_deed) (defBody s__law_is_deed) (defScope s__law_is_deed) .none kV16 dc16 pm16 an16 cd16 ct16), sl16⟩) (c16 : PySem.W.codeIn K cd16 "_law_is_deed" = true) (k16 : PySem.W.keepIn K (.ref f16) = true)
    {od17 an17 : Option Addr} {sl17 : Array (Option Value)} {oc17 kV17 dc17 pm17 cd17 ct17 : Value} (a17 : PySem.W.nsIn K mainGlobals "_law_are_deeds" = some (some (.ref f17))) (l17 : K.lookup f17 = some ⟨oc17, od17, .func (PySem.W.fnOf "_law_are_deeds" "_law_are_deeds" (defArgs s__law_are_deeds) (defBody s__law_are_deeds) (defScope s__law_are_deeds) .none kV17 dc17 pm17 an17 cd17 ct17), sl17⟩) (c17 : PySem.W.codeIn K cd17 "_law_are_deeds" = true) (k17 : PySem.W.keepIn K (.ref f17) = true)
    {od18 an18 : Option Addr} {sl18 : Array (Option Value)} {oc18 kV18 dc18 pm18 cd18 ct18 : Value} (a18 : PySem.W.nsIn K mainGlobals "_law_told" = some (some (.ref f18))) (l18 : K.lookup f18 = some ⟨oc18, od18, .func (PySem.W.fnOf "_law_told" "_law_told" (defArgs s__law_told) (defBody s__law_told) (defScope s__law_told) .none kV18 dc18 pm18 an18 cd18 ct18), sl18⟩) (c18 : PySem.W.codeIn K cd18 "_law_told" = true) (k18 : PySem.W.keepIn K (.ref f18) = true)
    {od19 an19 : Option Addr} {sl19 : Array (Option Value)} {oc19 kV19 dc19 pm19 cd19 ct19 : Value} (a19 : PySem.W.nsIn K mainGlobals "_law_right" = some (some (.ref f19))) (l19 : K.lookup f19 = some ⟨oc19, od19, .func (PySem.W.fnOf "_law_right" "_law_right" (defArgs s__law_right) (defBody s__law_right) (defScope s__law_right) .none kV19 dc19 pm19 an19 cd19 ct19), sl19⟩) (c19 : PySem.W.codeIn K cd19 "_law_right" = true) (k19 : PySem.W.keepIn K (.ref f19) = true)
    {od20 an20 : Option Addr} {sl20 : Array (Option Value)} {oc20 kV20 dc20 pm20 cd20 ct20 : Value} (a20 : PySem.W.nsIn K mainGlobals "law" = some (some (.ref f20))) (l20 : K.lookup f20 = some ⟨oc20, od20, .func (PySem.W.fnOf "law" "law" (defArgs s_law) (defBody s_law) (defScope s_law) .none kV20 dc20 pm20 an20 cd20 ct20), sl20⟩) (c20 : PySem.W.codeIn K cd20 "law" = true) (k20 : PySem.W.keepIn K (.ref f20) = true)
    {od21 an21 : Option Addr} {sl21 : Array (Option Value)} {oc21 kV21 dc21 pm21 cd21 ct21 : Value} (a21 : PySem.W.findIn K (.ref O0) "__init__" = some (some (.ref f21))) (l21 : K.lookup f21 = some ⟨oc21, od21, .func (PySem.W.fnOf "__init__" "Places.__init__" (defArgs s_Places_init) (defBody s_Places_init) (defScope s_Places_init) .none kV21 dc21 pm21 an21 cd21 ct21), sl21⟩) (c21 : PySem.W.codeIn K cd21 "Places.__init__" = true) (k21 : PySem.W.keepIn K (.ref f21) = true) (fn21 : PySem.W.isFn K (.ref f21) = true)
    {od22 an22 : Option Addr} {sl22 : Array (Option Value)} {oc22 kV22 dc22 pm22 cd22 ct22 : Value} (a22 : PySem.W.findIn K (.ref O0) "present_tree" = some (some (.ref f22))) (l22 : K.lookup f22 = some ⟨oc22, od22, .func (PySem.W.fnOf "present_tree" "Places.present_tree" (defArgs s_Places_present_tree) (defBody s_Places_present_tree) (defScope s_Places_present_tree) .none kV22 dc22 pm22 an22 cd22 ct22), sl22⟩) (c22 : PySem.W.codeIn K cd22 "Places.present_tree" = true) (k22 : PySem.W.keepIn K (.ref f22) = true) (fn22 : PySem.W.isFn K (.ref f22) = true)
    {od23 an23 : Option Addr} {sl23 : Array (Option Value)} {oc23 kV23 dc23 pm23 cd23 ct23 : Value} (a23 : PySem.W.findIn K (.ref O0) "keys_inside" = some (some (.ref f23))) (l23 : K.lookup f23 = some ⟨oc23, od23, .func (PySem.W.fnOf "keys_inside" "Places.keys_inside" (defArgs s_Places_keys_inside) (defBody s_Places_keys_inside) (defScope s_Places_keys_inside) .none kV23 dc23 pm23 an23 cd23 ct23), sl23⟩) (c23 : PySem.W.codeIn K cd23 "Places.keys_inside" = true) (k23 : PySem.W.keepIn K (.ref f23) = true) (fn23 : PySem.W.isFn K (.ref f23) = true)
    {od24 an24 : Option Addr} {sl24 : Array (Option Value)} {oc24 kV24 dc24 pm24 cd24 ct24 : Value} (a24 : PySem.W.findIn K (.ref O0) "is_target" = some (some (.ref f24))) (l24 : K.lookup f24 = some ⟨oc24, od24, .func (PySem.W.fnOf "is_target" "Places.is_target" (defArgs s_Places_is_target) (defBody s_Places_is_target) (defScope s_Places_is_target) .none kV24 dc24 pm24 an24 cd24 ct24), sl24⟩) (c24 : PySem.W.codeIn K cd24 "Places.is_target" = true) (k24 : PySem.W.keepIn K (.ref f24) = true) (fn24 : PySem.W.isFn K (.ref f24) = true)
    {od25 an25 : Option Addr} {sl25 : Array (Option Value)} {oc25 kV25 dc25 pm25 cd25 ct25 : Value} (a25 : PySem.W.findIn K (.ref O0) "is_possible" = some (some (.ref f25))) (l25 : K.lookup f25 = some ⟨oc25, od25, .func (PySem.W.fnOf "is_possible" "Places.is_possible" (defArgs s_Places_is_possible) (defBody s_Places_is_possible) (defScope s_Places_is_possible) .none kV25 dc25 pm25 an25 cd25 ct25), sl25⟩) (c25 : PySem.W.codeIn K cd25 "Places.is_possible" = true) (k25 : PySem.W.keepIn K (.ref f25) = true) (fn25 : PySem.W.isFn K (.ref f25) = true)
    {od26 an26 : Option Addr} {sl26 : Array (Option Value)} {oc26 kV26 dc26 pm26 cd26 ct26 : Value} (a26 : PySem.W.findIn K (.ref O0) "put" = some (some (.ref f26))) (l26 : K.lookup f26 = some ⟨oc26, od26, .func (PySem.W.fnOf "put" "Places.put" (defArgs s_Places_put) (defBody s_Places_put) (defScope s_Places_put) .none kV26 dc26 pm26 an26 cd26 ct26), sl26⟩) (c26 : PySem.W.codeIn K cd26 "Places.put" = true) (k26 : PySem.W.keepIn K (.ref f26) = true) (fn26 : PySem.W.isFn K (.ref f26) = true)
    {od27 an27 : Option Addr} {sl27 : Array (Option Value)} {oc27 kV27 dc27 pm27 cd27 ct27 : Value} (a27 : PySem.W.findIn K (.ref O0) "execute" = some (some (.ref f27))) (l27 : K.lookup f27 = some ⟨oc27, od27, .func (PySem.W.fnOf "execute" "Places.execute" (defArgs s_Places_execute) (defBody s_Places_execute) (defScope s_Places_execute) .none kV27 dc27 pm27 an27 cd27 ct27), sl27⟩) (c27 : PySem.W.codeIn K cd27 "Places.execute" = true) (k27 : PySem.W.keepIn K (.ref f27) = true) (fn27 : PySem.W.isFn K (.ref f27) = true)
    {C0 N0 : Addr} {nm0 qn0 : Str} {bs0 bm0 sub0 : List Value} {sn0 : List Str} {ab0 : Bool} {col0 : Option Bool} {dd0 : Option Addr} {ka0 kb0 kc0 kd0 ke0 : Option Value} (xa0 : PySem.W.nsIn K mainGlobals "NoElement" = some (some (.ref C0))) (xl0 : K.lookup C0 = some (excClassObj nm0 qn0 C0 N0 bs0 bm0 true sn0 sub0 ab0 col0 dd0 ka0 kb0 kc0 kd0 ke0 "ValueError.__new__")) (xv0 : PySem.HandSPX.refsVE bm0 = true) (xf0 : XF K C0)
    {I0 : Addr} {xod0 xan0 : Option Addr} {xsl0 : Array (Option Value)} {xoc0 xkV0 xdc0 xpm0 xcd0 xct0 : Value} (xi0 : PySem.W.findIn K (.ref C0) "__init__" = some (some (.ref I0))) (xL0 : K.lookup I0 = some ⟨xoc0, xod0, .func (PySem.W.fnOf "__init__" "NoElement.__init__" (defArgs s_NoElement_init) (defBody s_NoElement_init) (defScope s_NoElement_init) .none xkV0 xdc0 xpm0 xan0 xcd0 xct0), xsl0⟩) (xc0 : PySem.W.codeIn K xcd0 "NoElement.__init__" = true) (xk0 : PySem.W.keepIn K (.ref I0) = true) (xt0 : PySem.W.typeIn K (.ref I0) = some (.type "function")) (xn0 : PySem.W.findIn K (.ref C0) "key" = some none)
    {C1 N1 : Addr} {nm1 qn1 : Str} {bs1 bm1 sub1 : List Value} {sn1 : List Str} {ab1 : Bool} {col1 : Option Bool} {dd1 : Option Addr} {ka1 kb1 kc1 kd1 ke1 : Option Value} (xa1 : PySem.W.nsIn K mainGlobals "BadOperations" = some (some (.ref C1))) (xl1 : K.lookup C1 = some (excClassObj nm1 qn1 C1 N1 bs1 bm1 true sn1 sub1 ab1 col1 dd1 ka1 kb1 kc1 kd1 ke1 "ValueError.__new__")) (xv1 : PySem.HandSPX.refsVE bm1 = true) (xf1 : XF K C1)
    {I1 : Addr} {xod1 xan1 : Option Addr} {xsl1 : Array (Option Value)} {xoc1 xkV1 xdc1 xpm1 xcd1 xct1 : Value} (xi1 : PySem.W.findIn K (.ref C1) "__init__" = some (some (.ref I1))) (xL1 : K.lookup I1 = some ⟨xoc1, xod1, .func (PySem.W.fnOf "__init__" "BadOperations.__init__" (defArgs s_BadOperations_init) (defBody s_BadOperations_init) (defScope s_BadOperations_init) .none xkV1 xdc1 xpm1 xan1 xcd1 xct1), xsl1⟩) (xc1 : PySem.W.codeIn K xcd1 "BadOperations.__init__" = true) (xk1 : PySem.W.keepIn K (.ref I1) = true) (xt1 : PySem.W.typeIn K (.ref I1) = some (.type "function")) (xn1 : PySem.W.findIn K (.ref C1) "value" = some none)
    {C2 N2 : Addr} {nm2 qn2 : Str} {bs2 bm2 sub2 : List Value} {sn2 : List Str} {ab2 : Bool} {col2 : Option Bool} {dd2 : Option Addr} {ka2 kb2 kc2 kd2 ke2 : Option Value} (xa2 : PySem.W.nsIn K mainGlobals "Impossible" = some (some (.ref C2))) (xl2 : K.lookup C2 = some (excClassObj nm2 qn2 C2 N2 bs2 bm2 true sn2 sub2 ab2 col2 dd2 ka2 kb2 kc2 kd2 ke2 "ValueError.__new__")) (xv2 : PySem.HandSPX.refsVE bm2 = true) (xf2 : XF K C2)
    {I2 : Addr} {xod2 xan2 : Option Addr} {xsl2 : Array (Option Value)} {xoc2 xkV2 xdc2 xpm2 xcd2 xct2 : Value} (xi2 : PySem.W.findIn K (.ref C2) "__init__" = some (some (.ref I2))) (xL2 : K.lookup I2 = some ⟨xoc2, xod2, .func (PySem.W.fnOf "__init__" "Impossible.__init__" (defArgs s_Impossible_init) (defBody s_Impossible_init) (defScope s_Impossible_init) .none xkV2 xdc2 xpm2 xan2 xcd2 xct2), xsl2⟩) (xc2 : PySem.W.codeIn K xcd2 "Impossible.__init__" = true) (xk2 : PySem.W.keepIn K (.ref I2) = true) (xt2 : PySem.W.typeIn K (.ref I2) = some (.type "function")) (xn2 : PySem.W.findIn K (.ref C2) "index" = some none)
    {CB : Addr} (ba : PySem.W.nsIn K mainGlobals "KeyedError" = some (some (.ref CB))) (bsp : PySem.W.specialIn K (.ref CB) "__getattribute__" = some (some (.builtin "type.__getattribute__"))) (brd : PySem.W.readsIn K CB (.type "type") = true) (bat : PySem.W.findCls K (.ref CB) (.type "type") "__init__" = some (.val (.builtin "ValueError.__init__"))) (bis : PySem.W.isClsIn K CB = true) (bty : PySem.W.typeIn K (.ref CB) = some (.type "type")) (bsub : PySem.W.subIn K (.ref CB) (.type "BaseException") = some true)
    (kq_BadOperations : kitQ [("NoElement", C0, bm0), ("BadOperations", C1, bm1), ("Impossible", C2, bm2)] "BadOperations" C1 = true) (kq_Impossible : kitQ [("NoElement", C0, bm0), ("BadOperations", C1, bm1), ("Impossible", C2, bm2)] "Impossible" C2 = true) (kq_KeyedError : kitQ [("NoElement", C0, bm0), ("BadOperations", C1, bm1), ("Impossible", C2, bm2)] "KeyedError" CB = true) (kq_NoElement : kitQ [("NoElement", C0, bm0), ("BadOperations", C1, bm1), ("Impossible", C2, bm2)] "NoElement" C0 = true)
    {ga_SIZES : Addr} {gs_SIZES : Array DictEntry} {gn_SIZES : Nat} (gm_SIZES : PySem.W.nsIn K mainGlobals "SIZES" = some (some (.ref ga_SIZES))) (gl_SIZES : K.lookup ga_SIZES = some ⟨.type "dict", none, .dict gs_SIZES gn_SIZES, #[]⟩) (gk_SIZES : PySem.W.KeysLit w.params gs_SIZES.toList) (ge_SIZES : EsAre gs_SIZES.toList d_SIZES) (gw_SIZES : (ga_SIZES == sysModules) = false)
    {tk_CREATE : Nat} (c_CREATE : PySem.W.nsIn K mainGlobals "CREATE" = some (some (.str "create" tk_CREATE))) {tk_LETTERS : Nat} (c_LETTERS : PySem.W.nsIn K mainGlobals "LETTERS" = some (some (.str "abcdefghijklmnopqrstuvwxyz" tk_LETTERS))) {tk_LONGEST_KEY : Nat} (c_LONGEST_KEY : PySem.W.nsIn K mainGlobals "LONGEST_KEY" = some (some (.int 8 tk_LONGEST_KEY))) {tk_MOST_OPERATIONS : Nat} (c_MOST_OPERATIONS : PySem.W.nsIn K mainGlobals "MOST_OPERATIONS" = some (some (.int 400 tk_MOST_OPERATIONS))) {tk_REMOVE : Nat} (c_REMOVE : PySem.W.nsIn K mainGlobals "REMOVE" = some (some (.str "remove" tk_REMOVE)))
    (z_abs : PySem.W.nsIn K mainGlobals "abs" = some none) (z_all : PySem.W.nsIn K mainGlobals "all" = some none) (z_enumerate : PySem.W.nsIn K mainGlobals "enumerate" = some none) (z_int : PySem.W.nsIn K mainGlobals "int" = some none) (z_isinstance : PySem.W.nsIn K mainGlobals "isinstance" = some none) (z_len : PySem.W.nsIn K mainGlobals "len" = some none) (z_list : PySem.W.nsIn K mainGlobals "list" = some none) (z_max : PySem.W.nsIn K mainGlobals "max" = some none) (z_min : PySem.W.nsIn K mainGlobals "min" = some none) (z_range : PySem.W.nsIn K mainGlobals "range" = some none) (z_repr : PySem.W.nsIn K mainGlobals "repr" = some none) (z_str : PySem.W.nsIn K mainGlobals "str" = some none) (z_tuple : PySem.W.nsIn K mainGlobals "tuple" = some none)
    (hcd : cd19 = .ref (tabOf K f19).1) (hth : PySem.W.codeHdIn K (tabOf K f19).1 (tabOf K f19).2 = true) (htn : K.lookup (tabOf K f19).2 = none) :
    ∃ (T0 : Addr) (fd : FuncData), TabAt K "_law_right" T0 ∧ K.lookup T0 = none ∧ (∀ (s : Shared) (v : Value), BindsTo s fd ⟨[v], []⟩ [("_law_script", v)]) ∧ ∀ base : Heap, K.In base → base.Ns mainGlobals mg → BM base mg → FnG l.prog w K mg base CX0 78 fa fd ["_law_script"] (LSp K sp_law) := by
  have e := hfa.symm.trans (PySem.W.mg_of X G a20)
  cases e
  have F0 := fun_mk (st := s_is_key) l0 c0 k0
  have b0 := F0.binds (ps := ["value"]) fun _ _ _ _ _ _ us hl => match us, hl with | [_], _ => rfl
  have F1 := fun_mk (st := s_parents_by_key) l1 c1 k1
  have b1 := F1.binds (ps := ["tree"]) fun _ _ _ _ _ _ us hl => match us, hl with | [_], _ => rfl
  have F2 := fun_mk (st := s_children_by_key) l2 c2 k2
  have b2 := F2.binds (ps := ["tree"]) fun _ _ _ _ _ _ us hl => match us, hl with | [_], _ => rfl
  have F3 := fun_mk (st := s_tree_from) l3 c3 k3
  have b3 := F3.binds (ps := ["key", "children"]) fun _ _ _ _ _ _ us hl => match us, hl with | [_, _], _ => rfl
  have F4 := fun_mk (st := s_is_operation) l4 c4 k4
  have b4 := F4.binds (ps := ["value"]) fun _ _ _ _ _ _ us hl => match us, hl with | [_], _ => rfl
  have F5 := fun_mk (st := s_are_operations) l5 c5 k5
  have b5 := F5.binds (ps := ["value"]) fun _ _ _ _ _ _ us hl => match us, hl with | [_], _ => rfl
  have F6 := fun_mk (st := s_moments) l6 c6 k6
  have b6 := F6.binds (ps := ["tree", "operations"]) fun _ _ _ _ _ _ us hl => match us, hl with | [_, _], _ => rfl
  have F7 := fun_mk (st := s_run) l7 c7 k7
  have b7 := F7.binds (ps := ["tree", "operations"]) fun _ _ _ _ _ _ us hl => match us, hl with | [_, _], _ => rfl
  have F8 := fun_mk (st := s__law_hand) l8 c8 k8
  have b8 := F8.binds (ps := ["_law_script", "_law_k"]) fun _ _ _ _ _ _ us hl => match us, hl with | [_, _], _ => rfl
  have F9 := fun_mk (st := s__law_take) l9 c9 k9
  have b9 := F9.binds (ps := ["_law_hand_here", "_law_many"]) fun _ _ _ _ _ _ us hl => match us, hl with | [_, _], _ => rfl
  have F10 := fun_mk (st := s__law_of) l10 c10 k10
  have b10 := F10.binds (ps := ["_law_hand_here", "_law_items"]) fun _ _ _ _ _ _ us hl => match us, hl with | [_, _], _ => rfl
  have F11 := fun_mk (st := s__law_keys) l11 c11 k11
  have b11 := F11.binds (ps := ["_law_hand_here", "_law_many"]) fun _ _ _ _ _ _ us hl => match us, hl with | [_, _], _ => rfl
  have F12 := fun_mk (st := s__law_odd) l12 c12 k12
  have b12 := F12.binds (ps := ["_law_hand_here"]) fun _ _ _ _ _ _ us hl => match us, hl with | [_], _ => rfl
  have F13 := fun_mk (st := s__law_bent) l13 c13 k13
  have b13 := F13.binds (ps := ["_law_hand_here", "_law_thing"]) fun _ _ _ _ _ _ us hl => match us, hl with | [_, _], _ => rfl
  have F14 := fun_mk (st := s__law_is_key) l14 c14 k14
  have b14 := F14.binds (ps := ["_law_thing"]) fun _ _ _ _ _ _ us hl => match us, hl with | [_], _ => rfl
  have F15 := fun_mk (st := s__law_drawn) l15 c15 k15
  have b15 := F15.binds (ps := ["_law_hand_here", "_law_names"]) fun _ _ _ _ _ _ us hl => match us, hl with | [_, _], _ => rfl
  have F16 := fun_mk (st := s__law_is_deed) l16 c16 k16
  have b16 := F16.binds (ps := ["_law_thing"]) fun _ _ _ _ _ _ us hl => match us, hl with | [_], _ => rfl
  have F17 := fun_mk (st := s__law_are_deeds) l17 c17 k17
  have b17 := F17.binds (ps := ["_law_thing"]) fun _ _ _ _ _ _ us hl => match us, hl with | [_], _ => rfl
  have F18 := fun_mk (st := s__law_told) l18 c18 k18
  have b18 := F18.binds (ps := ["_law_ask"]) fun _ _ _ _ _ _ us hl => match us, hl with | [_], _ => rfl
  have F19 := fun_mk (st := s__law_right) l19 c19 k19
  have b19 := F19.binds (ps := ["_law_hand_here"]) fun _ _ _ _ _ _ us hl => match us, hl with | [_], _ => rfl
  have F20 := fun_mk (st := s_law) l20 c20 k20
  have b20 := F20.binds (ps := ["_law_script"]) fun _ _ _ _ _ _ us hl => match us, hl with | [_], _ => rfl
  have F21 := fun_mk (st := s_Places_init) l21 c21 k21
  have b21 := F21.binds (ps := ["self", "tree"]) fun _ _ _ _ _ _ us hl => match us, hl with | [_, _], _ => rfl
  have F22 := fun_mk (st := s_Places_present_tree) l22 c22 k22
  have b22 := F22.binds (ps := ["self"]) fun _ _ _ _ _ _ us hl => match us, hl with | [_], _ => rfl
  have F23 := fun_mk (st := s_Places_keys_inside) l23 c23 k23
  have b23 := F23.binds (ps := ["self", "key"]) fun _ _ _ _ _ _ us hl => match us, hl with | [_, _], _ => rfl
  have F24 := fun_mk (st := s_Places_is_target) l24 c24 k24
  have b24 := F24.binds (ps := ["self", "parent", "before", "taken"]) fun _ _ _ _ _ _ us hl => match us, hl with | [_, _, _, _], _ => rfl
  have F25 := fun_mk (st := s_Places_is_possible) l25 c25 k25
  have b25 := F25.binds (ps := ["self", "operation"]) fun _ _ _ _ _ _ us hl => match us, hl with | [_, _], _ => rfl
  have F26 := fun_mk (st := s_Places_put) l26 c26 k26
  have b26 := F26.binds (ps := ["self", "key", "parent", "before"]) fun _ _ _ _ _ _ us hl => match us, hl with | [_, _, _, _], _ => rfl
  have F27 := fun_mk (st := s_Places_execute) l27 c27 k27
  have b27 := F27.binds (ps := ["self", "operation"]) fun _ _ _ _ _ _ us hl => match us, hl with | [_, _], _ => rfl
  have xr0 : XRow K ("NoElement", C0, bm0) := ⟨xa0, xv0, _, _, _, _, _, _, _, _, _, _, _, _, _, _, xl0⟩
  have xF0 := fun_mk (st := s_NoElement_init) xL0 xc0 xk0
  have xb0 := xF0.binds (ps := ["self", "key"]) fun _ _ _ _ _ _ us hl => match us, hl with | [_, _], _ => rfl
  have xkb0 : KBinds K _ ["self", "key"] ["key"] (kwG [.inl 0, .inr 0] 1 1) (kwG [.inl 0, .inr 0] 1 1) := kbinds_of xF0 (fun _ _ _ _ _ _ us ws h1 h2 _ => match us, ws, h1, h2 with | [_], [_], _, _ => rfl) (by simp)
  have xr1 : XRow K ("BadOperations", C1, bm1) := ⟨xa1, xv1, _, _, _, _, _, _, _, _, _, _, _, _, _, _, xl1⟩
  have xF1 := fun_mk (st := s_BadOperations_init) xL1 xc1 xk1
  have xb1 := xF1.binds (ps := ["self", "value"]) fun _ _ _ _ _ _ us hl => match us, hl with | [_, _], _ => rfl
  have xkb1 : KBinds K _ ["self", "value"] ["value"] (kwG [.inl 0, .inr 0] 1 1) (kwG [.inl 0, .inr 0] 1 1) := kbinds_of xF1 (fun _ _ _ _ _ _ us ws h1 h2 _ => match us, ws, h1, h2 with | [_], [_], _, _ => rfl) (by simp)
  have xr2 : XRow K ("Impossible", C2, bm2) := ⟨xa2, xv2, _, _, _, _, _, _, _, _, _, _, _, _, _, _, xl2⟩
  have xF2 := fun_mk (st := s_Impossible_init) xL2 xc2 xk2
  have xb2 := xF2.binds (ps := ["self", "index"]) fun _ _ _ _ _ _ us hl => match us, hl with | [_, _], _ => rfl
  have xkb2 : KBinds K _ ["self", "index"] ["index"] (kwG [.inl 0, .inr 0] 1 1) (kwG [.inl 0, .inr 0] 1 1) := kbinds_of xF2 (fun _ _ _ _ _ _ us ws h1 h2 _ => match us, ws, h1, h2 with | [_], [_], _, _ => rfl) (by simp)
  have rows : ∀ r ∈ ([("NoElement", C0, bm0), ("BadOperations", C1, bm1), ("Impossible", C2, bm2)] : List (Str × Addr × List Value)), XRow K r := fun r hr => by
    simp only [List.mem_cons, List.not_mem_nil, or_false] at hr
    rcases hr with rfl | rfl | rfl
    · exact xr0
    · exact xr1
    · exact xr2
  have isCB : (PySem.W.clsIn K CB).isSome = true := bis
  have isC_BadOperations : (PySem.W.clsIn K C1).isSome = true := by obtain ⟨cd, e, _⟩ := xrow_cls xr1; exact Option.isSome_iff_exists.mpr ⟨cd, e⟩
  have isC_Impossible : (PySem.W.clsIn K C2).isSome = true := by obtain ⟨cd, e, _⟩ := xrow_cls xr2; exact Option.isSome_iff_exists.mpr ⟨cd, e⟩
  have isC_NoElement : (PySem.W.clsIn K C0).isSome = true := by obtain ⟨cd, e, _⟩ := xrow_cls xr0; exact Option.isSome_iff_exists.mpr ⟨cd, e⟩
  have kb0 : KBinds K _ ["value"] ["value"] (kwG [.inr 0] 0 1) (kwG [.inr 0] 0 1) := kbinds_of F5 (fun _ _ _ _ _ _ us ws h1 h2 _ => match us, ws, h1, h2 with | [], [_], _, _ => rfl) (by simp)
  let T : All K mg w.params := { x_NoElement := ⟨C0, I0, _, xF0, PySem.W.mg_of X G xa0, xf0.oex xr0, xi0, xt0, xb0, xkb0, xf0.xck xa0 (fun f hf => by cases List.mem_singleton.mp hf; exact xn0)⟩, x_BadOperations := ⟨C1, I1, _, xF1, PySem.W.mg_of X G xa1, xf1.oex xr1, xi1, xt1, xb1, xkb1, xf1.xck xa1 (fun f hf => by cases List.mem_singleton.mp hf; exact xn1)⟩, x_Impossible := ⟨C2, I2, _, xF2, PySem.W.mg_of X G xa2, xf2.oex xr2, xi2, xt2, xb2, xkb2, xf2.xck xa2 (fun f hf => by cases List.mem_singleton.mp hf; exact xn2)⟩, b_KeyedError := ⟨CB, PySem.W.mg_of X G ba, bsp, brd, bat⟩, exm_KeyedError := fun y b C => exm_ok kq_KeyedError rows isCB bty bsub y b C, a_BadOperations := C1, m_BadOperations := PySem.W.mg_of X G xa1, kit_BadOperations := fun y b C => kit_ok kq_BadOperations rows isC_BadOperations xf1.ty y b C, a_Impossible := C2, m_Impossible := PySem.W.mg_of X G xa2, kit_Impossible := fun y b C => kit_ok kq_Impossible rows isC_Impossible xf2.ty y b C, a_KeyedError := CB, m_KeyedError := PySem.W.mg_of X G ba, kit_KeyedError := fun y b C => kit_ok kq_KeyedError rows isCB bty y b C, a_NoElement := C0, m_NoElement := PySem.W.mg_of X G xa0, kit_NoElement := fun y b C => kit_ok kq_NoElement rows isC_NoElement xf0.ty y b C, o_Places := ⟨O0, PySem.W.mg_of X G oa0, ⟨oa0, ⟨og0, oh0, oo0, os0⟩⟩⟩, n_Places_child_keys := on0_child_keys, n_Places_parent_keys := on0_parent_keys, n_Places_root_key := on0_root_key, is_key := ⟨_, _, F0, PySem.W.mg_of X G a0, b0⟩, parents_by_key := ⟨_, _, F1, PySem.W.mg_of X G a1, b1⟩, children_by_key := ⟨_, _, F2, PySem.W.mg_of X G a2, b2⟩, tree_from := ⟨_, _, F3, PySem.W.mg_of X G a3, b3⟩, is_operation := ⟨_, _, F4, PySem.W.mg_of X G a4, b4⟩, are_operations := ⟨_, _, F5, PySem.W.mg_of X G a5, b5⟩, moments := ⟨_, _, F6, PySem.W.mg_of X G a6, b6⟩, run := ⟨_, _, F7, PySem.W.mg_of X G a7, b7⟩, _law_hand := ⟨_, _, F8, PySem.W.mg_of X G a8, b8⟩, _law_take := ⟨_, _, F9, PySem.W.mg_of X G a9, b9⟩, _law_of := ⟨_, _, F10, PySem.W.mg_of X G a10, b10⟩, _law_keys := ⟨_, _, F11, PySem.W.mg_of X G a11, b11⟩, _law_odd := ⟨_, _, F12, PySem.W.mg_of X G a12, b12⟩, _law_bent := ⟨_, _, F13, PySem.W.mg_of X G a13, b13⟩, _law_is_key := ⟨_, _, F14, PySem.W.mg_of X G a14, b14⟩, _law_drawn := ⟨_, _, F15, PySem.W.mg_of X G a15, b15⟩, _law_is_deed := ⟨_, _, F16, PySem.W.mg_of X G a16, b16⟩, _law_are_deeds := ⟨_, _, F17, PySem.W.mg_of X G a17, b17⟩, _law_told := ⟨_, _, F18, PySem.W.mg_of X G a18, b18⟩, _law_right := ⟨_, _, F19, PySem.W.mg_of X G a19, b19⟩, law := ⟨_, _, F20, PySem.W.mg_of X G a20, b20⟩, i_Places := ⟨_, _, F21, ⟨om0, a21, fn21, ok0⟩, b21⟩, m_Places_present_tree := ⟨_, _, F22, ⟨a22, fn22, k22⟩, b22⟩, m_Places_keys_inside := ⟨_, _, F23, ⟨a23, fn23, k23⟩, b23⟩, m_Places_is_target := ⟨_, _, F24, ⟨a24, fn24, k24⟩, b24⟩, m_Places_is_possible := ⟨_, _, F25, ⟨a25, fn25, k25⟩, b25⟩, m_Places_put := ⟨_, _, F26, ⟨a26, fn26, k26⟩, b26⟩, m_Places_execute := ⟨_, _, F27, ⟨a27, fn27, k27⟩, b27⟩, z_abs := PySem.W.mg_none_of X G z_abs, z_all := PySem.W.mg_none_of X G z_all, z_enumerate := PySem.W.mg_none_of X G z_enumerate, z_int := PySem.W.mg_none_of X G z_int, z_isinstance := PySem.W.mg_none_of X G z_isinstance, z_len := PySem.W.mg_none_of X G z_len, z_list := PySem.W.mg_none_of X G z_list, z_max := PySem.W.mg_none_of X G z_max, z_min := PySem.W.mg_none_of X G z_min, z_range := PySem.W.mg_none_of X G z_range, z_repr := PySem.W.mg_none_of X G z_repr, z_str := PySem.W.mg_none_of X G z_str, z_tuple := PySem.W.mg_none_of X G z_tuple, g_SIZES := ⟨_, PySem.W.mg_of X G gm_SIZES, gw_SIZES, _, _, gl_SIZES, gk_SIZES, ge_SIZES⟩, c_CREATE := ⟨_, PySem.W.mg_of X G c_CREATE⟩, c_LETTERS := ⟨_, PySem.W.mg_of X G c_LETTERS⟩, c_LONGEST_KEY := ⟨_, PySem.W.mg_of X G c_LONGEST_KEY⟩, c_MOST_OPERATIONS := ⟨_, PySem.W.mg_of X G c_MOST_OPERATIONS⟩, c_REMOVE := ⟨_, PySem.W.mg_of X G c_REMOVE⟩, kb_are_operations_0_value := kb0 }
  exact ⟨_, PySem.W.fnOf "law" "law" (defArgs s_law) (defBody s_law) (defScope s_law) .none kV20 dc20 pm20 an20 cd20 ct20, ⟨f19, _, _, _, _, _, a19, l19, hcd, hth⟩, htn, fun s v => .of_eq rfl, fun base _ _ bm => ok_law (P := l.prog) (w := w) (base := base) T bm⟩
theorem walk {l : PySem.W.OpenLaw} {q : Program} {loose : List Str} {XP : (Str → Option Value) → Heap → Prop} {YP : World → Heap → Prop} {d : DefRec} {K : Params → PySem.W.Frag} (hn : l.most = some 63) (hdf : d.params.defaults = [])
    (hY : ∀ (w : World) (h : Heap), YP w h → (K w.params).In h)
    (hrec : ((recsOf q).any fun e => e.name == "_law_right") = true) (F : ∀ (w : World) (mg : Str → Option Value) (fa : Addr) (h : Heap), (K w.params).In h → h.Ns mainGlobals mg → mg d.name = some (.ref fa) →
      ∃ (T0 : Addr) (fd : FuncData), TabAt (K w.params) "_law_right" T0 ∧ (K w.params).lookup T0 = none ∧ (∀ (s : Shared) (u : Value), BindsTo s fd ⟨[u], []⟩ [("_law_script", u)]) ∧ ∀ base : Heap, (K w.params).In base → base.Ns mainGlobals mg → BM base mg → FnG l.prog w (K w.params) mg base CX0 78 fa fd ["_law_script"] (LSp (K w.params) sp_law)) :
    PySem.W.WalkO q loose XP YP l.row.toRowW d [] (fun f vs => PySem.call f vs) :=
  walkGT (n := 63) (k := 78) (x := "_law_script") (x0 := "_law_right") (CX := CX0) (sp := fun K => LSp K sp_law) hn (by decide) hdf ⟨rfl, by decide, by decide⟩ hY hrec F (fun K H a T ns hl hA hT hS => law_startT (q := "_law_right.<locals>.<lambda>") hA hT hS (law_takes hl)) fun _ _ _ _ z => z
end LK
open PySem PySem.W PyProof.Rows
set_option maxRecDepth 100000 in
set_option maxHeartbeats 0 in
theorem PySem.Challenge.cw_keyedmoves_k04_operations_of_any_value_holds : PySem.Challenge.rw_keyedmoves_k04_operations_of_any_value.Holds := by
  w_on; o_law; k_head; (case hw => w_witness2)
  k_fill
  refine LK.walk (l := PySem.Challenge.rw_keyedmoves_k04_operations_of_any_value) rfl rfl (fun w h Y => PySem.W.km_in_of Y) ?hrec ?F
  case hrec => kernel_rfl
  case F =>
    intro w mg fa h KX G hmg
    refine' LK.all_mk KX G hmg ?oa0 ?og0 ?oh0 ?oo0 ?os0 ?om0 ?ok0 ?on0_child_keys ?on0_parent_keys ?on0_root_key ?a0 ?l0 ?c0 ?k0 ?a1 ?l1 ?c1 ?k1 ?a2 ?l2 ?c2 ?k2 ?a3 ?l3 ?c3 ?k3 ?a4 ?l4 ?c4 ?k4 ?a5 ?l5 ?c5 ?k5 ?a6 ?l6 ?c6 ?k6 ?a7 ?l7 ?c7 ?k7 ?a8 ?l8 ?c8 ?k8 ?a9 ?l9 ?c9 ?k9 ?a10 ?l10 ?c10 ?k10 ?a11 ?l11 ?c11 ?k11 ?a12 ?l12 ?c12 ?k12 ?a13 ?l13 ?c13 ?k13 ?a14 ?l14 ?c14 ?k14 ?a15 ?l15 ?c15 ?k15 ?a16 ?l16 ?c16 ?k16 ?a17 ?l17 ?c17 ?k17 ?a18 ?l18 ?c18 ?k18 ?a19 ?l19 ?c19 ?k19 ?a20 ?l20 ?c20 ?k20 ?a21 ?l21 ?c21 ?k21 ?fn21 ?a22 ?l22 ?c22 ?k22 ?fn22 ?a23 ?l23 ?c23 ?k23 ?fn23 ?a24 ?l24 ?c24 ?k24 ?fn24 ?a25 ?l25 ?c25 ?k25 ?fn25 ?a26 ?l26 ?c26 ?k26 ?fn26 ?a27 ?l27 ?c27 ?k27 ?fn27 ?xa0 ?xl0 ?xv0 ?xf0 ?xi0 ?xL0 ?xc0 ?xk0 ?xt0 ?xn0 ?xa1 ?xl1 ?xv1 ?xf1 ?xi1 ?xL1 ?xc1 ?xk1 ?xt1 ?xn1 ?xa2 ?xl2 ?xv2 ?xf2 ?xi2 ?xL2 ?xc2 ?xk2 ?xt2 ?xn2 ?ba ?bsp ?brd ?bat ?bis ?bty ?bsub ?kq_BadOperations ?kq_Impossible ?kq_KeyedError ?kq_NoElement ?gm_SIZES ?gl_SIZES ?gk_SIZES ?ge_SIZES ?gw_SIZES ?c_CREATE ?c_LETTERS ?c_LONGEST_KEY ?c_MOST_OPERATIONS ?c_REMOVE ?z_abs ?z_all ?z_enumerate ?z_int ?z_isinstance ?z_len ?z_list ?z_max ?z_min ?z_range ?z_repr ?z_str ?z_tuple ?hcd ?hth ?htn
    (case oa0 => k_is); (case og0 => k_is); (case oh0 => k_is); (case oo0 => k_is); (case os0 => k_is); (case om0 => k_is); (case ok0 => k_is)
    (case on0_child_keys => k_is); (case on0_parent_keys => k_is); (case on0_root_key => k_is)
    (case a0 => k_is); (case l0 => k_is); (case c0 => k_is); (case k0 => k_is)
    (case a1 => k_is); (case l1 => k_is); (case c1 => k_is); (case k1 => k_is)
    (case a2 => k_is); (case l2 => k_is); (case c2 => k_is); (case k2 => k_is)
    (case a3 => k_is); (case l3 => k_is); (case c3 => k_is); (case k3 => k_is)
    (case a4 => k_is); (case l4 => k_is); (case c4 => k_is); (case k4 => k_is)
    (case a5 => k_is); (case l5 => k_is); (case c5 => k_is); (case k5 => k_is)
    (case a6 => k_is); (case l6 => k_is); (case c6 => k_is); (case k6 => k_is)
    (case a7 => k_is); (case l7 => k_is); (case c7 => k_is); (case k7 => k_is)
    (case a8 => k_is); (case l8 => k_is); (case c8 => k_is); (case k8 => k_is)
    (case a9 => k_is); (case l9 => k_is); (case c9 => k_is); (case k9 => k_is)
    (case a10 => k_is); (case l10 => k_is); (case c10 => k_is); (case k10 => k_is)
    (case a11 => k_is); (case l11 => k_is); (case c11 => k_is); (case k11 => k_is)
    (case a12 => k_is); (case l12 => k_is); (case c12 => k_is); (case k12 => k_is)
    (case a13 => k_is); (case l13 => k_is); (case c13 => k_is); (case k13 => k_is)
    (case a14 => k_is); (case l14 => k_is); (case c14 => k_is); (case k14 => k_is)
    (case a15 => k_is); (case l15 => k_is); (case c15 => k_is); (case k15 => k_is)
    (case a16 => k_is); (case l16 => k_is); (case c16 => k_is); (case k16 => k_is)
    (case a17 => k_is); (case l17 => k_is); (case c17 => k_is); (case k17 => k_is)
    (case a18 => k_is); (case l18 => k_is); (case c18 => k_is); (case k18 => k_is)
    (case a19 => k_is); (case l19 => k_is); (case c19 => k_is); (case k19 => k_is)
    (case a20 => k_is); (case l20 => k_is); (case c20 => k_is); (case k20 => k_is)
    (case a21 => k_is); (case l21 => k_is); (case c21 => k_is); (case k21 => k_is); (case fn21 => k_is)
    (case a22 => k_is); (case l22 => k_is); (case c22 => k_is); (case k22 => k_is); (case fn22 => k_is)
    (case a23 => k_is); (case l23 => k_is); (case c23 => k_is); (case k23 => k_is); (case fn23 => k_is)
    (case a24 => k_is); (case l24 => k_is); (case c24 => k_is); (case k24 => k_is); (case fn24 => k_is)
    (case a25 => k_is); (case l25 => k_is); (case c25 => k_is); (case k25 => k_is); (case fn25 => k_is)
    (case a26 => k_is); (case l26 => k_is); (case c26 => k_is); (case k26 => k_is); (case fn26 => k_is)
    (case a27 => k_is); (case l27 => k_is); (case c27 => k_is); (case k27 => k_is); (case fn27 => k_is)
    (case xa0 => k_is); (case xl0 => k_is); (case xv0 => rfl); (case xf0 => refine' DS.XF.mk ?_ ?_ ?_ ?_ ?_ ?_ ?_ ?_ ?_ ?_ ?_ <;> k_is)
    (case xi0 => k_is); (case xL0 => k_is); (case xc0 => k_is); (case xk0 => k_is); (case xt0 => k_is); (case xn0 => k_is)
    (case xa1 => k_is); (case xl1 => k_is); (case xv1 => rfl); (case xf1 => refine' DS.XF.mk ?_ ?_ ?_ ?_ ?_ ?_ ?_ ?_ ?_ ?_ ?_ <;> k_is)
    (case xi1 => k_is); (case xL1 => k_is); (case xc1 => k_is); (case xk1 => k_is); (case xt1 => k_is); (case xn1 => k_is)
    (case xa2 => k_is); (case xl2 => k_is); (case xv2 => rfl); (case xf2 => refine' DS.XF.mk ?_ ?_ ?_ ?_ ?_ ?_ ?_ ?_ ?_ ?_ ?_ <;> k_is)
    (case xi2 => k_is); (case xL2 => k_is); (case xc2 => k_is); (case xk2 => k_is); (case xt2 => k_is); (case xn2 => k_is)
    (case ba => k_is); (case bsp => k_is); (case brd => k_is); (case bat => k_is); (case bis => k_is); (case bty => k_is); (case bsub => k_is)
    (case kq_BadOperations => kernel_rfl); (case kq_Impossible => kernel_rfl); (case kq_KeyedError => kernel_rfl); (case kq_NoElement => kernel_rfl)
    (case gm_SIZES => k_is); (case gl_SIZES => k_is); (case gk_SIZES => k_keys); (case ge_SIZES => exact ⟨⟨_, rfl⟩, ⟨_, rfl⟩, ⟨⟨_, rfl⟩, ⟨_, rfl⟩, ⟨⟨_, rfl⟩, ⟨_, rfl⟩, trivial⟩⟩⟩); (case gw_SIZES => decide)
    (case c_CREATE => k_is); (case c_LETTERS => k_is); (case c_LONGEST_KEY => k_is); (case c_MOST_OPERATIONS => k_is); (case c_REMOVE => k_is)
    (case z_abs => k_is); (case z_all => k_is); (case z_enumerate => k_is); (case z_int => k_is); (case z_isinstance => k_is); (case z_len => k_is); (case z_list => k_is); (case z_max => k_is); (case z_min => k_is); (case z_range => k_is); (case z_repr => k_is); (case z_str => k_is); (case z_tuple => k_is)
    (case hcd => kernel_rfl); (case hth => kernel_rfl); (case htn => kernel_rfl)
